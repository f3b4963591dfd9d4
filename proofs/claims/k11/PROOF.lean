import PyProof.Rows.All
import Wide.All
import OpenK.AllK
import Wide.FinOn
import HandS.ForMost
import HandS.Exc
import HandS.WordsExc
import HandS.CallSlots
import HandS.HeadHook3
import HandS.HeadEnd
import HandS.Head2
import KE.KDictKeyed
import HandS.TupAny
import HandS.Deep
import HandS.Flow
import HandS.Defaults
import HandS.IsInst
import HandS.RaiseMore
import HandS.StrMore
import HandS.HeadHook4
import HandS.EndBits
import HandS.ExcInit
import HandS.ExcField
import HandS.TryOnly
import KE.GoesEnum
import HandS.Text
import HandS.DictComp
import HandS.Strs
import HandS.TupLe
import HandS.Style
import PyProof.DictCalls
import KE.KRevSl
import PySem.Challenge.RW_onescore_k11_least_tables
set_option Elab.async false
set_option linter.all false
set_option maxRecDepth 100000
set_option autoImplicit false
set_option maxHeartbeats 0
/-! PV: programs by values. D: what a Python value is, its objects within it; Rep: how the abstract heap bears it (with the addresses of what may be changed); SR: how the frame's slots bear their values. -/
namespace PV
open PySem PySem.Spec L2

/-- a test that nothing unfolds -/
noncomputable def gd (p : Prop) : Bool := @decide p (Classical.propDecidable p)
theorem gd_iff {p : Prop} : gd p = true ↔ p := @decide_eq_true_iff p (Classical.propDecidable p)
theorem gd_yes {p : Prop} (h : p) : gd p = true := gd_iff.mpr h

inductive D where
  | non | bl (b : Bool) | int (i : Int) | str (x : Str) | tup (ds : List D) | lst (ds : List D) | fro (ds : List D) | dct (kvs : List (Key × D)) | dcl (kvs : List (Key × D)) | ty (n : String) | dnt (w : World) (kvs : List (NestedKey × Int))

/-- a list that nobody changes: frozen, or of the module -/
def Fz (K : PySem.W.Frag) (H : Hp) (a : Addr) (vs : List V) : Prop :=
  (∃ o, H a = some (.frz o (.lst vs))) ∨
    ∃ (o : Obj) (its : Array Value) (n : Nat), K.lookup a = some o ∧ o.cls = .type "list" ∧ o.dict = none ∧ o.data = .seq its n ∧ its.size ≤ sizeLine ∧ Vals vs its.toList

mutual
/-- a value that is such a key -/
inductive NkV (K : PySem.W.Frag) (H : Hp) : NestedKey → V → Prop
  | num {i : Int} : NkV K H (.num i) (.int i)
  | text {x : Str} : NkV K H (.text x) (.str x)
  | tup {a : Addr} {vs : List V} {ks : List NestedKey} : SqT K H a vs → NkVs K H ks vs → NkV K H (.tup ks) (.ref a)
inductive NkVs (K : PySem.W.Frag) (H : Hp) : List NestedKey → List V → Prop
  | nil : NkVs K H [] []
  | cons {k : NestedKey} {v : V} {ks : List NestedKey} {vs : List V} : NkV K H k v → NkVs K H ks vs → NkVs K H (k :: ks) (v :: vs)
end
mutual
theorem NkV.keepG {K : PySem.W.Frag} {H H' : Hp} (it : ∀ b vs, SqT K H b vs → SqT K H' b vs) : ∀ {k : NestedKey} {v : V}, NkV K H k v → NkV K H' k v
  | _, _, .num => .num
  | _, _, .text => .text
  | _, _, .tup h h' => .tup (it _ _ h) (NkVs.keepG it h')
theorem NkVs.keepG {K : PySem.W.Frag} {H H' : Hp} (it : ∀ b vs, SqT K H b vs → SqT K H' b vs) : ∀ {k : List NestedKey} {v : List V}, NkVs K H k v → NkVs K H' k v
  | _, _, .nil => .nil
  | _, _, .cons h h' => .cons (NkV.keepG it h) (NkVs.keepG it h')
end
/-- a dict whose keys are nested tuples, by its own object -/
def NDx (w : World) (a : Addr) (xs : List (NestedKey × Addr × Value)) : HO := .ext fun h => (a == sysModules) = false ∧ xs.length ≤ sizeLine ∧ ∃ o es ep, h.get? a = some o ∧ o.ExactDict ∧ o.data = .dict es ep ∧ es.toList = xs.map (fun x => (⟨x.1.hash w, .ref x.2.1, x.2.2⟩ : DictEntry)) ∧ (xs.map (·.1)).Nodup
/-- an entry's key and value -/
def NdE (K : PySem.W.Frag) (H : Hp) (x : NestedKey × Addr × Value) (q : NestedKey × Int) : Prop := x.1 = q.1 ∧ (∃ t, x.2.2 = .int q.2 t) ∧ x.1.depth ≤ 8 ∧ NkV K H x.1 (.ref x.2.1)
mutual
inductive Rep (K : PySem.W.Frag) (H : Hp) : D → V → List Addr → Prop
  | non : Rep K H .non .non []
  | bl {b : Bool} : Rep K H (.bl b) (.bl b) []
  | int {i : Int} : Rep K H (.int i) (.int i) []
  | str {x : Str} : Rep K H (.str x) (.str x) []
  | ty {n : String} : Rep K H (.ty n) (.ty n) []
  | tup {a : Addr} {ds : List D} {vs : List V} {F : List Addr} : SqT K H a vs → Reps K H ds vs F → Rep K H (.tup ds) (.ref a) F
  | lst {a : Addr} {ds : List D} {vs : List V} {F : List Addr} : H a = some (.lst vs) → Reps K H ds vs F → Rep K H (.lst ds) (.ref a) (a :: F)
  | lsz {a : Addr} {ds : List D} {vs : List V} {F : List Addr} : Fz K H a vs → Reps K H ds vs F → Rep K H (.fro ds) (.ref a) F
  | dct {a : Addr} {kds : List (Key × D)} {kvs : List (Key × V)} {F : List Addr} : H a = some (.dK kvs) → RepK K H kds kvs F → Rep K H (.dct kds) (.ref a) (a :: F)
  | dcl {a : Addr} {kds : List (Key × D)} {kvs : List (Key × V)} {F : List Addr} : (∃ od, H a = some (.frz od (.dK kvs))) → RepK K H kds kvs F → Rep K H (.dcl kds) (.ref a) (a :: F)
  | dnt {a : Addr} {w : World} {kvs : List (NestedKey × Int)} {xs : List (NestedKey × Addr × Value)} : H a = some (NDx w a xs) → Paired (NdE K H) xs kvs → Rep K H (.dnt w kvs) (.ref a) [a]
inductive Reps (K : PySem.W.Frag) (H : Hp) : List D → List V → List Addr → Prop
  | nil : Reps K H [] [] []
  | cons {d : D} {v : V} {F : List Addr} {ds : List D} {vs : List V} {G : List Addr} : Rep K H d v F → Reps K H ds vs G → Reps K H (d :: ds) (v :: vs) (F ++ G)
inductive RepK (K : PySem.W.Frag) (H : Hp) : List (Key × D) → List (Key × V) → List Addr → Prop
  | nil : RepK K H [] [] []
  | cons {k : Key} {d : D} {v : V} {F : List Addr} {ds : List (Key × D)} {vs : List (Key × V)} {G : List Addr} : Rep K H d v F → RepK K H ds vs G → RepK K H ((k, d) :: ds) ((k, v) :: vs) (F ++ G)
end

section
variable {K : PySem.W.Frag} {H H' : Hp}

/-- what no rule changes -/
def Im : HO → Prop
  | .tup _ => True
  | .frz _ _ => True
  | _ => False
/-- the step from H to H' leaves what is protected and what is immutable -/
structure Fr (P : Addr → Prop) (H H' : Hp) : Prop where
  p : ∀ b, P b → H' b = H b
  i : ∀ b o, H b = some o → Im o → H' b = some o
theorem Fr.refl {P : Addr → Prop} {H : Hp} : Fr P H H := ⟨fun _ _ => rfl, fun _ _ h _ => h⟩
theorem Fr.trans {P : Addr → Prop} {H H1 H2 : Hp} (a : Fr P H H1) (b : Fr P H1 H2) : Fr P H H2 :=
  ⟨fun c h => (b.p c h).trans (a.p c h), fun c o h i => b.i c o (a.i c o h i) i⟩
theorem Fr.mono {P P' : Addr → Prop} {H H' : Hp} (a : Fr P H H') (h : ∀ b, P' b → P b) : Fr P' H H' := ⟨fun c q => a.p c (h c q), a.i⟩
theorem Fr.new {P : Addr → Prop} {H : Hp} {p : Addr} {o : HO} (np : H p = none) (tr : ∀ b, P b → H b ≠ none) : Fr P H (upd H p o) :=
  ⟨fun b h => upd_ne fun e => tr b h (e ▸ np), fun b u h _ => by rw [upd_ne (ne_of_none h np)]; exact h⟩
theorem Fr.put {P : Addr → Prop} {H : Hp} {a : Addr} {o o' : HO} (h : H a = some o) (m : ¬ Im o) (np : ¬ P a) : Fr P H (upd H a o') :=
  ⟨fun b hb => upd_ne fun e => np (e ▸ hb), fun b u hb hi => by
    rw [upd_ne fun e => ?_]
    · exact hb
    · subst e; rw [h] at hb; cases hb; exact m hi⟩

theorem sqT_keep {a : Addr} {vs : List V} (h : SqT K H a vs) (i : ∀ b o, H b = some o → Im o → H' b = some o) : SqT K H' a vs := by
  rcases h with (h | ⟨o, h⟩) | h
  · exact .inl (.inl (i _ _ h trivial))
  · exact .inl (.inr ⟨o, i _ _ h trivial⟩)
  · exact .inr h
theorem fz_keep {a : Addr} {vs : List V} (h : Fz K H a vs) (i : ∀ b o, H b = some o → Im o → H' b = some o) : Fz K H' a vs := by
  rcases h with ⟨o, h⟩ | h
  · exact .inl ⟨o, i _ _ h trivial⟩
  · exact .inr h
theorem fz_sq {a : Addr} {vs : List V} (h : Fz K H a vs) : SqL K H a vs := by
  rcases h with h | h
  · exact .inl (.inr h)
  · exact .inr h

mutual
theorem Rep.keepG (it : ∀ b vs, SqT K H b vs → SqT K H' b vs) (il : ∀ b vs, Fz K H b vs → Fz K H' b vs) : ∀ {d : D} {v : V} {F : List Addr}, Rep K H d v F → (∀ a, a ∈ F → H' a = H a) → Rep K H' d v F
  | .non, _, _, h, _ => by cases h; exact .non
  | .bl _, _, _, h, _ => by cases h; exact .bl
  | .int _, _, _, h, _ => by cases h; exact .int
  | .str _, _, _, h, _ => by cases h; exact .str
  | .ty _, _, _, h, _ => by cases h; exact .ty
  | .tup ds, _, _, h, f => by
    cases h with
    | tup h1 h2 => exact .tup (it _ _ h1) (Reps.keepG it il h2 f)
  | .lst ds, _, _, h, f => by
    cases h with
    | lst h1 h2 => exact .lst ((f _ List.mem_cons_self).trans h1) (Reps.keepG it il h2 fun a m => f a (List.mem_cons_of_mem _ m))
  | .fro ds, _, _, h, f => by
    cases h with
    | lsz h1 h2 => exact .lsz (il _ _ h1) (Reps.keepG it il h2 f)
  | .dct kds, _, _, h, f => by
    cases h with
    | dct h1 h2 => exact .dct ((f _ List.mem_cons_self).trans h1) (RepK.keepG it il h2 fun a m => f a (List.mem_cons_of_mem _ m))
  | .dcl kds, _, _, h, f => by
    cases h with
    | dcl h1 h2 => exact .dcl (let ⟨od, e⟩ := h1; ⟨od, (f _ List.mem_cons_self).trans e⟩) (RepK.keepG it il h2 fun a m => f a (List.mem_cons_of_mem _ m))
  | .dnt w kds, _, _, h, f => by
    cases h with
    | dnt h1 h2 => exact .dnt ((f _ List.mem_cons_self).trans h1) (Paired.mapP h2 fun a b z => ⟨z.1, z.2.1, z.2.2.1, z.2.2.2.keepG it⟩)
theorem Reps.keepG (it : ∀ b vs, SqT K H b vs → SqT K H' b vs) (il : ∀ b vs, Fz K H b vs → Fz K H' b vs) : ∀ {ds : List D} {vs : List V} {F : List Addr}, Reps K H ds vs F → (∀ a, a ∈ F → H' a = H a) → Reps K H' ds vs F
  | [], _, _, h, _ => by cases h; exact .nil
  | d :: ds, _, _, h, f => by
    cases h with
    | cons h1 h2 => exact .cons (Rep.keepG it il h1 fun a m => f a (List.mem_append_left _ m)) (Reps.keepG it il h2 fun a m => f a (List.mem_append_right _ m))
theorem RepK.keepG (it : ∀ b vs, SqT K H b vs → SqT K H' b vs) (il : ∀ b vs, Fz K H b vs → Fz K H' b vs) : ∀ {ds : List (Key × D)} {vs : List (Key × V)} {F : List Addr}, RepK K H ds vs F → (∀ a, a ∈ F → H' a = H a) → RepK K H' ds vs F
  | [], _, _, h, _ => by cases h; exact .nil
  | d :: ds, _, _, h, f => by
    cases h with
    | cons h1 h2 => exact .cons (Rep.keepG it il h1 fun a m => f a (List.mem_append_left _ m)) (RepK.keepG it il h2 fun a m => f a (List.mem_append_right _ m))
end
theorem Rep.keep (i : ∀ b o, H b = some o → Im o → H' b = some o) {d : D} {v : V} {F : List Addr} (h : Rep K H d v F) (f : ∀ a, a ∈ F → H' a = H a) : Rep K H' d v F := Rep.keepG (fun _ _ h => sqT_keep h i) (fun _ _ h => fz_keep h i) h f
theorem Reps.keep (i : ∀ b o, H b = some o → Im o → H' b = some o) {d : List D} {v : List V} {F : List Addr} (h : Reps K H d v F) (f : ∀ a, a ∈ F → H' a = H a) : Reps K H' d v F := Reps.keepG (fun _ _ h => sqT_keep h i) (fun _ _ h => fz_keep h i) h f
theorem RepK.keep (i : ∀ b o, H b = some o → Im o → H' b = some o) {d : List (Key × D)} {v : List (Key × V)} {F : List Addr} (h : RepK K H d v F) (f : ∀ a, a ∈ F → H' a = H a) : RepK K H' d v F := RepK.keepG (fun _ _ h => sqT_keep h i) (fun _ _ h => fz_keep h i) h f
mutual
theorem Rep.tr : ∀ {d : D} {v : V} {F : List Addr}, Rep K H d v F → ∀ a, a ∈ F → H a ≠ none
  | .non, _, _, h, _, m => by cases h; cases m
  | .bl _, _, _, h, _, m => by cases h; cases m
  | .int _, _, _, h, _, m => by cases h; cases m
  | .str _, _, _, h, _, m => by cases h; cases m
  | .ty _, _, _, h, _, m => by cases h; cases m
  | .tup ds, _, _, h, a, m => by
    cases h with
    | tup h1 h2 => exact Reps.tr h2 a m
  | .lst ds, _, _, h, a, m => by
    cases h with
    | lst h1 h2 =>
      rcases List.mem_cons.mp m with rfl | m
      · rw [h1]; simp
      · exact Reps.tr h2 a m
  | .fro ds, _, _, h, a, m => by
    cases h with
    | lsz h1 h2 => exact Reps.tr h2 a m
  | .dct kds, _, _, h, a, m => by
    cases h with
    | dct h1 h2 =>
      rcases List.mem_cons.mp m with rfl | m
      · rw [h1]; simp
      · exact RepK.tr h2 a m
  | .dcl kds, _, _, h, a, m => by
    cases h with
    | dcl h1 h2 =>
      rcases List.mem_cons.mp m with rfl | m
      · obtain ⟨od, e⟩ := h1
        rw [e]; simp
      · exact RepK.tr h2 a m
  | .dnt w kds, _, _, h, a, m => by
    cases h with
    | dnt h1 h2 =>
      rw [List.mem_singleton.mp m, h1]; simp
theorem Reps.tr : ∀ {ds : List D} {vs : List V} {F : List Addr}, Reps K H ds vs F → ∀ a, a ∈ F → H a ≠ none
  | [], _, _, h, _, m => by cases h; cases m
  | d :: ds, _, _, h, a, m => by
    cases h with
    | cons h1 h2 =>
      rcases List.mem_append.mp m with m | m
      · exact Rep.tr h1 a m
      · exact Reps.tr h2 a m
theorem RepK.tr : ∀ {ds : List (Key × D)} {vs : List (Key × V)} {F : List Addr}, RepK K H ds vs F → ∀ a, a ∈ F → H a ≠ none
  | [], _, _, h, _, m => by cases h; cases m
  | d :: ds, _, _, h, a, m => by
    cases h with
    | cons h1 h2 =>
      rcases List.mem_append.mp m with m | m
      · exact Rep.tr h1 a m
      · exact RepK.tr h2 a m
end
theorem Reps.length : ∀ {ds : List D} {vs : List V} {F : List Addr}, Reps K H ds vs F → ds.length = vs.length
  | [], _, _, h => by cases h; rfl
  | d :: ds, _, _, h => by
    cases h with
    | cons h1 h2 => simp [Reps.length h2]
theorem Reps.get : ∀ {ds : List D} {vs : List V} {F : List Addr} {i : Nat} {d : D}, Reps K H ds vs F → ds[i]? = some d → ∃ v G, vs[i]? = some v ∧ Rep K H d v G ∧ ∀ a, a ∈ G → a ∈ F
  | [], _, _, _, _, h, e => by simp at e
  | d :: ds, _, _, i, d', h, e => by
    cases h with
    | @cons _ v F' _ vs G h1 h2 =>
      cases i with
      | zero =>
        simp at e; subst e
        exact ⟨v, F', rfl, h1, fun a m => List.mem_append_left _ m⟩
      | succ i =>
        obtain ⟨w, G', e1, e2, e3⟩ := Reps.get (i := i) h2 (by simpa using e)
        exact ⟨w, G', by simpa using e1, e2, fun a m => List.mem_append_right _ (e3 a m)⟩
theorem Reps.append : ∀ {ds : List D} {vs : List V} {F : List Addr} {ds' : List D} {vs' : List V} {F' : List Addr}, Reps K H ds vs F → Reps K H ds' vs' F' → Reps K H (ds ++ ds') (vs ++ vs') (F ++ F')
  | [], _, _, _, _, _, h, h' => by cases h; exact h'
  | d :: ds, _, _, _, _, _, h, h' => by
    cases h with
    | cons h1 h2 =>
      rw [List.append_assoc]
      exact .cons h1 (Reps.append h2 h')
theorem Reps.one {d : D} {v : V} {F : List Addr} (h : Rep K H d v F) : Reps K H [d] [v] F := by
  have := Reps.cons h (Reps.nil (K := K) (H := H))
  rwa [List.append_nil] at this
/-- a part of a sequence -/
theorem Reps.sub : ∀ {ds : List D} {vs : List V} {F : List Addr} (a n : Nat), Reps K H ds vs F → ∃ G, Reps K H ((ds.drop a).take n) ((vs.drop a).take n) G ∧ ∀ b, b ∈ G → b ∈ F
  | [], _, _, a, n, h => by cases h; exact ⟨[], by simpa using Reps.nil, fun _ m => m⟩
  | d :: ds, _, _, a, n, h => by
    cases h with
    | @cons _ v F' _ vs G h1 h2 =>
      cases a with
      | succ a =>
        obtain ⟨G', e1, e2⟩ := Reps.sub a n h2
        exact ⟨G', by simpa using e1, fun b m => List.mem_append_right _ (e2 b m)⟩
      | zero =>
        cases n with
        | zero => exact ⟨[], by simpa using Reps.nil, fun _ m => by cases m⟩
        | succ n =>
          obtain ⟨G', e1, e2⟩ := Reps.sub 0 n h2
          refine ⟨F' ++ G', ?_, fun b m => ?_⟩
          · have := Reps.cons h1 e1
            simpa using this
          · rcases List.mem_append.mp m with m | m
            · exact List.mem_append_left _ m
            · exact List.mem_append_right _ (e2 b m)
end

/-- what stands at a and may be changed -/
inductive RepM (K : PySem.W.Frag) (H : Hp) : D → Addr → List Addr → Prop
  | lst {a : Addr} {ds : List D} {vs : List V} {F : List Addr} : H a = some (.lst vs) → Reps K H ds vs F → RepM K H (.lst ds) a F
  | dct {a : Addr} {kds : List (Key × D)} {kvs : List (Key × V)} {F : List Addr} : H a = some (.dK kvs) → RepK K H kds kvs F → RepM K H (.dct kds) a F
  | dcl {a : Addr} {kds : List (Key × D)} {kvs : List (Key × V)} {F : List Addr} : (∃ od, H a = some (.frz od (.dK kvs))) → RepK K H kds kvs F → RepM K H (.dcl kds) a F
  | dnt {a : Addr} {w : World} {kvs : List (NestedKey × Int)} {xs : List (NestedKey × Addr × Value)} : H a = some (NDx w a xs) → Paired (NdE K H) xs kvs → RepM K H (.dnt w kvs) a []
section
variable {K : PySem.W.Frag} {H H' : Hp} {d : D} {a : Addr} {F : List Addr}
theorem RepM.rep (h : RepM K H d a F) : Rep K H d (.ref a) (a :: F) := by
  cases h with
  | lst h1 h2 => exact .lst h1 h2
  | dct h1 h2 => exact .dct h1 h2
  | dcl h1 h2 => exact .dcl h1 h2
  | dnt h1 h2 => exact .dnt h1 h2
theorem RepM.keep (h : RepM K H d a F) (i : ∀ b o, H b = some o → Im o → H' b = some o) (f : ∀ b, b ∈ a :: F → H' b = H b) : RepM K H' d a F := by
  cases h with
  | lst h1 h2 => exact .lst ((f _ List.mem_cons_self).trans h1) (Reps.keep i h2 fun b m => f b (List.mem_cons_of_mem _ m))
  | dct h1 h2 => exact .dct ((f _ List.mem_cons_self).trans h1) (RepK.keep i h2 fun b m => f b (List.mem_cons_of_mem _ m))
  | dcl h1 h2 => exact .dcl (let ⟨od, e⟩ := h1; ⟨od, (f _ List.mem_cons_self).trans e⟩) (RepK.keep i h2 fun b m => f b (List.mem_cons_of_mem _ m))
  | dnt h1 h2 => exact .dnt ((f _ List.mem_cons_self).trans h1) (Paired.mapP h2 fun a b z => ⟨z.1, z.2.1, z.2.2.1, z.2.2.2.keepG fun _ _ h => sqT_keep h i⟩)
theorem RepM.here (h : RepM K H d a F) : H a ≠ none := by
  cases h with
  | lst h1 h2 => rw [h1]; simp
  | dct h1 h2 => rw [h1]; simp
  | dcl h1 h2 => obtain ⟨od, e⟩ := h1; rw [e]; simp
  | dnt h1 h2 => rw [h1]; simp
/-- not locked -/
def D.ul (d : D) : Prop := ∀ k, d ≠ .dcl k
theorem RepM.mut (h : RepM K H d a F) (hu : d.ul) : ∃ o, H a = some o ∧ ¬ Im o := by
  cases h with
  | lst h1 h2 => exact ⟨_, h1, fun q => q⟩
  | dct h1 h2 => exact ⟨_, h1, fun q => q⟩
  | dcl h1 h2 => exact absurd rfl (hu _)
  | dnt h1 h2 => exact ⟨_, h1, fun q => q⟩
end

/-! ### the frame's slots -/
inductive Own where
  | sh | ow | io
  deriving DecidableEq
abbrev Slot := Option (Own × D)
abbrev S := List Slot

structure SR (K : PySem.W.Frag) (P B : Addr → Prop) (ia : Nat → Addr) (s : S) (σ : St) (H : Hp) (Fs : Nat → List Addr) : Prop where
  len : s.length = σ.length
  rep : ∀ i o d, s[i]? = some (some (o, d)) → ∃ v, σ[i]? = some (some v) ∧ Rep K H d v (Fs i)
  own : ∀ i o d, s[i]? = some (some (o, d)) → o ≠ Own.sh → ∃ a F, σ[i]? = some (some (V.ref a)) ∧ Fs i = a :: F ∧ RepM K H d a F ∧ a ∉ F ∧ ¬ P a ∧ ∀ j, j ≠ i → a ∉ Fs j
  iov : ∀ i d, s[i]? = some (some (Own.io, d)) → σ[i]? = some (some (V.ref (ia i)))
  dead : ∀ i, (∀ o d, s[i]? ≠ some (some (o, d))) → Fs i = []
  inB : ∀ j a, a ∈ Fs j → B a
  tr : ∀ b, P b → H b ≠ none
  nb : ∀ b, H b = none → B b

/-- no slot of one's own has its object among these -/
def NoOwn (s : S) (σ : St) (F : List Addr) : Prop := ∀ (i : Nat) (o : Own) (d : D) (a : Addr), s[i]? = some (some (o, d)) → o ≠ Own.sh → σ[i]? = some (some (V.ref a)) → a ∉ F
theorem NoOwn.nil {s : S} {σ : St} : NoOwn s σ [] := fun _ _ _ _ _ _ _ m => nomatch m
theorem NoOwn.sub {s : S} {σ : St} {F G : List Addr} (h : NoOwn s σ F) (q : ∀ a, a ∈ G → a ∈ F) : NoOwn s σ G := fun i o d a e n x m => h i o d a e n x (q a m)
theorem NoOwn.app {s : S} {σ : St} {F G : List Addr} (h : NoOwn s σ F) (h' : NoOwn s σ G) : NoOwn s σ (F ++ G) := fun i o d a e n x m => (List.mem_append.mp m).elim (h i o d a e n x) (h' i o d a e n x)

section
variable {K : PySem.W.Frag} {P B : Addr → Prop} {ia : Nat → Addr} {s : S} {σ : St} {H H' : Hp} {Fs : Nat → List Addr}
theorem SR.trF (r : SR K P B ia s σ H Fs) {j : Nat} {a : Addr} (h : a ∈ Fs j) : H a ≠ none := by
  by_cases q : ∃ o d, s[j]? = some (some (o, d))
  · obtain ⟨o, d, q⟩ := q
    obtain ⟨v, _, e⟩ := r.rep j o d q
    exact e.tr a h
  · rw [r.dead j fun o d z => q ⟨o, d, z⟩] at h; cases h
/-- fewer protected -/
theorem SR.weak {P' : Addr → Prop} (r : SR K P B ia s σ H Fs) (h : ∀ b, P' b → P b) : SR K P' B ia s σ H Fs :=
  ⟨r.len, r.rep, fun i o d e n => let ⟨a, F, h1, h2, h3, h4, h5, h6⟩ := r.own i o d e n; ⟨a, F, h1, h2, h3, h4, fun q => h5 (h a q), h6⟩, r.iov, r.dead, r.inB, fun b q => r.tr b (h b q), r.nb⟩
/-- the heap goes on, all that the slots hold stays -/
theorem SR.go (r : SR K P B ia s σ H Fs) (f : ∀ j a, a ∈ Fs j → H' a = H a) (i : ∀ b o, H b = some o → Im o → H' b = some o) (p : ∀ b, P b → H' b = H b) (nb : ∀ b, H' b = none → B b) : SR K P B ia s σ H' Fs :=
  ⟨r.len, fun j o d e => let ⟨v, h1, h2⟩ := r.rep j o d e; ⟨v, h1, h2.keep i fun a m => f j a m⟩,
   fun j o d e n => let ⟨a, F, h1, h2, h3, h4, h5, h6⟩ := r.own j o d e n; ⟨a, F, h1, h2, h3.keep i fun b m => f j b (by rw [h2]; exact m), h4, h5, h6⟩, r.iov, r.dead, r.inB, fun b q => by rw [p b q]; exact r.tr b q, nb⟩
theorem SR.new (r : SR K P B ia s σ H Fs) {p : Addr} {o : HO} (np : H p = none) : SR K P B ia s σ (upd H p o) Fs :=
  r.go (fun j a m => upd_ne fun e => r.trF m (e ▸ np)) (Fr.new np r.tr).i (Fr.new np r.tr).p fun b e => r.nb b (by
    by_cases h : b = p
    · subst h; exact np
    · rw [upd_ne h] at e; exact e)
/-- more protected: a value whose parts no slot may change -/
theorem SR.prot (r : SR K P B ia s σ H Fs) {F : List Addr} (t : ∀ a, a ∈ F → H a ≠ none) (no : NoOwn s σ F) : SR K (fun b => P b ∨ b ∈ F) B ia s σ H Fs :=
  ⟨r.len, r.rep, fun i o d e n => by
    obtain ⟨a, F', h1, h2, h3, h4, h5, h6⟩ := r.own i o d e n
    exact ⟨a, F', h1, h2, h3, h4, fun q => q.elim h5 (no i o d a e n h1), h6⟩, r.iov, r.dead, r.inB, fun b q => q.elim (r.tr b) (t b), r.nb⟩
theorem SR.noOwn (r : SR K P B ia s σ H Fs) {F : List Addr} (h : ∀ a, a ∈ F → P a) : NoOwn s σ F := fun i o d a e n x m => by
  obtain ⟨a', F', h1, h2, h3, h4, h5, h6⟩ := r.own i o d e n
  rw [x] at h1; cases h1; exact h5 (h a m)
theorem SR.noOwnF (r : SR K P B ia s σ H Fs) {j : Nat} {d : D} (e : s[j]? = some (some (Own.sh, d))) : NoOwn s σ (Fs j) := fun i o d' a e' n x m => by
  obtain ⟨a', F', h1, h2, h3, h4, h5, h6⟩ := r.own i o d' e' n
  rw [x] at h1; cases h1
  refine h6 j ?_ m
  rintro rfl
  rw [e] at e'; cases e'; exact n rfl
/-- an own slot's inside -/
theorem SR.noOwnT (r : SR K P B ia s σ H Fs) {j : Nat} {o : Own} {d : D} {a : Addr} {F : List Addr} (e : s[j]? = some (some (o, d))) (n : o ≠ Own.sh) (eF : Fs j = a :: F) : NoOwn s σ F := fun i o' d' b e' n' x m => by
  obtain ⟨a', F', h1, h2, h3, h4, h5, h6⟩ := r.own i o' d' e' n'
  rw [x] at h1; cases h1
  by_cases q : j = i
  · subst q
    rw [eF] at h2; cases h2; exact h4 m
  · exact h6 j q (by rw [eF]; exact List.mem_cons_of_mem _ m)
end

/-! ### results -/
/-- an exception: its class by its name, its fields -/
structure Exn where
  cls : Str
  fs : List (Str × D)
inductive Res (α : Type) where
  | ok (a : α) (s : S)
  | exc (x : Exn) (s : S)
  | stuck
abbrev M (α : Type) := S → Res α
def Res.bind {α β : Type} (r : Res α) (f : α → S → Res β) : Res β := match r with
  | .ok a s => f a s
  | .exc x s => .exc x s
  | .stuck => .stuck
@[simp] theorem Res.bind_ok {α β : Type} (a : α) (s : S) (f : α → S → Res β) : (Res.ok a s).bind f = f a s := rfl
@[simp] theorem Res.bind_exc {α β : Type} (x : Exn) (s : S) (f : α → S → Res β) : (Res.exc x s : Res α).bind f = .exc x s := rfl
@[simp] theorem Res.bind_stuck {α β : Type} (f : α → S → Res β) : (Res.stuck : Res α).bind f = .stuck := rfl

/-- how an exception lies in the heap -/
def XRep (K : PySem.W.Frag) (H : Hp) (x : Exn) (cls : Value) (dx : Option Addr) : Prop :=
  cls = .ref (He.ga K x.cls) ∧ ((x.fs = [] ∧ dx = none) ∨ ∃ b kvs F, dx = some b ∧ H b = some (.xd kvs) ∧ kvs.map (·.1) = x.fs.map (·.1) ∧ Reps K H (x.fs.map (·.2)) (kvs.map (·.2)) F)

/-- a value has come -/
def RV (K : PySem.W.Frag) (P B : Addr → Prop) (ia : Nat → Addr) (s : S) (σ : St) (H H' : Hp) (fr : Bool) (d : D) (v : V) : Prop :=
  ∃ F Fs, Rep K H' d v F ∧ Fr P H H' ∧ (∀ a, a ∈ F → B a) ∧ SR K (fun b => P b ∨ b ∈ F) B ia s σ H' Fs ∧ (fr = true → ∃ a G, v = .ref a ∧ F = a :: G ∧ RepM K H' d a G ∧ a ∉ G ∧ ¬ P a ∧ ∀ j, a ∉ Fs j)
def RX (K : PySem.W.Frag) (P B : Addr → Prop) (ia : Nat → Addr) (s : S) (σ : St) (H H' : Hp) (x : Exn) (cls : Value) (dx : Option Addr) : Prop :=
  ∃ Fs, Fr P H H' ∧ SR K P B ia s σ H' Fs ∧ XRep K H' x cls dx
/-- what is asked of a result: Q's way, E's way -/
def Post {α : Type} (E : Exn → S → Prop) (Q : α → S → Prop) : Res α → Prop
  | .ok a s => Q a s
  | .exc x s => E x s
  | .stuck => False
@[simp] theorem Post.ok {α : Type} {E : Exn → S → Prop} {Q : α → S → Prop} {a : α} {s : S} : Post E Q (.ok a s) = Q a s := rfl
@[simp] theorem Post.exc {α : Type} {E : Exn → S → Prop} {Q : α → S → Prop} {x : Exn} {s : S} : Post E Q (.exc x s) = E x s := rfl
@[simp] theorem Post.stuck {α : Type} {E : Exn → S → Prop} {Q : α → S → Prop} : Post E Q .stuck = False := rfl
theorem Post.bind {α β : Type} {E : Exn → S → Prop} {Q : β → S → Prop} {r : Res α} {f : α → S → Res β} (h : Post E Q (r.bind f)) : Post E (fun a s => Post E Q (f a s)) r := by
  cases r <;> exact h
theorem Post.mono {α : Type} {E E' : Exn → S → Prop} {Q Q' : α → S → Prop} {r : Res α} (h : Post E Q r) (e : ∀ x s, E x s → E' x s) (q : ∀ a s, Q a s → Q' a s) : Post E' Q' r := by
  cases r with
  | ok a s => exact q a s h
  | exc x s => exact e x s h
  | stuck => exact h
/-- the reading of an expression by its function f -/
def tD (K : PySem.W.Frag) (E : WX) (f : M (Bool × D)) : TE := fun σ H Q => ∃ P B ia s Fs, SR K P B ia s σ H Fs ∧
  Post (fun x s' => ∀ cls dx H', RX K P B ia s' σ H H' x cls dx → E cls dx σ H') (fun r s' => ∀ v H', RV K P B ia s' σ H H' r.1 r.2 v → Q v H') (f s)
theorem RX.weak {K : PySem.W.Frag} {P P' B : Addr → Prop} {ia : Nat → Addr} {s : S} {σ : St} {H H1 H' : Hp} {x : Exn} {cls : Value} {dx : Option Addr} (h : RX K P B ia s σ H1 H' x cls dx) (f : Fr P' H H1) (q : ∀ b, P' b → P b) : RX K P' B ia s σ H H' x cls dx :=
  let ⟨Fs, h1, h2, h3⟩ := h
  ⟨Fs, f.trans (h1.mono q), h2.weak q, h3⟩

theorem _root_.L2.PE.imp {X : Cx} {e : Expr} {t t' : TE} (h : PE X e t) (q : ∀ σ H Q, t' σ H Q → t σ H Q) : PE X e t' := ⟨fun pins s σ H Q I w => h.run pins s σ H Q I (q σ H Q w)⟩
theorem _root_.L2.PT.imp {X : Cx} {e : Expr} {t t' : TT} (h : PT X e t) (q : ∀ σ H Q, t' σ H Q → t σ H Q) : PT X e t' := ⟨fun pins s σ H Q I w => h.run pins s σ H Q I (q σ H Q w)⟩
theorem _root_.L2.PW.imp {X : Cx} {e : Expr} {t t' : TT} (h : PW X e t) (q : ∀ σ H Q, t' σ H Q → t σ H Q) : PW X e t' := ⟨fun wh pins s σ H Q I w => h.run wh pins s σ H Q I (q σ H Q w)⟩
theorem _root_.L2.PA.imp {X : Cx} {e : List Expr} {t t' : TA} (h : PA X e t) (q : ∀ σ H Q, t' σ H Q → t σ H Q) : PA X e t' := ⟨fun pos pins s σ H Q I w => h.run pos pins s σ H Q I (q σ H Q w)⟩
theorem _root_.L2.PS.imp {X : Cx} {e : Stmt} {t t' : TS} (h : PS X e t) (q : ∀ D σ H, t' D σ H → t D σ H) : PS X e t' := ⟨fun pins s σ H Q I w => h.run pins s σ H Q I (q Q σ H w)⟩
theorem _root_.L2.PSs.imp {X : Cx} {e : List Stmt} {t t' : TS} (h : PSs X e t) (q : ∀ D σ H, t' D σ H → t D σ H) : PSs X e t' := ⟨fun pins s σ H Q I w => h.run pins s σ H Q I (q Q σ H w)⟩

/-- what an operand brings -/
structure OV (K : PySem.W.Frag) (B : Addr → Prop) (s : S) (σ : St) (H : Hp) (d : D) (x : V) (F : List Addr) : Prop where
  rep : Rep K H d x F
  inB : ∀ a, a ∈ F → B a
  inn : NoOwn s σ F ∨ ∃ a G, x = .ref a ∧ F = a :: G ∧ RepM K H d a G ∧ NoOwn s σ G

/-- an operand: an expression, or a slot that is only looked at -/
inductive Opd where
  | ex (f : M (Bool × D))
  | sl (i : Nat)
def rdO (K : PySem.W.Frag) (E : WX) : Opd → TE
  | .ex f => tD K E f
  | .sl i => tVar i
def Opd.run : Opd → M (Option D)
  | .ex f => fun s => (f s).bind fun r s' => .ok (some r.2) s'
  | .sl i => fun s => match s[i]? with
    | some (some _) => .ok none s
    | _ => .stuck
def Opd.get (s : S) : Opd → Option D → Option D
  | .ex _, x => x
  | .sl i, _ => match s[i]? with
    | some (some (_, d)) => some d
    | _ => none
/-- one operand -/
def op1 {α : Type} (a : Opd) (k : D → S → Res α) : M α := fun s => (a.run s).bind fun x s1 => match a.get s1 x with
  | some dx => k dx s1
  | none => .stuck
/-- two operands -/
def op2 {α : Type} (a b : Opd) (k : D → D → S → Res α) : M α := fun s => (a.run s).bind fun x s1 => (b.run s1).bind fun y s2 => match a.get s2 x, b.get s2 y with
  | some dx, some dy => k dx dy s2
  | _, _ => .stuck

section
variable {K : PySem.W.Frag} {P B : Addr → Prop} {ia : Nat → Addr} {s : S} {σ : St} {H H' : Hp} {Fs : Nat → List Addr} {E : WX}
theorem SR.opd (r : SR K P B ia s σ H Fs) {i : Nat} {o : Own} {d : D} (e : s[i]? = some (some (o, d))) : ∃ v F, σ[i]? = some (some v) ∧ OV K B s σ H d v F := by
  by_cases n : o = Own.sh
  · subst n
    obtain ⟨v, h1, h2⟩ := r.rep i _ d e
    exact ⟨v, Fs i, h1, h2, fun a m => r.inB i a m, .inl (r.noOwnF e)⟩
  · obtain ⟨a, F, h1, h2, h3, h4, h5, h6⟩ := r.own i o d e n
    exact ⟨.ref a, a :: F, h1, h3.rep, fun b m => r.inB i b (by rw [h2]; exact m), .inr ⟨a, F, rfl, rfl, h3, r.noOwnT e n h2⟩⟩
theorem SR.slot_lt (r : SR K P B ia s σ H Fs) {i : Nat} {o : Own} {d : D} (e : s[i]? = some (some (o, d))) : ∃ v, σ[i]? = some (some v) := let ⟨v, h, _⟩ := r.rep i o d e; ⟨v, h⟩

theorem rd1 {a : Opd} {R : V → Hp → Prop} (r : SR K P B ia s σ H Fs)
    (h : Post (fun x s' => ∀ cls dx H', RX K P B ia s' σ H H' x cls dx → E cls dx σ H') (fun d s' => ∀ x H' F Fs', OV K B s' σ H' d x F → Fr P H H' → SR K P B ia s' σ H' Fs' → R x H') (op1 a Res.ok s)) : rdO K E a σ H R := by
  cases a with
  | ex f =>
    refine ⟨P, B, ia, s, Fs, r, ?_⟩
    unfold op1 Opd.run at h
    have h' := Post.bind (Post.bind h)
    refine h'.mono (fun _ _ q => q) fun a s' q v H' w => ?_
    obtain ⟨F, Fs', h1, h2, h3, h4, h5⟩ := w
    exact q v H' F Fs' ⟨h1, h3, .inl (h4.noOwn fun a m => .inr m)⟩ h2 (h4.weak fun b m => .inl m)
  | sl i =>
    simp only [op1, Opd.run] at h
    show ∃ v, σ[i]? = some (some v) ∧ R v H
    match e : s[i]? with
    | some (some (o, d)) =>
      simp only [e, Res.bind_ok, Opd.get] at h
      obtain ⟨v, F, h1, h2⟩ := r.opd e
      exact ⟨v, h1, h v H F Fs h2 Fr.refl r⟩
    | some none => simp only [e] at h; exact h.elim
    | none => simp only [e] at h; exact h.elim
theorem rd2 {a b : Opd} {R : V → V → Hp → Prop} (r : SR K P B ia s σ H Fs)
    (h : Post (fun x s' => ∀ cls dx H', RX K P B ia s' σ H H' x cls dx → E cls dx σ H') (fun (q : D × D) s' => ∀ x y H' F G Fs', OV K B s' σ H' q.1 x F → OV K B s' σ H' q.2 y G → Fr P H H' → SR K P B ia s' σ H' Fs' → R x y H') (op2 a b (fun x y s => .ok (x, y) s) s)) :
    rdO K E a σ H fun x H1 => rdO K E b σ H1 fun y H2 => R x y H2 := by
  cases a with
  | ex f =>
    refine ⟨P, B, ia, s, Fs, r, ?_⟩
    unfold op2 at h
    have h' := Post.bind (Post.bind (r := (f s).bind fun (r : Bool × D) s' => Res.ok (some r.2) s') h)
    refine h'.mono (fun _ _ q => q) fun a s1 q v H1 w => ?_
    obtain ⟨F, Fs1, h1, h2, h3, h4, h5⟩ := w
    cases b with
    | ex g =>
      refine ⟨_, B, ia, s1, Fs1, h4, ?_⟩
      have q' := Post.bind (Post.bind (r := (g s1).bind fun (r : Bool × D) s' => Res.ok (some r.2) s') q)
      refine q'.mono (fun x s2 e cls dx H2 w2 => e cls dx H2 (w2.weak h2 fun b m => .inl m)) fun c s2 e v2 H2 w2 => ?_
      obtain ⟨G, Fs2, g1, g2, g3, g4, g5⟩ := w2
      exact e v v2 H2 F G Fs2 ⟨h1.keep g2.i fun a m => g2.p a (.inr m), h3, .inl (g4.noOwn fun a m => .inl (.inr m))⟩ ⟨g1, g3, .inl (g4.noOwn fun a m => .inr m)⟩
        (h2.trans (g2.mono fun b m => .inl m)) (g4.weak fun b m => .inl (.inl m))
    | sl i =>
      show ∃ w, σ[i]? = some (some w) ∧ R v w H1
      simp only [Post.ok, Opd.run] at q
      match e : s1[i]? with
      | some (some (o, d)) =>
        simp only [e, Res.bind_ok, Opd.get, Post.ok] at q
        obtain ⟨w, G, e1, e2⟩ := h4.opd e
        exact ⟨w, e1, q v w H1 F G Fs1 ⟨h1, h3, .inl (h4.noOwn fun a m => .inr m)⟩ e2 h2 (h4.weak fun b m => .inl m)⟩
      | some none => simp only [e] at q; exact (show False from q).elim
      | none => simp only [e] at q; exact (show False from q).elim
  | sl i =>
    simp only [op2, Opd.run] at h
    match e : s[i]? with
    | some none => simp only [e] at h; exact h.elim
    | none => simp only [e] at h; exact h.elim
    | some (some (o, d)) =>
      obtain ⟨v, F, hv, h2⟩ := r.opd e
      simp only [e, Res.bind_ok] at h
      cases b with
      | ex g =>
        have h' := Post.bind (Post.bind (r := (g s).bind fun (r : Bool × D) s' => Res.ok (some r.2) s') h)
        refine ⟨v, hv, P, B, ia, s, Fs, r, h'.mono (fun _ _ q => q) fun c s2 q v2 H2 w2 => ?_⟩
        obtain ⟨G, Fs2, g1, g2, g3, g4, g5⟩ := w2
        simp only [Post.ok, Opd.get] at q
        match e : s2[i]? with
        | some (some (o, d)) =>
          simp only [e, Post.ok] at q
          obtain ⟨w, F, e1, e2⟩ := g4.opd e
          rw [hv] at e1; cases e1
          exact q v v2 H2 F G Fs2 e2 ⟨g1, g3, .inl (g4.noOwn fun a m => .inr m)⟩ g2 (g4.weak fun b m => .inl m)
        | some none => simp only [e] at q; exact (show False from q).elim
        | none => simp only [e] at q; exact (show False from q).elim
      | sl j =>
        simp only [Opd.run] at h
        match e' : s[j]? with
        | some (some (o', d')) =>
          simp only [e, e', Res.bind_ok, Opd.get] at h
          obtain ⟨v', F', h1', h2'⟩ := r.opd e'
          exact ⟨v, hv, v', h1', h v v' H F F' Fs h2 h2' Fr.refl r⟩
        | some none => simp only [e'] at h; exact h.elim
        | none => simp only [e'] at h; exact h.elim
end
end PV

/-! PV: expressions by values. -/
namespace PV
open PySem PySem.Spec L2
section
variable {K : PySem.W.Frag} {P B : Addr → Prop} {ia : Nat → Addr} {s : S} {σ : St} {H H' H1 : Hp} {Fs : Nat → List Addr} {E : WX} {d : D} {v : V} {F : List Addr}
theorem RV.part (rep : Rep K H' d v F) (no : NoOwn s σ F) (b : ∀ a, a ∈ F → B a) (fr : Fr P H H') (r : SR K P B ia s σ H' Fs) : RV K P B ia s σ H H' false d v :=
  ⟨F, Fs, rep, fr, b, r.prot rep.tr no, fun h => nomatch h⟩
theorem RV.flat (rep : Rep K H' d v []) (fr : Fr P H H') (r : SR K P B ia s σ H' Fs) : RV K P B ia s σ H H' false d v := .part rep .nil (fun _ m => nomatch m) fr r
theorem SR.ownTr (r : SR K P B ia s σ H Fs) {i : Nat} {o : Own} {d : D} {a : Addr} (e : s[i]? = some (some (o, d))) (n : o ≠ Own.sh) (h : σ[i]? = some (some (V.ref a))) : H a ≠ none := by
  obtain ⟨a', F', h1, h2, h3, _⟩ := r.own i o d e n
  rw [h] at h1; cases h1
  exact h3.here
theorem NoOwn.cons (r : SR K P B ia s σ H Fs) {p : Addr} (np : H p = none) (no : NoOwn s σ F) : NoOwn s σ (p :: F) := fun i o d a e n x m => by
  rcases List.mem_cons.mp m with rfl | m
  · exact r.ownTr e n x np
  · exact no i o d a e n x m
/-- a new list -/
theorem RV.lst {ds : List D} {vs : List V} {p : Addr} (h : Reps K H1 ds vs F) (no : NoOwn s σ F) (b : ∀ a, a ∈ F → B a) (fr : Fr P H H1) (r : SR K P B ia s σ H1 Fs) (np : H1 p = none) : RV K P B ia s σ H (upd H1 p (.lst vs)) true (.lst ds) (.ref p) := by
  have r2 : SR K P B ia s σ (upd H1 p (.lst vs)) Fs := r.new np
  have f1 : Fr P H1 (upd H1 p (.lst vs)) := Fr.new np r.tr
  have nF : ∀ a, a ∈ F → a ≠ p := fun a m e => h.tr a m (e ▸ np)
  have h2 : Reps K (upd H1 p (.lst vs)) ds vs F := Reps.keep f1.i h fun a m => upd_ne (nF a m)
  refine ⟨p :: F, Fs, .lst upd_same h2, fr.trans f1, fun a m => ?_, r2.prot (fun a m => ?_) (NoOwn.cons r np no), fun _ => ⟨p, F, rfl, rfl, .lst upd_same h2, fun m => nF p m rfl, fun q => r.tr p q np, fun j m => r.trF m np⟩⟩
  · rcases List.mem_cons.mp m with rfl | m
    · exact r.nb _ np
    · exact b a m
  · rcases List.mem_cons.mp m with rfl | m
    · rw [upd_same]; simp
    · exact h2.tr a m
/-- a new tuple -/
theorem RV.tup {ds : List D} {vs : List V} {p : Addr} (h : Reps K H1 ds vs F) (no : NoOwn s σ F) (b : ∀ a, a ∈ F → B a) (fr : Fr P H H1) (r : SR K P B ia s σ H1 Fs) (np : H1 p = none) : RV K P B ia s σ H (upd H1 p (.tup vs)) false (.tup ds) (.ref p) := by
  have f1 : Fr P H1 (upd H1 p (.tup vs)) := Fr.new np r.tr
  exact .part (.tup (SqT.of upd_same) (Reps.keep f1.i h fun a m => upd_ne fun e => h.tr a m (e ▸ np))) no b (fr.trans f1) (r.new np)

/-! ### what an operand's inside is -/
theorem OV.lst_inv {ds : List D} {x : V} (h : OV K B s σ H (.lst ds) x F) : ∃ a vs G, x = .ref a ∧ H a = some (.lst vs) ∧ Reps K H ds vs G ∧ NoOwn s σ G ∧ ∀ b, b ∈ G → B b := by
  cases h.rep with
  | @lst a _ vs G h1 h2 =>
    refine ⟨a, vs, G, rfl, h1, h2, ?_, fun b m => h.inB b (List.mem_cons_of_mem _ m)⟩
    rcases h.inn with no | ⟨a', G', e1, e2, _, no⟩
    · exact no.sub fun b m => List.mem_cons_of_mem _ m
    · cases e2; exact no
theorem OV.tup_inv {ds : List D} {x : V} (h : OV K B s σ H (.tup ds) x F) : ∃ a vs, x = .ref a ∧ SqT K H a vs ∧ Reps K H ds vs F ∧ NoOwn s σ F := by
  cases h.rep with
  | @tup a _ vs G h1 h2 =>
    refine ⟨a, vs, rfl, h1, h2, ?_⟩
    rcases h.inn with no | ⟨a', G', e1, e2, h3, no⟩
    · exact no
    · cases h3
theorem OV.fro_inv {ds : List D} {x : V} (h : OV K B s σ H (.fro ds) x F) : ∃ a vs, x = .ref a ∧ Fz K H a vs ∧ Reps K H ds vs F ∧ NoOwn s σ F := by
  cases h.rep with
  | @lsz a _ vs G h1 h2 =>
    refine ⟨a, vs, rfl, h1, h2, ?_⟩
    rcases h.inn with no | ⟨a', G', e1, e2, h3, no⟩
    · exact no
    · cases h3
theorem OV.dct_inv {kds : List (Key × D)} {x : V} (h : OV K B s σ H (.dct kds) x F) : ∃ a kvs G, x = .ref a ∧ H a = some (.dK kvs) ∧ RepK K H kds kvs G ∧ NoOwn s σ G ∧ ∀ b, b ∈ G → B b := by
  cases h.rep with
  | @dct a _ vs G h1 h2 =>
    refine ⟨a, vs, G, rfl, h1, h2, ?_, fun b m => h.inB b (List.mem_cons_of_mem _ m)⟩
    rcases h.inn with no | ⟨a', G', e1, e2, _, no⟩
    · exact no.sub fun b m => List.mem_cons_of_mem _ m
    · cases e2; exact no
theorem OV.dcl_inv {kds : List (Key × D)} {x : V} (h : OV K B s σ H (.dcl kds) x F) : ∃ a kvs G, x = .ref a ∧ (∃ od, H a = some (.frz od (.dK kvs))) ∧ RepK K H kds kvs G ∧ NoOwn s σ G ∧ ∀ b, b ∈ G → B b := by
  cases h.rep with
  | @dcl a _ vs G h1 h2 =>
    refine ⟨a, vs, G, rfl, h1, h2, ?_, fun b m => h.inB b (List.mem_cons_of_mem _ m)⟩
    rcases h.inn with no | ⟨a', G', e1, e2, _, no⟩
    · exact no.sub fun b m => List.mem_cons_of_mem _ m
    · cases e2; exact no
theorem OV.int_inv {i : Int} {x : V} (h : OV K B s σ H (.int i) x F) : x = .int i := by cases h.rep; rfl
theorem OV.str_inv {i : Str} {x : V} (h : OV K B s σ H (.str i) x F) : x = .str i := by cases h.rep; rfl
theorem OV.bl_inv {i : Bool} {x : V} (h : OV K B s σ H (.bl i) x F) : x = .bl i := by cases h.rep; rfl
theorem OV.non_inv {x : V} (h : OV K B s σ H .non x F) : x = .non := by cases h.rep; rfl
end

/-! ### two operands by their values -/
/-- the value function g is what the rule r asks -/
def OpD (K : PySem.W.Frag) (g : D → D → Option (Bool × D)) (r : R2) : Prop :=
  ∀ {P B : Addr → Prop} {ia : Nat → Addr} {s : S} {σ : St} {H H0 : Hp} {Fs : Nat → List Addr} {dx dy : D} {q : Bool × D} {x y : V} {F G : List Addr} {Q : VK}, SR K P B ia s σ H Fs → OV K B s σ H dx x F → OV K B s σ H dy y G → Fr P H0 H → g dx dy = some q →
    (∀ v H', RV K P B ia s σ H0 H' q.1 q.2 v → Q v H') → r x y H Q
theorem OpD.or {K : PySem.W.Frag} {g g' : D → D → Option (Bool × D)} {r r' : R2} (h : OpD K g r) (h' : OpD K g' r') : OpD K (fun x y => (g x y).or (g' x y)) (fun x y H Q => r x y H Q ∨ r' x y H Q) := by
  intro P B ia s σ H H0 Fs dx dy q x y F G Q a b c d e f
  have e : (g dx dy).or (g' dx dy) = some q := e
  show r x y H Q ∨ r' x y H Q
  cases z : g dx dy with
  | some w => rw [z] at e; exact .inl (h a b c d (z.trans e) f)
  | none => rw [z] at e; exact .inr (h' a b c d e f)
/-- a pure two-place operation -/
def binM (g : D → D → Option (Bool × D)) (a b : Opd) : M (Bool × D) := op2 a b fun x y s => match g x y with
  | some r => .ok r s
  | none => .stuck
theorem op2_post {α : Type} {a b : Opd} {k : D → D → S → Res α} {s : S} {E : Exn → S → Prop} {Q : α → S → Prop} (h : Post E Q (op2 a b k s)) : Post E (fun (q : D × D) s' => Post E Q (k q.1 q.2 s')) (op2 a b (fun x y s => .ok (x, y) s) s) := by
  unfold op2 at h ⊢
  cases e : a.run s with
  | ok x s1 =>
    rw [e] at h
    simp only [Res.bind_ok] at h ⊢
    cases e2 : b.run s1 with
    | ok y s2 =>
      rw [e2] at h
      simp only [Res.bind_ok] at h ⊢
      cases e3 : a.get s2 x with
      | some dx =>
        cases e4 : b.get s2 y with
        | some dy => rw [e3, e4] at h; exact h
        | none => rw [e3, e4] at h; exact h
      | none => rw [e3] at h; exact h
    | exc z s2 => rw [e2] at h; exact h
    | stuck => rw [e2] at h; exact h
  | exc z s2 => rw [e] at h; exact h
  | stuck => rw [e] at h; exact h
theorem op1_post {α : Type} {a : Opd} {k : D → S → Res α} {s : S} {E : Exn → S → Prop} {Q : α → S → Prop} (h : Post E Q (op1 a k s)) : Post E (fun q s' => Post E Q (k q s')) (op1 a Res.ok s) := by
  unfold op1 at h ⊢
  cases e : a.run s with
  | ok x s1 =>
    rw [e] at h
    simp only [Res.bind_ok] at h ⊢
    cases e3 : a.get s1 x with
    | some dx => rw [e3] at h; exact h
    | none => rw [e3] at h; exact h
  | exc z s2 => rw [e] at h; exact h
  | stuck => rw [e] at h; exact h
theorem tD_op {K : PySem.W.Frag} {E : WX} {g : D → D → Option (Bool × D)} {r : R2} (hd : OpD K g r) {a b : Opd} (σ : St) (H : Hp) (Q : VK) (h : tD K E (binM g a b) σ H Q) : tOp r (rdO K E a) (rdO K E b) σ H Q := by
  obtain ⟨P, B, ia, s, Fs, R, h⟩ := h
  refine rd2 R ((op2_post h).mono (fun _ _ q => q) fun q s' w x y H' F G Fs' o1 o2 fr R' => ?_)
  cases e : g q.1 q.2 with
  | none => rw [e] at w; exact (show False from w).elim
  | some z =>
    rw [e] at w
    exact hd R' o1 o2 fr e w

section
variable {X : Cx} {E : WX} {a b c : Expr} {oa ob oc : Opd} {pos : Pos}
theorem de_op {op : Operator} {g : D → D → Option (Bool × D)} {r : R2} (ho : OpR X (binaryOp op) r) (hd : OpD X.K g r) (ha : PE X a (rdO X.K E oa)) (hb : PE X b (rdO X.K E ob)) : PE X (.BinOp a op b pos) (tD X.K E (binM g oa ob)) :=
  (pe_op ho ha hb).imp (tD_op hd)
theorem de_cmp {op : CmpOp} {g : D → D → Option (Bool × D)} {r : R2} (ho : OpR X (compareOp op) r) (hd : OpD X.K g r) (ha : PE X a (rdO X.K E oa)) (hb : PE X b (rdO X.K E ob)) (hm : behindInMarks op b = false) : PE X (.Compare a [op] [b] pos) (tD X.K E (binM g oa ob)) :=
  (pe_cmpR ho ha hb hm).imp (tD_op hd)
theorem de_ix {g : D → D → Option (Bool × D)} {r : R2} (ho : IxR X r) (hd : OpD X.K g r) (ha : PE X a (rdO X.K E oa)) (hb : PE X b (rdO X.K E ob)) (hs : PlainIx b := by exact fun _ _ => rfl) : PE X (.Subscript a b pos) (tD X.K E (binM g oa ob)) :=
  (pe_ix ho ha hb hs).imp (tD_op hd)
theorem OpR.or {f : Value → Value → Sem Value} {r r' : R2} (h : OpR X f r) (h' : OpR X f r') : OpR X f (fun x y H Q => r x y H Q ∨ r' x y H Q) := fun pins s σ H x y v u Q I rx ry q => q.elim (h pins s σ H x y v u Q I rx ry) (h' pins s σ H x y v u Q I rx ry)
end

/-! ### + - * // % -/
def addD : D → D → Option (Bool × D)
  | .int i, .int j => some (false, .int (i + j))
  | .str x, .str y => if x.length + y.length ≤ sizeLine then some (false, .str (x ++ y)) else none
  | .lst xs, .lst ys => if xs.length + ys.length ≤ sizeLine then some (true, .lst (xs ++ ys)) else none
  | .tup xs, .tup ys => if xs.length + ys.length ≤ sizeLine then some (false, .tup (xs ++ ys)) else none
  | _, _ => none
def rAdd (K : PySem.W.Frag) : R2 := fun x y H Q => rI0 (fun i j => .int (i + j)) x y H Q ∨ (∃ i j, x = .str i ∧ y = .str j ∧ i.length + j.length ≤ sizeLine ∧ Q (.str (i ++ j)) H) ∨ rCat x y H Q ∨ rCatA K x y H Q
theorem opd_add {K : PySem.W.Frag} : OpD K addD (rAdd K) := by
  intro P B ia s σ H H0 Fs dx dy q x y F G Q R o1 o2 fr e k
  unfold addD at e
  split at e
  · cases e; exact .inl ⟨_, _, o1.int_inv, o2.int_inv, k _ _ (.flat .int fr R)⟩
  · split at e
    · rename_i hz
      cases e
      exact .inr (.inl ⟨_, _, o1.str_inv, o2.str_inv, hz, k _ _ (.flat .str fr R)⟩)
    · cases e
  · split at e
    · rename_i hz
      cases e
      obtain ⟨a, vs, F', e1, h1, h2, no, ib⟩ := o1.lst_inv
      obtain ⟨a', vs', F'', e1', h1', h2', no', ib'⟩ := o2.lst_inv
      exact .inr (.inr (.inl ⟨a, a', vs, vs', e1, e1', h1, h1', by rw [← h2.length, ← h2'.length]; exact hz, fun p np => k _ _ (.lst (h2.append h2') (no.app no') (fun b m => (List.mem_append.mp m).elim (ib b) (ib' b)) fr R np)⟩))
    · cases e
  · split at e
    · rename_i hz
      cases e
      obtain ⟨a, vs, e1, h1, h2, no⟩ := o1.tup_inv
      obtain ⟨a', vs', e1', h1', h2', no'⟩ := o2.tup_inv
      refine .inr (.inr (.inr ⟨a, a', vs, vs', e1, e1', h1, h1', by rw [← h2.length, ← h2'.length]; exact hz, fun en => ?_, fun _ en => ?_, fun _ _ p np => k _ _ (.tup (h2.append h2') (no.app no') (fun b m => (List.mem_append.mp m).elim (o1.inB b) (o2.inB b)) fr R np)⟩))
      · subst en
        cases h2
        exact k _ _ (.part (.tup h1' h2') no' o2.inB fr R)
      · subst en
        cases h2'
        exact k _ _ (.part (F := F) (.tup h1 (by simpa using h2)) no o1.inB fr R)
    · cases e
  · cases e
theorem or_add {X : Cx} : OpR X (binaryOp .Add) (rAdd X.K) := OpR.or op_add (OpR.or op_add_str (OpR.or op_cat op_catA))
/-- two ints, an int -/
def intD (C : Int → Int → Bool) (f : Int → Int → Int) : D → D → Option (Bool × D)
  | .int i, .int j => if C i j then some (false, .int (f i j)) else none
  | _, _ => none
theorem opd_int {K : PySem.W.Frag} {C : Int → Int → Bool} {C' : Int → Int → Prop} {f : Int → Int → Int} (h : ∀ i j, C i j = true → C' i j) : OpD K (intD C f) (rI C' fun i j => .int (f i j)) := by
  intro P B ia s σ H H0 Fs dx dy q x y F G Q R o1 o2 fr e k
  unfold intD at e
  split at e
  · split at e
    · rename_i hc
      cases e; exact ⟨_, _, o1.int_inv, o2.int_inv, h _ _ hc, k _ _ (.flat .int fr R)⟩
    · cases e
  · cases e
theorem opd_int0 {K : PySem.W.Frag} {f : Int → Int → Int} : OpD K (intD (fun _ _ => true) f) (rI0 fun i j => .int (f i j)) := by
  intro P B ia s σ H H0 Fs dx dy q x y F G Q R o1 o2 fr e k
  unfold intD at e
  split at e
  · cases e; exact ⟨_, _, o1.int_inv, o2.int_inv, k _ _ (.flat .int fr R)⟩
  · cases e
abbrev subD := intD (fun _ _ => true) fun i j => i - j
noncomputable abbrev mulD := intD (fun i j => gd ((-(2 ^ 64) < i ∧ i < 2 ^ 64) ∨ (-(2 ^ 64) < j ∧ j < 2 ^ 64))) fun i j => i * j
noncomputable abbrev divD := intD (fun _ j => gd (0 < j ∧ j < 1073741824)) fun i j => i / j
abbrev modD := intD (fun _ j => decide (0 < j)) fun i j => i % j
theorem opd_mul {K : PySem.W.Frag} : OpD K mulD (rI CMul fun i j => .int (i * j)) := opd_int fun _ _ h => gd_iff.mp h
theorem opd_div {K : PySem.W.Frag} : OpD K divD (rI CDiv fun i j => .int (i / j)) := opd_int fun _ _ h => gd_iff.mp h
theorem opd_mod {K : PySem.W.Frag} : OpD K modD (rI (fun _ j => 0 < j) fun i j => .int (i % j)) := opd_int fun _ _ h => of_decide_eq_true h

/-! ### comparisons -/
mutual
/-- the value as data -/
def D.py : D → Option PyData
  | .non => some .none
  | .bl b => some (.bool b)
  | .int i => some (.int i)
  | .str x => some (.str x)
  | .tup ds => (D.pys ds).map .tuple
  | .lst ds => (D.pys ds).map .list
  | .fro ds => (D.pys ds).map .list
  | .dct _ => none
  | .dcl _ => none
  | .dnt _ _ => none
  | .ty _ => none
def D.pys : List D → Option (List PyData)
  | [] => some []
  | d :: ds => (D.py d).bind fun x => (D.pys ds).map fun xs => x :: xs
end
mutual
theorem Rep.dp {K : PySem.W.Frag} {H : Hp} : ∀ {d : D} {v : V} {F : List Addr} {p : PyData}, Rep K H d v F → d.py = some p → Dp K H v p
  | .non, _, _, _, h, e => by cases h; cases e; exact .non
  | .bl _, _, _, _, h, e => by cases h; cases e; exact .bl _
  | .int _, _, _, _, h, e => by cases h; cases e; exact .int _
  | .str _, _, _, _, h, e => by cases h; cases e; exact .str _
  | .ty _, _, _, _, h, e => by cases e
  | .dct _, _, _, _, h, e => by cases e
  | .dcl _, _, _, _, h, e => by cases e
  | .dnt _ _, _, _, _, h, e => by cases e
  | .tup ds, _, _, _, h, e => by
    cases h with
    | tup h1 h2 =>
      rw [D.py] at e
      obtain ⟨ps, e1, e2⟩ := Option.map_eq_some_iff.mp e
      subst e2
      exact .tup h1 (Reps.dp h2 e1)
  | .lst ds, _, _, _, h, e => by
    cases h with
    | lst h1 h2 =>
      rw [D.py] at e
      obtain ⟨ps, e1, e2⟩ := Option.map_eq_some_iff.mp e
      subst e2
      exact .lst (SqL.of h1) (Reps.dp h2 e1)
  | .fro ds, _, _, _, h, e => by
    cases h with
    | lsz h1 h2 =>
      rw [D.py] at e
      obtain ⟨ps, e1, e2⟩ := Option.map_eq_some_iff.mp e
      subst e2
      exact .lst (fz_sq h1) (Reps.dp h2 e1)
theorem Reps.dp {K : PySem.W.Frag} {H : Hp} : ∀ {ds : List D} {vs : List V} {F : List Addr} {ps : List PyData}, Reps K H ds vs F → D.pys ds = some ps → DpAll K H vs ps
  | [], _, _, _, h, e => by cases h; cases e; exact .nil
  | d :: ds, _, _, _, h, e => by
    cases h with
    | cons h1 h2 =>
      rw [D.pys] at e
      obtain ⟨x, e1, e2⟩ := Option.bind_eq_some_iff.mp e
      obtain ⟨xs, e3, e4⟩ := Option.map_eq_some_iff.mp e2
      subst e4
      exact .cons (Rep.dp h1 e1) (Reps.dp h2 e3)
end
def D.shp (d : D) : Option PyData := d.py.bind fun p => if SeqAt.shaped p then some p else none
theorem D.shp_inv {d : D} {p : PyData} (h : d.shp = some p) : d.py = some p ∧ SeqAt.shaped p = true := by
  unfold D.shp at h
  obtain ⟨x, e1, e2⟩ := Option.bind_eq_some_iff.mp h
  split at e2
  · rename_i hs; cases e2; exact ⟨e1, hs⟩
  · cases e2
/-- == -/
def eqD (x y : D) : Option Bool := x.shp.bind fun p => y.shp.map fun q => PyData.eqv p q
def eqDD (neg : Bool) (x y : D) : Option (Bool × D) := (eqD x y).map fun b => (false, .bl (if neg then !b else b))
theorem opd_eq {K : PySem.W.Frag} : OpD K (eqDD false) (rEqD K) := by
  intro P B ia s σ H H0 Fs dx dy q x y F G Q R o1 o2 fr e k
  unfold eqDD eqD at e
  obtain ⟨b, e1, e2⟩ := Option.map_eq_some_iff.mp e
  obtain ⟨p, e3, e4⟩ := Option.bind_eq_some_iff.mp e1
  obtain ⟨p', e5, e6⟩ := Option.map_eq_some_iff.mp e4
  obtain ⟨g1, g2⟩ := D.shp_inv e3
  obtain ⟨g3, g4⟩ := D.shp_inv e5
  subst e2 e6
  exact ⟨p, p', o1.rep.dp g1, o2.rep.dp g3, g2, g4, k _ _ (.flat .bl fr R)⟩
theorem opd_ne {K : PySem.W.Frag} : OpD K (eqDD true) (rNeD K) := by
  intro P B ia s σ H H0 Fs dx dy q x y F G Q R o1 o2 fr e k
  unfold eqDD eqD at e
  obtain ⟨b, e1, e2⟩ := Option.map_eq_some_iff.mp e
  obtain ⟨p, e3, e4⟩ := Option.bind_eq_some_iff.mp e1
  obtain ⟨p', e5, e6⟩ := Option.map_eq_some_iff.mp e4
  obtain ⟨g1, g2⟩ := D.shp_inv e3
  obtain ⟨g3, g4⟩ := D.shp_inv e5
  subst e2 e6
  exact ⟨p, p', o1.rep.dp g1, o2.rep.dp g3, g2, g4, k _ _ (.flat .bl fr R)⟩
/-- < and its like: ints, texts -/
def ordD (f : Int → Int → Bool) (g : List Nat → List Nat → Bool) : D → D → Option (Bool × D)
  | .int i, .int j => some (false, .bl (f i j))
  | .str x, .str y => some (false, .bl (g x.cps.toList y.cps.toList))
  | _, _ => none
abbrev ltD := ordD (fun i j => decide (i < j)) fun x y => decide (x < y)
abbrev leD := ordD (fun i j => decide (i ≤ j)) fun x y => !decide (y < x)
abbrev gtD := ordD (fun i j => decide (j < i)) fun x y => decide (y < x)
abbrev geD := ordD (fun i j => decide (j ≤ i)) fun x y => !decide (x < y)
def rOrd (f : Int → Int → Bool) (g : List Nat → List Nat → Bool) : R2 := fun x y H Q => rI0 (fun i j => .bl (f i j)) x y H Q ∨ ∃ i j, x = .str i ∧ y = .str j ∧ Q (.bl (g i.cps.toList j.cps.toList)) H
theorem opd_ord {K : PySem.W.Frag} {f : Int → Int → Bool} {g : List Nat → List Nat → Bool} : OpD K (ordD f g) (rOrd f g) := by
  intro P B ia s σ H H0 Fs dx dy q x y F G Q R o1 o2 fr e k
  unfold ordD at e
  split at e
  · cases e; exact .inl ⟨_, _, o1.int_inv, o2.int_inv, k _ _ (.flat .bl fr R)⟩
  · cases e; exact .inr ⟨_, _, o1.str_inv, o2.str_inv, k _ _ (.flat .bl fr R)⟩
  · cases e
section
variable {X : Cx}
theorem or_lt : OpR X (compareOp .Lt) (rOrd (fun i j => decide (i < j)) fun x y => decide (x < y)) := OpR.or op_lt op_lt_str
theorem or_le : OpR X (compareOp .LtE) (rOrd (fun i j => decide (i ≤ j)) fun x y => !decide (y < x)) := OpR.or op_le op_le_str
theorem or_gt : OpR X (compareOp .Gt) (rOrd (fun i j => decide (j < i)) fun x y => decide (y < x)) := OpR.or op_gt op_gt_str
theorem or_ge : OpR X (compareOp .GtE) (rOrd (fun i j => decide (j ≤ i)) fun x y => !decide (x < y)) := OpR.or op_ge op_ge_str
end
/-- is None, is not None -/
def isD (neg : Bool) : D → D → Option (Bool × D)
  | .non, .non => some (false, .bl (!neg))
  | _, .non => some (false, .bl neg)
  | _, _ => none
theorem opd_isN {K : PySem.W.Frag} : OpD K (isD false) (fun x y H Q => y = .non ∧ Q (.bl (decide (x = .non))) H) := by
  intro P B ia s σ H H0 Fs dx dy q x y F G Q R o1 o2 fr e k
  unfold isD at e
  split at e
  · cases e
    refine ⟨o2.non_inv, ?_⟩
    rw [o1.non_inv]
    exact k _ _ (.flat .bl fr R)
  · rename_i hn
    cases e
    refine ⟨o2.non_inv, ?_⟩
    have : x ≠ .non := fun e => by
      subst e
      have := o1.rep
      cases this
      exact hn rfl
    rw [decide_eq_false this]
    exact k _ _ (.flat .bl fr R)
  · cases e
theorem opd_notN {K : PySem.W.Frag} : OpD K (isD true) (fun x y H Q => y = .non ∧ Q (.bl (!decide (x = .non))) H) := by
  intro P B ia s σ H H0 Fs dx dy q x y F G Q R o1 o2 fr e k
  unfold isD at e
  split at e
  · cases e
    refine ⟨o2.non_inv, ?_⟩
    rw [o1.non_inv]
    exact k _ _ (.flat .bl fr R)
  · rename_i hn
    cases e
    refine ⟨o2.non_inv, ?_⟩
    have : x ≠ .non := fun e => by
      subst e
      have := o1.rep
      cases this
      exact hn rfl
    rw [decide_eq_false this]
    exact k _ _ (.flat .bl fr R)
  · cases e

/-! ### in, not in -/
/-- a flat value as V -/
def D.flt : D → Option V
  | .non => some .non
  | .bl b => some (.bl b)
  | .int i => some (.int i)
  | .str x => some (.str x)
  | _ => none
theorem Rep.flt {K : PySem.W.Frag} {H : Hp} {d : D} {v w : V} {F : List Addr} (h : Rep K H d v F) (e : d.flt = some w) : v = w ∧ flatV v = true := by
  cases h <;> cases e <;> exact ⟨rfl, rfl⟩
def flts : List D → Option (List V)
  | [] => some []
  | d :: ds => d.flt.bind fun v => (flts ds).map fun vs => v :: vs
theorem Reps.flts {K : PySem.W.Frag} {H : Hp} : ∀ {ds : List D} {vs ws : List V} {F : List Addr}, Reps K H ds vs F → PV.flts ds = some ws → vs = ws ∧ vs.all flatV = true
  | [], _, _, _, h, e => by cases h; cases e; exact ⟨rfl, rfl⟩
  | d :: ds, _, _, _, h, e => by
    cases h with
    | cons h1 h2 =>
      rw [PV.flts] at e
      obtain ⟨x, e1, e2⟩ := Option.bind_eq_some_iff.mp e
      obtain ⟨xs, e3, e4⟩ := Option.map_eq_some_iff.mp e2
      subst e4
      obtain ⟨rfl, f1⟩ := h1.flt e1
      obtain ⟨rfl, f2⟩ := h2.flts e3
      exact ⟨rfl, by rw [List.all_cons, f1, f2]; rfl⟩
/-- a key as V -/
def D.key : D → Option Key
  | .int i => some (.inl i)
  | .str x => some (.inr x)
  | _ => none
theorem Rep.key {K : PySem.W.Frag} {H : Hp} {d : D} {v : V} {F : List Addr} {k : Key} (h : Rep K H d v F) (e : d.key = some k) : v = kV k := by
  cases h <;> cases e <;> rfl
/-- what a dict holds at a key -/
def kget (kds : List (Key × D)) (k : Key) : Option D := (kds.find? fun q => decide (q.1 = k)).map (·.2)
theorem RepK.get {K : PySem.W.Frag} {H : Hp} (k : Key) : ∀ {kds : List (Key × D)} {kvs : List (Key × V)} {F : List Addr}, RepK K H kds kvs F →
    (kget kds k = none ∧ valV kvs k = none) ∨ ∃ d v G, kget kds k = some d ∧ valV kvs k = some v ∧ Rep K H d v G ∧ ∀ a, a ∈ G → a ∈ F
  | [], _, _, h => by cases h; exact .inl ⟨rfl, rfl⟩
  | (k', d) :: ds, _, _, h => by
    cases h with
    | @cons _ _ v F _ vs G h1 h2 =>
      by_cases e : k' = k
      · refine .inr ⟨d, v, F, ?_, valV_pos (p := (k', v)) e, h1, fun a m => List.mem_append_left _ m⟩
        simp [kget, List.find?_cons, e]
      · have e1 : kget ((k', d) :: ds) k = kget ds k := by simp [kget, List.find?_cons, e]
        have e2 : valV ((k', v) :: vs) k = valV vs k := valV_neg (p := (k', v)) e
        rw [e1, e2]
        rcases RepK.get k h2 with q | ⟨d', v', G', q1, q2, q3, q4⟩
        · exact .inl q
        · exact .inr ⟨d', v', G', q1, q2, q3, fun a m => List.mem_append_right _ (q4 a m)⟩
/-- c in s of texts: the model's own word -/
def inStr (i j : Str) : Bool := !(Builtin.Str.occurrences j i 0 j.length 1).isEmpty
def inD (neg : Bool) (x y : D) : Option (Bool × D) := match x, y with
  | .str i, .str j => some (false, .bl (if neg then !inStr i j else inStr i j))
  | x, .dct kds => x.key.map fun k => (false, .bl (if neg then !(kget kds k).isSome else (kget kds k).isSome))
  | x, .dcl kds => x.key.map fun k => (false, .bl (if neg then !(kget kds k).isSome else (kget kds k).isSome))
  | x, .tup ds => x.flt.bind fun v => (flts ds).map fun vs => (false, .bl (if neg then !inV v vs else inV v vs))
  | x, .lst ds => match x.flt.bind fun v => (flts ds).map fun vs => (false, D.bl (if neg then !inV v vs else inV v vs)) with
    | some r => some r
    | none => x.shp.bind fun p => (D.lst ds).shp.bind fun q => match q with
      | .list ps => some (false, .bl (if neg then !(ps.any fun z => PyData.eqv z p) else ps.any fun z => PyData.eqv z p))
      | _ => none
  | _, _ => none
/-- the dict's part of in -/
def rInK (neg : Bool) : R2 := fun x y H Q => ∃ a kvs k, y = .ref a ∧ Rd H a (.dK kvs) ∧ x = kV k ∧ Q (.bl (if neg then !(valV kvs k).isSome else (valV kvs k).isSome)) H
def rInA (K : PySem.W.Frag) (neg : Bool) : R2 := fun x y H Q => (∃ i j, x = .str i ∧ y = .str j ∧ Q (.bl (if neg then !inStr i j else inStr i j)) H) ∨ rInK neg x y H Q ∨ rIn K neg x y H Q ∨ (if neg then rNotInD K else rInD K) x y H Q
theorem opd_in {K : PySem.W.Frag} {neg : Bool} : OpD K (inD neg) (rInA K neg) := by
  intro P B ia s σ H H0 Fs dx dy q x y F G Q R o1 o2 fr e k
  unfold inD at e
  split at e
  · cases e; exact .inl ⟨_, _, o1.str_inv, o2.str_inv, k _ _ (.flat .bl fr R)⟩
  · rename_i kds
    obtain ⟨kk, e1, e2⟩ := Option.map_eq_some_iff.mp e
    cases e2
    obtain ⟨a, kvs, G', ea, h1, h2, no, ib⟩ := o2.dct_inv
    refine .inr (.inl ⟨a, kvs, kk, ea, .inl h1, o1.rep.key e1, ?_⟩)
    have : (valV kvs kk).isSome = (kget kds kk).isSome := by
      rcases h2.get kk with ⟨q1, q2⟩ | ⟨d, v, G', q1, q2, _⟩
      · rw [q1, q2] <;> rfl
      · rw [q1, q2] <;> rfl
    rw [this]
    exact k _ _ (.flat .bl fr R)
  · rename_i kds
    obtain ⟨kk, e1, e2⟩ := Option.map_eq_some_iff.mp e
    cases e2
    obtain ⟨a, kvs, G', ea, h1, h2, no, ib⟩ := o2.dcl_inv
    refine .inr (.inl ⟨a, kvs, kk, ea, (.inr h1), o1.rep.key e1, ?_⟩)
    have : (valV kvs kk).isSome = (kget kds kk).isSome := by
      rcases h2.get kk with ⟨q1, q2⟩ | ⟨d, v, G', q1, q2, _⟩
      · rw [q1, q2] <;> rfl
      · rw [q1, q2] <;> rfl
    rw [this]
    exact k _ _ (.flat .bl fr R)
  · obtain ⟨v, e1, e2⟩ := Option.bind_eq_some_iff.mp e
    obtain ⟨vs, e3, e4⟩ := Option.map_eq_some_iff.mp e2
    cases e4
    obtain ⟨a, ws, ea, h1, h2, no⟩ := o2.tup_inv
    obtain ⟨rfl, f1⟩ := o1.rep.flt e1
    obtain ⟨rfl, f2⟩ := h2.flts e3
    exact .inr (.inr (.inl ⟨a, ws, ea, .inr h1, f1, f2, k _ _ (.flat .bl fr R)⟩))
  · split at e
    · rename_i r hr
      cases e
      obtain ⟨v, e1, e2⟩ := Option.bind_eq_some_iff.mp hr
      obtain ⟨vs, e3, e4⟩ := Option.map_eq_some_iff.mp e2
      cases e4
      obtain ⟨a, ws, G', ea, h1, h2, no, ib⟩ := o2.lst_inv
      obtain ⟨rfl, f1⟩ := o1.rep.flt e1
      obtain ⟨rfl, f2⟩ := h2.flts e3
      exact .inr (.inr (.inl ⟨a, ws, ea, .inl (SqL.of h1), f1, f2, k _ _ (.flat .bl fr R)⟩))
    · obtain ⟨p, e1, e2⟩ := Option.bind_eq_some_iff.mp e
      obtain ⟨q', e3, e4⟩ := Option.bind_eq_some_iff.mp e2
      split at e4
      · rename_i ps
        cases e4
        obtain ⟨g1, g2⟩ := D.shp_inv e1
        obtain ⟨g3, g4⟩ := D.shp_inv e3
        refine .inr (.inr (.inr ?_))
        cases neg with
        | true => exact ⟨p, ps, o1.rep.dp g1, o2.rep.dp g3, g2, g4, k _ _ (.flat .bl fr R)⟩
        | false => exact ⟨p, ps, o1.rep.dp g1, o2.rep.dp g3, g2, g4, k _ _ (.flat .bl fr R)⟩
      · cases e4
  · cases e
section
variable {X : Cx}
theorem op_inK (hu : X.A.units + 1 < cLine) : OpR X (compareOp .In) (rInK false) := by
  intro pins s σ H x y v u Q I rx ry h
  obtain ⟨a, kvs, k, rfl, h1, rfl, q⟩ := h
  cases ry
  exact d_in hu I (.inl ⟨kvs, k, h1, rfl, rfl⟩) rx fun s' I' => ⟨.bl _, H, I', rfl, q⟩
theorem op_notinK (hu : X.A.units + 1 < cLine) : OpR X (compareOp .NotIn) (rInK true) := by
  intro pins s σ H x y v u Q I rx ry h
  obtain ⟨a, kvs, k, rfl, h1, rfl, q⟩ := h
  cases ry
  exact d_notIn hu I (.inl ⟨kvs, k, h1, rfl, rfl⟩) rx fun s' I' => ⟨.bl _, H, I', rfl, q⟩
theorem or_in (hu : X.A.units + 65 < cLine) : OpR X (compareOp .In) (rInA X.K false) := OpR.or op_in_str (OpR.or (op_inK (by omega)) (OpR.or op_in_seq (op_inD hu)))
theorem or_notin (hu : X.A.units + 65 < cLine) : OpR X (compareOp .NotIn) (rInA X.K true) := OpR.or op_notin_str (OpR.or (op_notinK (by omega)) (OpR.or op_notIn_seq (op_notInD hu)))
end
end PV

/-! PV: operands in a row; subscripts, slices, truth, tests, displays, names. -/
namespace PV
open PySem PySem.Spec L2

/-! ### any number of operands -/
def rdOs (K : PySem.W.Frag) (E : WX) : List Opd → TA
  | [] => tNil
  | o :: os => tCons (rdO K E o) (rdOs K E os)
def runs : List Opd → M (List (Option D))
  | [] => fun s => .ok [] s
  | o :: os => fun s => (o.run s).bind fun x s1 => (runs os s1).bind fun xs s2 => .ok (x :: xs) s2
def gets (s : S) : List Opd → List (Option D) → Option (List D)
  | [], _ => some []
  | o :: os, x :: xs => match o.get s x, gets s os xs with
    | some d, some ds => some (d :: ds)
    | _, _ => none
  | _ :: _, [] => none
def opsM {α : Type} (os : List Opd) (k : List D → S → Res α) : M α := fun s => (runs os s).bind fun xs s1 => match gets s1 os xs with
  | some ds => k ds s1
  | none => .stuck
def Opd.isEx : Opd → Bool
  | .ex _ => true
  | .sl _ => false
inductive OVs (K : PySem.W.Frag) (B : Addr → Prop) (s : S) (σ : St) (H : Hp) : List Opd → List D → List V → List (List Addr) → Prop
  | nil : OVs K B s σ H [] [] [] []
  | cons {o : Opd} {os : List Opd} {d : D} {ds : List D} {v : V} {vs : List V} {F : List Addr} {Fs : List (List Addr)} : OV K B s σ H d v F → (o.isEx = true → NoOwn s σ F) →
      (∀ i, o = .sl i → ∃ w, s[i]? = some (some (w, d)) ∧ σ[i]? = some (some v)) → OVs K B s σ H os ds vs Fs → OVs K B s σ H (o :: os) (d :: ds) (v :: vs) (F :: Fs)
section
variable {K : PySem.W.Frag} {B : Addr → Prop} {ia : Nat → Addr} {σ : St} {E : WX}
theorem rdN (os : List Opd) : ∀ {P : Addr → Prop} {s : S} {H : Hp} {Fs : Nat → List Addr} {R : List V → Hp → Prop}, SR K P B ia s σ H Fs →
    Post (fun x s' => ∀ cls dx H', RX K P B ia s' σ H H' x cls dx → E cls dx σ H') (fun xs s' => ∀ vs H' Fs', (∀ ds, gets s' os xs = some ds → ∃ Gs, OVs K B s' σ H' os ds vs Gs) → Fr P H H' → SR K P B ia s' σ H' Fs' → R vs H') (runs os s) →
    rdOs K E os σ H R := by
  induction os with
  | nil =>
    intro P s H Fs R r h
    exact h [] H Fs (fun ds e => by cases e; exact ⟨[], .nil⟩) Fr.refl r
  | cons o os ih =>
    intro P s H Fs R r h
    cases o with
    | ex f =>
      refine ⟨P, B, ia, s, Fs, r, ?_⟩
      have h' := Post.bind (Post.bind (r := (f s).bind fun (r : Bool × D) s' => Res.ok (some r.2) s') h)
      refine h'.mono (fun _ _ q => q) fun a s1 q v H1 w => ?_
      obtain ⟨F, Fs1, h1, h2, h3, h4, h5⟩ := w
      have q' := Post.bind (r := runs os s1) q
      refine ih h4 (q'.mono (fun x s2 e cls dx H2 w2 => e cls dx H2 (w2.weak h2 fun b m => .inl m)) fun xs s2 e vs H2 Fs2 g fr r2 => ?_)
      refine e (v :: vs) H2 Fs2 (fun ds ed => ?_) (h2.trans (fr.mono fun b m => .inl m)) (r2.weak fun b m => .inl m)
      simp only [gets, Opd.get] at ed
      cases eg : gets s2 os xs with
      | none => rw [eg] at ed; cases ed
      | some ds' =>
        rw [eg] at ed; cases ed
        obtain ⟨Gs, hg⟩ := g ds' eg
        have no : NoOwn s2 σ F := r2.noOwn fun a m => .inr m
        exact ⟨F :: Gs, .cons ⟨h1.keep fr.i fun a m => fr.p a (.inr m), h3, .inl no⟩ (fun _ => no) (fun i e => nomatch e) hg⟩
    | sl i =>
      simp only [runs, Opd.run] at h
      match e : s[i]? with
      | some none => simp only [e] at h; exact h.elim
      | none => simp only [e] at h; exact h.elim
      | some (some (o, d)) =>
        obtain ⟨v, F, hv, h2⟩ := r.opd e
        simp only [e, Res.bind_ok] at h
        refine ⟨v, hv, ?_⟩
        have h' := Post.bind (r := runs os s) h
        refine ih r (h'.mono (fun _ _ q => q) fun xs s2 q vs H2 Fs2 g fr r2 => ?_)
        refine q (v :: vs) H2 Fs2 (fun ds ed => ?_) fr r2
        simp only [gets, Opd.get] at ed
        match e2 : s2[i]? with
        | some none => rw [e2] at ed; cases ed
        | none => rw [e2] at ed; cases ed
        | some (some (o2, d2)) =>
          rw [e2] at ed
          cases eg : gets s2 os xs with
          | none => rw [eg] at ed; cases ed
          | some ds' =>
            rw [eg] at ed; cases ed
            obtain ⟨Gs, hg⟩ := g ds' eg
            obtain ⟨w, G, e3, e4⟩ := r2.opd e2
            rw [hv] at e3; cases e3
            exact ⟨G :: Gs, .cons e4 (fun z => nomatch z) (fun j z => by cases z; exact ⟨o2, e2, hv⟩) hg⟩
theorem rdOps {P : Addr → Prop} {s : S} {H : Hp} {Fs : Nat → List Addr} {α : Type} {k : List D → S → Res α} {os : List Opd} {R : List V → Hp → Prop} {QX : Exn → S → Prop} {Q : α → S → Prop} (r : SR K P B ia s σ H Fs)
    (h : Post QX Q (opsM os k s)) (hx : ∀ x s', QX x s' → ∀ cls dx H', RX K P B ia s' σ H H' x cls dx → E cls dx σ H')
    (hk : ∀ ds s' vs H' Gs Fs', Post QX Q (k ds s') → OVs K B s' σ H' os ds vs Gs → Fr P H H' → SR K P B ia s' σ H' Fs' → R vs H') : rdOs K E os σ H R := by
  refine rdN os r ((Post.bind (r := runs os s) h).mono hx fun xs s' q vs H' Fs' g fr r' => ?_)
  cases eg : gets s' os xs with
  | none => rw [eg] at q; exact q.elim
  | some ds =>
    rw [eg] at q
    obtain ⟨Gs, hg⟩ := g ds eg
    exact hk ds s' vs H' Gs Fs' q hg fr r'
/-- all that expressions brought, as one row -/
theorem OVs.reps {s : S} {H : Hp} : ∀ {os : List Opd} {ds : List D} {vs : List V} {Gs : List (List Addr)}, OVs K B s σ H os ds vs Gs → os.all Opd.isEx = true → ∃ G, Reps K H ds vs G ∧ NoOwn s σ G ∧ ∀ a, a ∈ G → B a
  | _, _, _, _, .nil, _ => ⟨[], .nil, .nil, fun _ m => nomatch m⟩
  | _, _, _, _, .cons h1 h2 _ h4, e => by
    rw [List.all_cons, Bool.and_eq_true] at e
    obtain ⟨G, g1, g2, g3⟩ := h4.reps e.2
    exact ⟨_, .cons h1.rep g1, (h2 e.1).app g2, fun a m => (List.mem_append.mp m).elim (h1.inB a) (g3 a)⟩
theorem OVs.length {s : S} {H : Hp} : ∀ {os : List Opd} {ds : List D} {vs : List V} {Gs : List (List Addr)}, OVs K B s σ H os ds vs Gs → ds.length = vs.length ∧ ds.length = os.length
  | _, _, _, _, .nil => ⟨rfl, rfl⟩
  | _, _, _, _, .cons h1 h2 _ h4 => ⟨by simp [h4.length.1], by simp [h4.length.2]⟩
end

/-! ### names, constants -/
def constM (d : D) : M (Bool × D) := fun s => .ok (false, d) s
/-- a name read: what was one's own is shared from then on -/
def varM (i : Nat) : M (Bool × D) := fun s => match s[i]? with
  | some (some (.sh, d)) => .ok (false, d) s
  | some (some (.ow, d)) => .ok (false, d) (s.set i (some (.sh, d)))
  | _ => .stuck
/-- a name read for the last time -/
def moveM (i : Nat) : M (Bool × D) := fun s => match s[i]? with
  | some (some (.sh, d)) => .ok (false, d) s
  | some (some (.ow, d)) => .ok (true, d) (s.set i none)
  | _ => .stuck
section
variable {K : PySem.W.Frag} {P B : Addr → Prop} {ia : Nat → Addr} {s : S} {σ : St} {H H' H1 : Hp} {Fs : Nat → List Addr} {E : WX} {d : D} {v : V} {F : List Addr}
theorem get_set_eq {s : S} {i : Nat} {x y : Slot} (h : s[i]? = some x) : (s.set i y)[i]? = some y := List.getElem?_set_self (List.getElem?_eq_some_iff.mp h).1
theorem get_set_ne {s : S} {i j : Nat} {y : Slot} (h : j ≠ i) : (s.set i y)[j]? = s[j]? := List.getElem?_set_ne fun e => h e.symm
/-- what was one's own is shared -/
theorem SR.share (r : SR K P B ia s σ H Fs) {i : Nat} {o : Own} (e : s[i]? = some (some (o, d))) : SR K P B ia (s.set i (some (.sh, d))) σ H Fs := by
  refine ⟨by simp [r.len], fun j o' d' q => ?_, fun j o' d' q n => ?_, fun j d' q => ?_, fun j q => ?_, r.inB, r.tr, r.nb⟩
  · by_cases h : j = i
    · subst h
      rw [get_set_eq e] at q; cases q
      exact r.rep j _ d e
    · rw [get_set_ne h] at q; exact r.rep j o' d' q
  · by_cases h : j = i
    · subst h
      rw [get_set_eq e] at q; cases q
      exact absurd rfl n
    · rw [get_set_ne h] at q; exact r.own j o' d' q n
  · by_cases h : j = i
    · subst h
      rw [get_set_eq e] at q; cases q
    · rw [get_set_ne h] at q; exact r.iov j d' q
  · by_cases h : j = i
    · subst h
      exact absurd (get_set_eq e) (q .sh d)
    · exact r.dead j fun o' d' z => q o' d' (by rw [get_set_ne h]; exact z)
/-- a slot falls -/
theorem SR.kill (r : SR K P B ia s σ H Fs) {i : Nat} {x : Slot} (e : s[i]? = some x) : SR K P B ia (s.set i none) σ H (fun j => if j = i then [] else Fs j) := by
  refine ⟨by simp [r.len], fun j o' d' q => ?_, fun j o' d' q n => ?_, fun j d' q => ?_, fun j q => ?_, fun j a m => ?_, r.tr, r.nb⟩
  · by_cases h : j = i
    · subst h
      rw [get_set_eq e] at q; cases q
    · rw [get_set_ne h] at q; rw [if_neg h]; exact r.rep j o' d' q
  · by_cases h : j = i
    · subst h
      rw [get_set_eq e] at q; cases q
    · rw [get_set_ne h] at q; rw [if_neg h]
      obtain ⟨a, F, h1, h2, h3, h4, h5, h6⟩ := r.own j o' d' q n
      refine ⟨a, F, h1, h2, h3, h4, h5, fun k hk => ?_⟩
      by_cases hk2 : k = i
      · rw [if_pos hk2]; simp
      · rw [if_neg hk2]; exact h6 k hk
  · by_cases h : j = i
    · subst h
      rw [get_set_eq e] at q; cases q
    · rw [get_set_ne h] at q; exact r.iov j d' q
  · by_cases h : j = i
    · rw [if_pos h]
    · rw [if_neg h]
      exact r.dead j fun o' d' z => q o' d' (by rw [get_set_ne h]; exact z)
  · by_cases h : j = i
    · rw [if_pos h] at m; cases m
    · rw [if_neg h] at m; exact r.inB j a m
theorem tD_const {E : WX} {d : D} {v : V} (h : ∀ H, Rep K H d v []) (σ : St) (H : Hp) (Q : VK) (w : tD K E (constM d) σ H Q) : tC v σ H Q := by
  obtain ⟨P, B, ia, s, Fs, r, w⟩ := w
  exact w v H (.flat (h H) Fr.refl r)
theorem tD_var {E : WX} {i : Nat} (σ : St) (H : Hp) (Q : VK) (w : tD K E (varM i) σ H Q) : tVar i σ H Q := by
  obtain ⟨P, B, ia, s, Fs, r, w⟩ := w
  unfold varM at w
  match e : s[i]? with
  | some (some (.sh, d)) =>
    simp only [e] at w
    obtain ⟨v, h1, h2⟩ := r.rep i _ d e
    exact ⟨v, h1, w v H (.part h2 (r.noOwnF e) (fun a m => r.inB i a m) Fr.refl r)⟩
  | some (some (.ow, d)) =>
    simp only [e] at w
    obtain ⟨v, h1, h2⟩ := r.rep i _ d e
    have r2 := r.share e
    exact ⟨v, h1, w v H (.part h2 (r2.noOwnF (j := i) (get_set_eq e)) (fun a m => r.inB i a m) Fr.refl r2)⟩
  | some (some (.io, d)) => simp only [e] at w; exact w.elim
  | some none => simp only [e] at w; exact w.elim
  | none => simp only [e] at w; exact w.elim
theorem tD_move {E : WX} {i : Nat} (σ : St) (H : Hp) (Q : VK) (w : tD K E (moveM i) σ H Q) : tVar i σ H Q := by
  obtain ⟨P, B, ia, s, Fs, r, w⟩ := w
  unfold moveM at w
  match e : s[i]? with
  | some (some (.sh, d)) =>
    simp only [e] at w
    obtain ⟨v, h1, h2⟩ := r.rep i _ d e
    exact ⟨v, h1, w v H (.part h2 (r.noOwnF e) (fun a m => r.inB i a m) Fr.refl r)⟩
  | some (some (.ow, d)) =>
    simp only [e] at w
    obtain ⟨a, F, h1, h2, h3, h4, h5, h6⟩ := r.own i _ d e (by decide)
    have r2 := r.kill e
    have no : NoOwn (s.set i none) σ (a :: F) := by
      have no1 := r.noOwnT e (by decide) h2
      intro j o' d' b q n x m
      by_cases h : j = i
      · subst h
        rw [get_set_eq e] at q; cases q
      · rw [get_set_ne h] at q
        rcases List.mem_cons.mp m with rfl | m
        · obtain ⟨a', F', g1, g2, g3, g4, g5, g6⟩ := r.own j o' d' q n
          rw [x] at g1; cases g1
          exact g6 i (Ne.symm h) (by rw [h2]; exact List.mem_cons_self)
        · exact no1 j o' d' b q n x m
    refine ⟨.ref a, h1, w (.ref a) H ⟨a :: F, _, h3.rep, Fr.refl, fun b m => r.inB i b (by rw [h2]; exact m), r2.prot h3.rep.tr no, fun _ => ⟨a, F, rfl, rfl, h3, h4, h5, fun j => ?_⟩⟩⟩
    by_cases hj : j = i
    · rw [if_pos hj]; simp
    · rw [if_neg hj]; exact h6 j hj
  | some (some (.io, d)) => simp only [e] at w; exact w.elim
  | some none => simp only [e] at w; exact w.elim
  | none => simp only [e] at w; exact w.elim
end
section
variable {X : Cx} {E : WX}
theorem de_const {e : Expr} {d : D} {v : V} (he : PE X e (tC v)) (h : ∀ H, Rep X.K H d v []) : PE X e (tD X.K E (constM d)) := he.imp (tD_const h)
theorem de_var {e : Expr} {i : Nat} (he : PE X e (tVar i)) : PE X e (tD X.K E (varM i)) := he.imp tD_var
theorem de_move {e : Expr} {i : Nat} (he : PE X e (tVar i)) : PE X e (tD X.K E (moveM i)) := he.imp tD_move
theorem de_int {i j pos} : PE X (.Constant (.int i) j pos) (tD X.K E (constM (.int i))) := de_const pe_int fun _ => .int
theorem de_bl {b j pos} : PE X (.Constant (.bool b) j pos) (tD X.K E (constM (.bl b))) := de_const pe_bl fun _ => .bl
theorem de_non {j pos} : PE X (.Constant .none j pos) (tD X.K E (constM .non)) := de_const pe_non fun _ => .non
theorem de_str {x j pos} : PE X (.Constant (.str x) j pos) (tD X.K E (constM (.str x))) := de_const pe_str fun _ => .str
end

/-! ### subscripts -/
def ixD : D → D → Option (Bool × D)
  | .lst ds, .int i => (atI ds i).map fun d => (false, d)
  | .tup ds, .int i => (atI ds i).map fun d => (false, d)
  | .fro ds, .int i => (atI ds i).map fun d => (false, d)
  | .str x, .int i => if x.length ≤ sizeLine then (atI x.cps.toList i).map fun c => (false, .str ⟨#[c]⟩) else none
  | .dct kds, y => y.key.bind fun k => (kget kds k).map fun d => (false, d)
  | .dcl kds, y => y.key.bind fun k => (kget kds k).map fun d => (false, d)
  | _, _ => none
def rIxK : R2 := fun x y H Q => ∃ a kvs k v, x = .ref a ∧ Rd H a (.dK kvs) ∧ y = kV k ∧ valV kvs k = some v ∧ Q v H
def rIxA (K : PySem.W.Frag) : R2 := fun x y H Q => rIxK x y H Q ∨ rIx K x y H Q
theorem ix_dk {X : Cx} (hu : X.A.units + 1 < cLine) : IxR X rIxK := by
  intro value slice pins s σ H x y v u Q I rx ry h hs
  obtain ⟨a, kvs, k, w, rfl, h1, rfl, h2, q⟩ := h
  cases rx
  have g : DGet H a (kV k) (some w) := .inl ⟨kvs, k, h1, rfl, h2.symm⟩
  exact PyProof.Rows.tail_any (dict_typeIs I g) PySem.F.slot_dict_getitem.lookup (d_getItem hu I g ry fun w' s' I' rw' => ⟨w, H, I', rw', q⟩) hs
theorem or_ix {X : Cx} (hu : X.A.units + 1 < cLine) : IxR X (rIxA X.K) := (ix_dk hu).or ix_seq
theorem Reps.at {K : PySem.W.Frag} {H : Hp} {ds : List D} {vs : List V} {F : List Addr} {i : Int} {d : D} (h : Reps K H ds vs F) (e : atI ds i = some d) : ∃ v G, atI vs i = some v ∧ Rep K H d v G ∧ ∀ a, a ∈ G → a ∈ F := by
  unfold atI at e ⊢
  rw [h.length] at e
  cases q : ixN vs.length i with
  | none => rw [q] at e; cases e
  | some j => rw [q] at e; exact h.get e
theorem opd_ix {K : PySem.W.Frag} : OpD K ixD (rIxA K) := by
  intro P B ia s σ H H0 Fs dx dy q x y F G Q R o1 o2 fr e k
  unfold ixD at e
  split at e
  · obtain ⟨d, e1, e2⟩ := Option.map_eq_some_iff.mp e
    cases e2
    obtain ⟨a, vs, F', ea, h1, h2, no, ib⟩ := o1.lst_inv
    obtain ⟨v, G', g1, g2, g3⟩ := h2.at e1
    exact .inr (.inl ⟨a, vs, _, v, ea, o2.int_inv, SqL.of h1, g1, k _ _ (.part g2 (no.sub g3) (fun b m => ib b (g3 b m)) fr R)⟩)
  · obtain ⟨d, e1, e2⟩ := Option.map_eq_some_iff.mp e
    cases e2
    obtain ⟨a, vs, ea, h1, h2, no⟩ := o1.tup_inv
    obtain ⟨v, G', g1, g2, g3⟩ := h2.at e1
    exact .inr (.inr (.inl ⟨a, vs, _, v, ea, o2.int_inv, h1, g1, k _ _ (.part g2 (no.sub g3) (fun b m => o1.inB b (g3 b m)) fr R)⟩))
  · obtain ⟨d, e1, e2⟩ := Option.map_eq_some_iff.mp e
    cases e2
    obtain ⟨a, vs, ea, h1, h2, no⟩ := o1.fro_inv
    obtain ⟨v, G', g1, g2, g3⟩ := h2.at e1
    exact .inr (.inl ⟨a, vs, _, v, ea, o2.int_inv, fz_sq h1, g1, k _ _ (.part g2 (no.sub g3) (fun b m => o1.inB b (g3 b m)) fr R)⟩)
  · split at e
    · rename_i hz
      obtain ⟨d, e1, e2⟩ := Option.map_eq_some_iff.mp e
      cases e2
      exact .inr (.inr (.inr ⟨_, _, d, o1.str_inv, o2.int_inv, hz, e1, k _ _ (.flat .str fr R)⟩))
    · cases e
  · obtain ⟨kk, e1, e2⟩ := Option.bind_eq_some_iff.mp e
    obtain ⟨d, e3, e4⟩ := Option.map_eq_some_iff.mp e2
    cases e4
    obtain ⟨a, kvs, G', ea, h1, h2, no, ib⟩ := o1.dct_inv
    rcases h2.get kk with ⟨q1, q2⟩ | ⟨d', v, G'', q1, q2, q3, q4⟩
    · rw [e3] at q1; cases q1
    · rw [e3] at q1; cases q1
      exact .inl ⟨a, kvs, kk, v, ea, .inl h1, o2.rep.key e1, q2, k _ _ (.part q3 (no.sub q4) (fun b m => ib b (q4 b m)) fr R)⟩
  · obtain ⟨kk, e1, e2⟩ := Option.bind_eq_some_iff.mp e
    obtain ⟨d, e3, e4⟩ := Option.map_eq_some_iff.mp e2
    cases e4
    obtain ⟨a, kvs, G', ea, h1, h2, no, ib⟩ := o1.dcl_inv
    rcases h2.get kk with ⟨q1, q2⟩ | ⟨d', v, G'', q1, q2, q3, q4⟩
    · rw [e3] at q1; cases q1
    · rw [e3] at q1; cases q1
      exact .inl ⟨a, kvs, kk, v, ea, (.inr h1), o2.rep.key e1, q2, k _ _ (.part q3 (no.sub q4) (fun b m => ib b (q4 b m)) fr R)⟩
  · cases e

/-! ### slices -/
def cutL {α : Type} (xs : List α) (lo hi : Option Int) : List α := (xs.drop (HT.sIx xs.length 0 lo)).take (HT.sIx xs.length xs.length hi - HT.sIx xs.length 0 lo)
theorem Reps.cut {K : PySem.W.Frag} {H : Hp} {ds : List D} {vs : List V} {F : List Addr} (lo hi : Option Int) (h : Reps K H ds vs F) : ∃ G, Reps K H (cutL ds lo hi) (cutV vs lo hi) G ∧ ∀ b, b ∈ G → b ∈ F := by
  unfold cutL cutV
  rw [h.length]
  exact Reps.sub _ _ h
theorem cut_whole {vs : List V} {lo hi : Option Int} (h : HT.sIx vs.length 0 lo = 0 ∧ HT.sIx vs.length vs.length hi = vs.length) : cutV vs lo hi = vs := by
  unfold cutV
  rw [h.1, h.2]
  simp
def sliceD (lo hi : Option Int) : D → Option (Bool × D)
  | .lst ds => some (true, .lst (cutL ds lo hi))
  | .fro ds => some (true, .lst (cutL ds lo hi))
  | .tup ds => some (false, .tup (cutL ds lo hi))
  | .str x => if x.length ≤ sizeLine then some (false, .str (cutS x lo hi)) else none
  | _ => none
def rSlAll (K : PySem.W.Frag) : V → Option Int → Option Int → Hp → VK → Prop := fun x lo hi H Q => rSlL K x lo hi H Q ∨ rSlA K x lo hi H Q ∨ rSlS x lo hi H Q
theorem or_sl {X : Cx} : SlR X (rSlAll X.K) := SlR.or sl_list (SlR.or sl_tupA sl_str)
theorem opd_sl {K : PySem.W.Frag} {P B : Addr → Prop} {ia : Nat → Addr} {s : S} {σ : St} {H H0 : Hp} {Fs : Nat → List Addr} {dx : D} {q : Bool × D} {x : V} {F : List Addr} {Q : VK} {lo hi : Option Int} (R : SR K P B ia s σ H Fs) (o1 : OV K B s σ H dx x F)
    (fr : Fr P H0 H) (e : sliceD lo hi dx = some q) (k : ∀ v H', RV K P B ia s σ H0 H' q.1 q.2 v → Q v H') : rSlAll K x lo hi H Q := by
  unfold sliceD at e
  split at e
  · cases e
    obtain ⟨a, vs, F', ea, h1, h2, no, ib⟩ := o1.lst_inv
    obtain ⟨G, g1, g2⟩ := h2.cut lo hi
    exact .inl ⟨a, vs, ea, SqL.of h1, fun p np => k _ _ (.lst g1 (no.sub g2) (fun b m => ib b (g2 b m)) fr R np)⟩
  · cases e
    obtain ⟨a, vs, ea, h1, h2, no⟩ := o1.fro_inv
    obtain ⟨G, g1, g2⟩ := h2.cut lo hi
    exact .inl ⟨a, vs, ea, fz_sq h1, fun p np => k _ _ (.lst g1 (no.sub g2) (fun b m => o1.inB b (g2 b m)) fr R np)⟩
  · cases e
    obtain ⟨a, vs, ea, h1, h2, no⟩ := o1.tup_inv
    obtain ⟨G, g1, g2⟩ := h2.cut lo hi
    refine .inr (.inl ⟨a, vs, ea, h1, fun hw => ?_, fun _ p np => k _ _ (.tup g1 (no.sub g2) (fun b m => o1.inB b (g2 b m)) fr R np)⟩)
    rw [cut_whole hw] at g1
    exact k _ _ (.part (.tup h1 g1) (no.sub g2) (fun b m => o1.inB b (g2 b m)) fr R)
  · split at e
    · rename_i hz
      cases e
      exact .inr (.inr ⟨_, o1.str_inv, hz, k _ _ (.flat .str fr R)⟩)
    · cases e
  · cases e
/-- an int, at once -/
def intM (a : Opd) : M (Bool × D) := op1 a fun x s => match x with
  | .int i => .ok (false, .int i) s
  | _ => .stuck
theorem tD_mono {K : PySem.W.Frag} {E : WX} {f : M (Bool × D)} {σ : St} {H : Hp} {Q Q' : VK} (h : tD K E f σ H Q) (q : ∀ v H, Q v H → Q' v H) : tD K E f σ H Q' := by
  obtain ⟨P, B, ia, s, Fs, r, w⟩ := h
  exact ⟨P, B, ia, s, Fs, r, w.mono (fun _ _ z => z) fun a s z v H' rv => q v H' (z v H' rv)⟩
theorem rdO_mono {K : PySem.W.Frag} {E : WX} {o : Opd} {σ : St} {H : Hp} {Q Q' : VK} (h : rdO K E o σ H Q) (q : ∀ v H, Q v H → Q' v H) : rdO K E o σ H Q' := by
  cases o with
  | ex f => exact tD_mono h q
  | sl i => obtain ⟨v, e, h⟩ := h; exact ⟨v, e, q v H h⟩
theorem tD_int {K : PySem.W.Frag} {E : WX} {a : Opd} {σ : St} {H : Hp} {Q : VK} (h : tD K E (intM a) σ H Q) : rdO K E a σ H fun x H1 => ∃ i, x = .int i ∧ Q (.int i) H1 := by
  obtain ⟨P, B, ia, s, Fs, r, w⟩ := h
  refine rd1 r ((op1_post w).mono (fun _ _ q => q) fun d s' q x H' F Fs' ov fr r' => ?_)
  split at q
  · exact ⟨_, ov.int_inv, q _ _ (.flat .int fr r')⟩
  · exact q.elim
/-- a[lo:hi] -/
def sliceM (a : Opd) (lo hi : Option Opd) : M (Bool × D) := match lo, hi with
  | none, none => opsM [a] fun ds s => match ds with
    | [x] => (match sliceD none none x with | some r => .ok r s | none => .stuck)
    | _ => .stuck
  | some l, none => opsM [a, .ex (intM l)] fun ds s => match ds with
    | [x, .int i] => (match sliceD (some i) none x with | some r => .ok r s | none => .stuck)
    | _ => .stuck
  | none, some h => opsM [a, .ex (intM h)] fun ds s => match ds with
    | [x, .int j] => (match sliceD none (some j) x with | some r => .ok r s | none => .stuck)
    | _ => .stuck
  | some l, some h => opsM [a, .ex (intM l), .ex (intM h)] fun ds s => match ds with
    | [x, .int i, .int j] => (match sliceD (some i) (some j) x with | some r => .ok r s | none => .stuck)
    | _ => .stuck
def rdP (K : PySem.W.Frag) (E : WX) : Option Opd → TO
  | none => tNoPart
  | some o => tPart (rdO K E o)
theorem tD_slice {K : PySem.W.Frag} {E : WX} {a : Opd} {lo hi : Option Opd} (σ : St) (H : Hp) (Q : VK) (w : tD K E (sliceM a lo hi) σ H Q) : tSl (rSlAll K) (rdO K E a) (rdP K E lo) (rdP K E hi) σ H Q := by
  obtain ⟨P, B, ia, s, Fs, r, w⟩ := w
  cases lo with
  | none =>
    cases hi with
    | none =>
      refine (rdOps (R := fun vs H' => match vs with | [x] => rSlAll K x none none H' Q | _ => False) r w (fun _ _ q => q) fun ds s' vs H' Gs Fs' q ov fr r' => ?_)
      cases ov with
      | cons o1 _ _ t =>
        cases t
        show rSlAll K _ _ _ H' Q
        dsimp only at q
        split at q
        · rename_i e; exact opd_sl r' o1 fr e q
        · exact q.elim
    | some h =>
      refine rdO_mono (Q := fun x H1 => tD K E (intM h) σ H1 fun y H2 => ∀ i, y = .int i → rSlAll K x none (some i) H2 Q)
        (rdOps (R := fun vs H' => match vs with | [x, y] => ∀ i, y = .int i → rSlAll K x none (some i) H' Q | _ => False) r w (fun _ _ q => q) fun ds s' vs H' Gs Fs' q ov fr r' => ?_)
        fun x H1 z => rdO_mono (tD_int z) fun y H2 ⟨i, e, z⟩ => ⟨i, e, z i rfl⟩
      cases ov with
      | cons o1 _ _ t =>
        cases t with
        | cons o2 _ _ t =>
          cases t
          show ∀ i, _ → _
          intro i ei
          split at q
          · rename_i h; cases h
            rw [o2.int_inv] at ei; cases ei
            split at q
            · rename_i e; exact opd_sl r' o1 fr e q
            · exact q.elim
          · exact q.elim
  | some l =>
    cases hi with
    | none =>
      refine rdO_mono (Q := fun x H1 => tD K E (intM l) σ H1 fun y H2 => ∀ i, y = .int i → rSlAll K x (some i) none H2 Q)
        (rdOps (R := fun vs H' => match vs with | [x, y] => ∀ i, y = .int i → rSlAll K x (some i) none H' Q | _ => False) r w (fun _ _ q => q) fun ds s' vs H' Gs Fs' q ov fr r' => ?_)
        fun x H1 z => rdO_mono (tD_int z) fun y H2 ⟨i, e, z⟩ => ⟨i, e, z i rfl⟩
      cases ov with
      | cons o1 _ _ t =>
        cases t with
        | cons o2 _ _ t =>
          cases t
          show ∀ i, _ → _
          intro i ei
          split at q
          · rename_i h; cases h
            rw [o2.int_inv] at ei; cases ei
            split at q
            · rename_i e; exact opd_sl r' o1 fr e q
            · exact q.elim
          · exact q.elim
    | some h =>
      refine rdO_mono (Q := fun x H1 => tD K E (intM l) σ H1 fun y H2 => tD K E (intM h) σ H2 fun z H3 => ∀ i j, y = .int i → z = .int j → rSlAll K x (some i) (some j) H3 Q)
        (rdOps (R := fun vs H' => match vs with | [x, y, z] => ∀ i j, y = .int i → z = .int j → rSlAll K x (some i) (some j) H' Q | _ => False) r w (fun _ _ q => q) fun ds s' vs H' Gs Fs' q ov fr r' => ?_)
        fun x H1 z => rdO_mono (tD_int z) fun y H2 ⟨i, e, z⟩ => ⟨i, e, rdO_mono (tD_int z) fun y H2 ⟨j, e, z⟩ => ⟨j, e, z i j rfl rfl⟩⟩
      cases ov with
      | cons o1 _ _ t =>
        cases t with
        | cons o2 _ _ t =>
          cases t with
          | cons o3 _ _ t =>
            cases t
            show ∀ i j, _ → _ → _
            intro i j ei ej
            split at q
            · rename_i h; cases h
              rw [o2.int_inv] at ei; cases ei
              rw [o3.int_inv] at ej; cases ej
              split at q
              · rename_i e; exact opd_sl r' o1 fr e q
              · exact q.elim
            · exact q.elim
section
variable {X : Cx} {E : WX}
/-- a slice's part -/
def POd (X : Cx) (E : WX) (e : Option Expr) (o : Option Opd) : Prop := PO X e (rdP X.K E o)
theorem pod_none : POd X E none none := po_none
theorem pod_some {e : Expr} {o : Opd} (h : PE X e (rdO X.K E o)) : POd X E (some e) (some o) := po_some h
theorem de_slice {e : Expr} {lo hi : Option Expr} {a : Opd} {l h : Option Opd} {pos p2 : Pos} (he : PE X e (rdO X.K E a)) (hl : POd X E lo l) (hh : POd X E hi h) : PE X (.Subscript e (.Slice lo hi none p2) pos) (tD X.K E (sliceM a l h)) :=
  (pe_slice or_sl he hl hh).imp tD_slice
end

/-! ### truth, tests -/
def truD : D → Option Bool
  | .non => some false
  | .bl b => some b
  | .int i => some (i != 0)
  | .str x => if x.length ≤ sizeLine then some ((x.length : Int) != 0) else none
  | .tup ds => some (!ds.isEmpty)
  | .lst ds => some (!ds.isEmpty)
  | .fro ds => some (!ds.isEmpty)
  | .dct kds => some (!kds.isEmpty)
  | .dcl _ => none
  | .dnt _ _ => none
  | .ty _ => none
theorem Reps.emp {K : PySem.W.Frag} {H : Hp} {ds : List D} {vs : List V} {F : List Addr} (h : Reps K H ds vs F) : ds.isEmpty = vs.isEmpty := by
  have := h.length
  cases ds <;> cases vs <;> first | rfl | simp at this
theorem RepK.length {K : PySem.W.Frag} {H : Hp} : ∀ {ds : List (Key × D)} {vs : List (Key × V)} {F : List Addr}, RepK K H ds vs F → ds.length = vs.length
  | [], _, _, h => by cases h; rfl
  | d :: ds, _, _, h => by
    cases h with
    | cons h1 h2 => simp [RepK.length h2]
theorem RepK.emp {K : PySem.W.Frag} {H : Hp} {ds : List (Key × D)} {vs : List (Key × V)} {F : List Addr} (h : RepK K H ds vs F) : ds.isEmpty = vs.isEmpty := by
  cases h <;> rfl
theorem OV.tru {K : PySem.W.Frag} {B : Addr → Prop} {s : S} {σ : St} {H : Hp} {d : D} {x : V} {F : List Addr} {k : Bool} (o : OV K B s σ H d x F) (e : truD d = some k) : TruV K x H k := by
  unfold truD at e
  split at e
  · cases e; rw [o.non_inv]; rfl
  · cases e; rw [o.bl_inv]; rfl
  · cases e; rw [o.int_inv]; rfl
  · split at e
    · rename_i hz; cases e; rw [o.str_inv]; exact ⟨hz, rfl⟩
    · cases e
  · cases e
    obtain ⟨a, vs, rfl, h1, h2, _⟩ := o.tup_inv
    exact .inr (.inl ⟨vs, h1, by rw [h2.emp]⟩)
  · cases e
    obtain ⟨a, vs, _, rfl, h1, h2, _⟩ := o.lst_inv
    exact .inl ⟨vs, SqL.of h1, by rw [h2.emp]⟩
  · cases e
    obtain ⟨a, vs, rfl, h1, h2, _⟩ := o.fro_inv
    exact .inl ⟨vs, fz_sq h1, by rw [h2.emp]⟩
  · cases e
    obtain ⟨a, vs, _, rfl, h1, h2, _⟩ := o.dct_inv
    refine .inr (.inr ⟨vs, h1, ?_⟩)
    have := h2.emp
    rw [this]
  · cases e
  · cases e
  · cases e
/-- the reading of a test by its function -/
def tT (K : PySem.W.Frag) (E : WX) (f : M Bool) : TT := fun σ H Q => ∃ P B ia s Fs, SR K P B ia s σ H Fs ∧
  Post (fun x s' => ∀ cls dx H', RX K P B ia s' σ H H' x cls dx → E cls dx σ H') (fun b s' => ∀ H' Fs', Fr P H H' → SR K P B ia s' σ H' Fs' → Q b H') (f s)
def truM (a : Opd) : M Bool := op1 a fun x s => match truD x with
  | some b => .ok b s
  | none => .stuck
def notM (a : M Bool) : M Bool := fun s => (a s).bind fun b s' => .ok (!b) s'
def andM (a b : M Bool) : M Bool := fun s => (a s).bind fun x s' => if x = true then b s' else .ok false s'
def orM (a b : M Bool) : M Bool := fun s => (a s).bind fun x s' => if x = true then .ok true s' else b s'
/-- a if t else b -/
def iteM {α : Type} (t : M Bool) (a b : M α) : M α := fun s => (t s).bind fun x s' => if x = true then a s' else b s'
/-- x and y, x or y, not x as values -/
def andV (a b : M (Bool × D)) : M (Bool × D) := fun s => (a s).bind fun x s' => match truD x.2 with
  | some true => b s'
  | some false => .ok x s'
  | none => .stuck
def orV (a b : M (Bool × D)) : M (Bool × D) := fun s => (a s).bind fun x s' => match truD x.2 with
  | some true => .ok x s'
  | some false => b s'
  | none => .stuck
def notV (a : Opd) : M (Bool × D) := op1 a fun x s => match truD x with
  | some b => .ok (false, .bl (!b)) s
  | none => .stuck
section
variable {K : PySem.W.Frag} {P B : Addr → Prop} {ia : Nat → Addr} {s : S} {σ : St} {H H' H1 : Hp} {Fs : Nat → List Addr} {E : WX} {d : D} {v : V} {F : List Addr}
theorem RV.ov {fr : Bool} (h : RV K P B ia s σ H H' fr d v) : ∃ F Fs, OV K B s σ H' d v F ∧ Fr P H H' ∧ SR K P B ia s σ H' Fs := by
  obtain ⟨F, Fs, h1, h2, h3, h4, h5⟩ := h
  exact ⟨F, Fs, ⟨h1, h3, .inl (h4.noOwn fun a m => .inr m)⟩, h2, h4.weak fun b m => .inl m⟩
theorem RV.step {fr : Bool} {P' : Addr → Prop} {s' : S} {H2 : Hp} (h : Fr P H H1) (q : RV K P B ia s' σ H1 H2 fr d v) : RV K P B ia s' σ H H2 fr d v := by
  obtain ⟨F, Fs, h1, h2, h3, h4, h5⟩ := q
  exact ⟨F, Fs, h1, h.trans h2, h3, h4, h5⟩
theorem RX.step {s' : S} {x : Exn} {cls : Value} {dx : Option Addr} (h : Fr P H H1) (q : RX K P B ia s' σ H1 H' x cls dx) : RX K P B ia s' σ H H' x cls dx := by
  obtain ⟨Fs, h1, h2, h3⟩ := q
  exact ⟨Fs, h.trans h1, h2, h3⟩
end
section
variable {X : Cx} {E : WX} {a b : Expr} {pos : Pos}
theorem dt_tru {oa : Opd} (ha : PE X a (rdO X.K E oa)) (he : ∀ whole, isTrue a X.env whole = (do let v ← whole; standAt a.pos; holding [v] (truthy v)) := by intro _; rfl) : PT X a (tT X.K E (truM oa)) :=
  (pt_truth ha he).imp fun σ H Q h => by
    obtain ⟨P, B, ia, s, Fs, r, w⟩ := h
    refine rd1 r ((op1_post w).mono (fun _ _ q => q) fun d s' q x H' F Fs' ov fr r' => ?_)
    split at q
    · rename_i e; exact ⟨_, ov.tru e, q H' Fs' fr r'⟩
    · exact q.elim
theorem dt_not {f : M Bool} (ha : PT X a (tT X.K E f)) : PT X (.UnaryOp .Not a pos) (tT X.K E (notM f)) := (pt_not ha).imp fun σ H Q h => by
  obtain ⟨P, B, ia, s, Fs, r, w⟩ := h
  exact ⟨P, B, ia, s, Fs, r, (Post.bind w).mono (fun _ _ q => q) fun b s' q H' Fs' fr r' => q H' Fs' fr r'⟩
theorem tT_and {K : PySem.W.Frag} {f g : M Bool} (σ : St) (H : Hp) (Q : Bool → Hp → Prop) (h : tT K E (andM f g) σ H Q) : tAnd (tT K E f) (tT K E g) σ H Q := by
  obtain ⟨P, B, ia, s, Fs, r, w⟩ := h
  refine ⟨P, B, ia, s, Fs, r, (Post.bind w).mono (fun _ _ q => q) fun b s' q H' Fs' fr r' => ?_⟩
  cases b with
  | true =>
    rw [if_pos rfl] at q
    refine iteT ⟨P, B, ia, s', Fs', r', q.mono (fun x s2 q cls dx H2 rx => q cls dx H2 (rx.step fr)) fun b2 s2 q H2 Fs2 fr2 r2 => q H2 Fs2 (fr.trans fr2) r2⟩
  | false =>
    rw [if_neg (by decide)] at q
    exact iteF (q H' Fs' fr r')
theorem tT_or {K : PySem.W.Frag} {f g : M Bool} (σ : St) (H : Hp) (Q : Bool → Hp → Prop) (h : tT K E (orM f g) σ H Q) : tOr (tT K E f) (tT K E g) σ H Q := by
  obtain ⟨P, B, ia, s, Fs, r, w⟩ := h
  refine ⟨P, B, ia, s, Fs, r, (Post.bind w).mono (fun _ _ q => q) fun b s' q H' Fs' fr r' => ?_⟩
  cases b with
  | true =>
    rw [if_pos rfl] at q
    exact iteT (q H' Fs' fr r')
  | false =>
    rw [if_neg (by decide)] at q
    refine iteF ⟨P, B, ia, s', Fs', r', q.mono (fun x s2 q cls dx H2 rx => q cls dx H2 (rx.step fr)) fun b2 s2 q H2 Fs2 fr2 r2 => q H2 Fs2 (fr.trans fr2) r2⟩
variable {rest : List Expr}
theorem dw_and1 {f : M Bool} (ha : PT X a (tT X.K E f)) : PW X (.BoolOp .And [a] pos) (tT X.K E f) := pw_and1 ha
theorem dw_or1 {f : M Bool} (ha : PT X a (tT X.K E f)) : PW X (.BoolOp .Or [a] pos) (tT X.K E f) := pw_or1 ha
theorem dw_and {f g : M Bool} (ha : PT X a (tT X.K E f)) (hb : PW X (.BoolOp .And (b :: rest) pos) (tT X.K E g)) : PW X (.BoolOp .And (a :: b :: rest) pos) (tT X.K E (andM f g)) := (pw_and ha hb).imp tT_and
theorem dw_or {f g : M Bool} (ha : PT X a (tT X.K E f)) (hb : PW X (.BoolOp .Or (b :: rest) pos) (tT X.K E g)) : PW X (.BoolOp .Or (a :: b :: rest) pos) (tT X.K E (orM f g)) := (pw_or ha hb).imp tT_or
theorem dt_w {f : M Bool} (h : PW X a (tT X.K E f)) : PT X a (tT X.K E f) := h.pt
theorem de_ite {c : Expr} {t : M Bool} {f g : M (Bool × D)} (hc : PT X c (tT X.K E t)) (ha : PE X a (tD X.K E f)) (hb : PE X b (tD X.K E g)) : PE X (.IfExp c a b pos) (tD X.K E (iteM t f g)) := (pe_ifExp hc ha hb).imp fun σ H Q h => by
  obtain ⟨P, B, ia, s, Fs, r, w⟩ := h
  refine ⟨P, B, ia, s, Fs, r, (Post.bind w).mono (fun _ _ q => q) fun b s' q H' Fs' fr r' => ?_⟩
  cases b with
  | true =>
    rw [if_pos rfl] at q
    exact iteT ⟨P, B, ia, s', Fs', r', q.mono (fun x s2 q cls dx H2 rx => q cls dx H2 (rx.step fr)) fun b2 s2 q v H2 rv => q v H2 (RV.step (P' := P) fr rv)⟩
  | false =>
    rw [if_neg (by decide)] at q
    exact iteF ⟨P, B, ia, s', Fs', r', q.mono (fun x s2 q cls dx H2 rx => q cls dx H2 (rx.step fr)) fun b2 s2 q v H2 rv => q v H2 (RV.step (P' := P) fr rv)⟩
theorem de_one {op} {f : M (Bool × D)} (ha : PE X a (tD X.K E f)) : PE X (.BoolOp op [a] pos) (tD X.K E f) := pe_one ha
theorem de_and {f g : M (Bool × D)} (ha : PE X a (tD X.K E f)) (hb : PE X (.BoolOp .And (b :: rest) pos) (tD X.K E g)) : PE X (.BoolOp .And (a :: b :: rest) pos) (tD X.K E (andV f g)) := (pe_andT ha hb).imp fun σ H Q h => by
  obtain ⟨P, B, ia, s, Fs, r, w⟩ := h
  refine ⟨P, B, ia, s, Fs, r, (Post.bind w).mono (fun _ _ q => q) fun x s' q v H' rv => ?_⟩
  obtain ⟨F, Fs', ov, fr, r'⟩ := rv.ov
  split at q
  · rename_i e
    exact ⟨true, ov.tru e, iteT ⟨P, B, ia, s', Fs', r', q.mono (fun x s2 q cls dx H2 rx => q cls dx H2 (rx.step fr)) fun b2 s2 q v H2 rv => q v H2 (RV.step (P' := P) fr rv)⟩⟩
  · rename_i e
    exact ⟨false, ov.tru e, iteF (q v H' rv)⟩
  · exact q.elim
theorem de_or {f g : M (Bool × D)} (ha : PE X a (tD X.K E f)) (hb : PE X (.BoolOp .Or (b :: rest) pos) (tD X.K E g)) : PE X (.BoolOp .Or (a :: b :: rest) pos) (tD X.K E (orV f g)) := (pe_orT ha hb).imp fun σ H Q h => by
  obtain ⟨P, B, ia, s, Fs, r, w⟩ := h
  refine ⟨P, B, ia, s, Fs, r, (Post.bind w).mono (fun _ _ q => q) fun x s' q v H' rv => ?_⟩
  obtain ⟨F, Fs', ov, fr, r'⟩ := rv.ov
  split at q
  · rename_i e
    exact ⟨true, ov.tru e, iteT (q v H' rv)⟩
  · rename_i e
    exact ⟨false, ov.tru e, iteF ⟨P, B, ia, s', Fs', r', q.mono (fun x s2 q cls dx H2 rx => q cls dx H2 (rx.step fr)) fun b2 s2 q v H2 rv => q v H2 (RV.step (P' := P) fr rv)⟩⟩
  · exact q.elim
theorem de_not {oa : Opd} (ha : PE X a (rdO X.K E oa)) : PE X (.UnaryOp .Not a pos) (tD X.K E (notV oa)) := (pe_notT ha).imp fun σ H Q h => by
  obtain ⟨P, B, ia, s, Fs, r, w⟩ := h
  refine rd1 r ((op1_post w).mono (fun _ _ q => q) fun d s' q x H' F Fs' ov fr r' => ?_)
  split at q
  · rename_i e; exact ⟨_, ov.tru e, q _ _ (.flat .bl fr r')⟩
  · exact q.elim
/-- -x of an int -/
def negM (a : Opd) : M (Bool × D) := op1 a fun x s => match x with
  | .int i => .ok (false, .int (-i)) s
  | _ => .stuck
theorem de_neg {oa : Opd} (ha : PE X a (rdO X.K E oa)) : PE X (.UnaryOp .USub a pos) (tD X.K E (negM oa)) := (pe_un un_neg ha).imp fun σ H Q h => by
  obtain ⟨P, B, ia, s, Fs, r, w⟩ := h
  refine rd1 r ((op1_post w).mono (fun _ _ q => q) fun d s' q x H' F Fs' ov fr r' => ?_)
  split at q
  · exact ⟨_, ov.int_inv, q _ _ (.flat .int fr r')⟩
  · exact q.elim
/-- a < b < c -/
def chainM (g g' : D → D → Option (Bool × D)) (a b c : M (Bool × D)) : M (Bool × D) := fun s => (a s).bind fun x s1 => (b s1).bind fun y s2 => match g x.2 y.2 with
  | some (_, .bl true) => (c s2).bind fun z s3 => (match g' y.2 z.2 with | some r => .ok r s3 | none => .stuck)
  | some (_, .bl false) => .ok (false, .bl false) s2
  | _ => .stuck
end

/-! ### displays -/
def tupM (fs : List (M (Bool × D))) : M (Bool × D) := opsM (fs.map .ex) fun ds s => if ds.length ≤ sizeLine then .ok (false, .tup ds) s else .stuck
def lstM (fs : List (M (Bool × D))) : M (Bool × D) := opsM (fs.map .ex) fun ds s => if ds.length ≤ sizeLine then .ok (true, .lst ds) s else .stuck
theorem allEx : ∀ fs : List (M (Bool × D)), (fs.map Opd.ex).all Opd.isEx = true
  | [] => rfl
  | _ :: fs => by simp [Opd.isEx, allEx fs]
section
variable {X : Cx} {E : WX} {es : List Expr} {pos : Pos}
/-- arguments -/
abbrev PAd (X : Cx) (E : WX) (es : List Expr) (os : List Opd) : Prop := PA X es (rdOs X.K E os)
theorem da_nil : PAd X E [] [] := pa_nil
theorem da_cons {e : Expr} {o : Opd} {os : List Opd} (h : PE X e (rdO X.K E o)) (hs : PAd X E es os) (hst : starEach (e :: es) X.env = (false, eval e X.env) :: starEach es X.env := by rfl) : PAd X E (e :: es) (o :: os) := pa_cons h hs hst
theorem de_tup {x1} {fs : List (M (Bool × D))} (h : PAd X E es (fs.map .ex)) : PE X (.Tuple es x1 pos) (tD X.K E (tupM fs)) := (pe_tup h).imp fun σ H Q h => by
  obtain ⟨P, B, ia, s, Fs, r, w⟩ := h
  refine rdOps r w (fun _ _ q => q) fun ds s' vs H' Gs Fs' q ov fr r' => ?_
  split at q
  · rename_i hz
    obtain ⟨G, g1, g2, g3⟩ := ov.reps (allEx fs)
    exact ⟨by rw [← ov.length.1]; exact hz, fun p np => q _ _ (.tup g1 g2 g3 fr r' np)⟩
  · exact q.elim
theorem de_lst {fs : List (M (Bool × D))} (h : PAd X E es (fs.map .ex)) : PE X (.List es pos) (tD X.K E (lstM fs)) := (pe_lst h).imp fun σ H Q h => by
  obtain ⟨P, B, ia, s, Fs, r, w⟩ := h
  refine rdOps r w (fun _ _ q => q) fun ds s' vs H' Gs Fs' q ov fr r' => ?_
  split at q
  · rename_i hz
    obtain ⟨G, g1, g2, g3⟩ := ov.reps (allEx fs)
    exact ⟨by rw [← ov.length.1]; exact hz, fun p np => q _ _ (.lst g1 g2 g3 fr r' np)⟩
  · exact q.elim
end
end PV

/-! PV: statements by values. -/
namespace PV
open PySem PySem.Spec L2

inductive Fl where
  | nx | rt (fr : Bool) (d : D) | bk | ct
section
variable {K : PySem.W.Frag} {P B : Addr → Prop} {ia : Nat → Addr} {s : S} {σ : St} {H H' H1 : Hp} {Fs : Nat → List Addr} {E : WX} {d : D} {v : V} {F : List Addr}
/-- a slot is stored -/
theorem SR.set (r : SR K P B ia s σ H Fs) (h : Rep K H d v F) (hp : NoOwn s σ F) (hb : ∀ a, a ∈ F → B a) {i : Nat} {x : Slot} (e : s[i]? = some x) (nio : ∀ d, x ≠ some (.io, d)) {o : Own} (hio : o ≠ .io)
    (ho : o ≠ .sh → ∃ a G, v = .ref a ∧ F = a :: G ∧ RepM K H d a G ∧ a ∉ G ∧ ¬ P a ∧ ∀ j, a ∉ Fs j) :
    SR K P B ia (s.set i (some (o, d))) (σ.set i (some v)) H (fun j => if j = i then F else Fs j) := by
  have hi : i < s.length := (List.getElem?_eq_some_iff.mp e).1
  have hiσ : i < σ.length := by rw [← r.len]; exact hi
  have σe : (σ.set i (some v))[i]? = some (some v) := List.getElem?_set_self hiσ
  have σn : ∀ {j : Nat}, j ≠ i → (σ.set i (some v))[j]? = σ[j]? := fun h => List.getElem?_set_ne fun e => h e.symm
  refine ⟨by simp [r.len], fun j o' d' q => ?_, fun j o' d' q n => ?_, fun j d' q => ?_, fun j q => ?_, fun j a m => ?_, r.tr, r.nb⟩
  · by_cases hj : j = i
    · subst hj
      rw [get_set_eq e] at q; cases q
      exact ⟨v, σe, by rw [if_pos rfl]; exact h⟩
    · rw [get_set_ne hj] at q; rw [σn hj, if_neg hj]; exact r.rep j o' d' q
  · by_cases hj : j = i
    · subst hj
      rw [get_set_eq e] at q; cases q
      obtain ⟨a, G, h1, h2, h3, h4, h5, h6⟩ := ho n
      subst h1
      exact ⟨a, G, σe, by rw [if_pos rfl]; exact h2, h3, h4, h5, fun k hk => by rw [if_neg hk]; exact h6 k⟩
    · rw [get_set_ne hj] at q; rw [σn hj, if_neg hj]
      obtain ⟨a, G, h1, h2, h3, h4, h5, h6⟩ := r.own j o' d' q n
      refine ⟨a, G, h1, h2, h3, h4, h5, fun k hk => ?_⟩
      by_cases hk2 : k = i
      · rw [if_pos hk2]; exact hp j o' d' a q n h1
      · rw [if_neg hk2]; exact h6 k hk
  · by_cases hj : j = i
    · subst hj
      rw [get_set_eq e] at q; cases q
      exact absurd rfl hio
    · rw [get_set_ne hj] at q; rw [σn hj]; exact r.iov j d' q
  · by_cases hj : j = i
    · subst hj
      exact absurd (get_set_eq e) (q o d)
    · rw [if_neg hj]
      exact r.dead j fun o' d' z => q o' d' (by rw [get_set_ne hj]; exact z)
  · by_cases hj : j = i
    · rw [if_pos hj] at m; exact hb a m
    · rw [if_neg hj] at m; exact r.inB j a m
/-- what stands in a slot of one's own is changed -/
theorem SR.write {F2 : List Addr} (r : SR K (fun b => P b ∨ b ∈ F2) B ia s σ H Fs) {i : Nat} {o : Own} (e : s[i]? = some (some (o, d))) (n : o ≠ .sh) {a : Addr} {G G' : List Addr} (ha : σ[i]? = some (some (V.ref a))) (hF : Fs i = a :: G) {ob : HO} {d' : D}
    (h : RepM K (upd H a ob) d' a G') (hG : ∀ b, b ∈ G' → b ∈ G ∨ b ∈ F2) (hb : ∀ b, b ∈ F2 → B b) (hu : d.ul := by intro _ h; cases h) :
    SR K P B ia (s.set i (some (o, d'))) σ (upd H a ob) (fun j => if j = i then a :: G' else Fs j) ∧ Fr P H (upd H a ob) := by
  obtain ⟨a', G0, h1, h2, h3, h4, h5, h6⟩ := r.own i o d e n
  rw [ha] at h1; cases h1
  rw [hF] at h2; cases h2
  obtain ⟨ob0, hm, nim⟩ := h3.mut hu
  have fr : Fr P H (upd H a ob) := Fr.put hm nim fun q => h5 (.inl q)
  have keepF : ∀ j, j ≠ i → ∀ b, b ∈ Fs j → upd H a ob b = H b := fun j hj b m => upd_ne fun e => h6 j hj (e ▸ m)
  have nG' : a ∉ G' := fun m => (hG a m).elim h4 fun m => h5 (.inr m)
  refine ⟨⟨by simp [r.len], fun j o' d2 q => ?_, fun j o' d2 q n' => ?_, fun j d2 q => ?_, fun j q => ?_, fun j b m => ?_, fun b q => ?_, fun b q => ?_⟩, fr⟩
  · by_cases hj : j = i
    · subst hj
      rw [get_set_eq e] at q; cases q
      exact ⟨.ref a, ha, by rw [if_pos rfl]; exact h.rep⟩
    · rw [get_set_ne hj] at q; rw [if_neg hj]
      obtain ⟨v, g1, g2⟩ := r.rep j o' d2 q
      exact ⟨v, g1, g2.keep fr.i fun b m => keepF j hj b m⟩
  · by_cases hj : j = i
    · subst hj
      rw [get_set_eq e] at q; cases q
      exact ⟨a, G', ha, by rw [if_pos rfl], h, nG', fun q => h5 (.inl q), fun k hk => by rw [if_neg hk]; exact h6 k hk⟩
    · rw [get_set_ne hj] at q; rw [if_neg hj]
      obtain ⟨b, G2, g1, g2, g3, g4, g5, g6⟩ := r.own j o' d2 q n'
      refine ⟨b, G2, g1, g2, g3.keep fr.i fun c m => keepF j hj c (by rw [g2]; exact m), g4, fun q => g5 (.inl q), fun k hk => ?_⟩
      by_cases hk2 : k = i
      · rw [if_pos hk2]
        intro m
        have nb : b ∉ a :: G := by rw [← hF]; exact g6 i (Ne.symm hj)
        rcases List.mem_cons.mp m with rfl | m
        · exact nb List.mem_cons_self
        · exact (hG b m).elim (fun m => nb (List.mem_cons_of_mem _ m)) fun m => g5 (.inr m)
      · rw [if_neg hk2]; exact g6 k hk
  · by_cases hj : j = i
    · subst hj
      rw [get_set_eq e] at q; cases q
      exact r.iov j d e
    · rw [get_set_ne hj] at q; exact r.iov j d2 q
  · by_cases hj : j = i
    · subst hj
      exact absurd (get_set_eq e) (q o d')
    · rw [if_neg hj]
      exact r.dead j fun o' d2 z => q o' d2 (by rw [get_set_ne hj]; exact z)
  · by_cases hj : j = i
    · rw [if_pos hj] at m
      have hin : ∀ c, c ∈ a :: G → B c := fun c mc => r.inB i c (by rw [hF]; exact mc)
      rcases List.mem_cons.mp m with rfl | m
      · exact hin _ List.mem_cons_self
      · exact (hG b m).elim (fun m => hin b (List.mem_cons_of_mem _ m)) (hb b)
    · rw [if_neg hj] at m; exact r.inB j b m
  · by_cases hba : b = a
    · subst hba; rw [upd_same]; simp
    · rw [upd_ne hba]; exact r.tr b (.inl q)
  · by_cases hba : b = a
    · subst hba; rw [upd_same] at q; cases q
    · rw [upd_ne hba] at q; exact r.nb b q
end

/-- a statement's ways -/
def SPd (K : PySem.W.Frag) (P B : Addr → Prop) (ia : Nat → Addr) (H : Hp) (Dn : Ends) (fl : Fl) (s' : S) : Prop := match fl with
  | .nx => ∀ σ' H' Fs', Fr P H H' → SR K P B ia s' σ' H' Fs' → Dn.nx σ' H'
  | .bk => ∀ σ' H' Fs', Fr P H H' → SR K P B ia s' σ' H' Fs' → Dn.bk σ' H'
  | .ct => ∀ σ' H' Fs', Fr P H H' → SR K P B ia s' σ' H' Fs' → Dn.ct σ' H'
  | .rt fr d => ∀ v σ' H', RV K P B ia s' σ' H H' fr d v → Dn.rt v H'
/-- an exception's way, whatever the slots are -/
def XPd (K : PySem.W.Frag) (P B : Addr → Prop) (ia : Nat → Addr) (H : Hp) (E : WX) (x : Exn) (s' : S) : Prop := ∀ σ' cls dx H', RX K P B ia s' σ' H H' x cls dx → E cls dx σ' H'
def tS (K : PySem.W.Frag) (E : WX) (f : M Fl) : TS := fun Dn σ H => ∃ P B ia s Fs, SR K P B ia s σ H Fs ∧ Post (XPd K P B ia H E) (SPd K P B ia H Dn) (f s)
section
variable {K : PySem.W.Frag} {P B : Addr → Prop} {ia : Nat → Addr} {s s' : S} {σ : St} {H H' H1 : Hp} {Fs : Nat → List Addr} {E : WX} {x : Exn} {Dn : Ends} {fl : Fl}
theorem XPd.to (h : XPd K P B ia H E x s') : ∀ cls dx H', RX K P B ia s' σ H H' x cls dx → E cls dx σ H' := fun cls dx H' r => h σ cls dx H' r
theorem XPd.step (h : XPd K P B ia H E x s') (f : Fr P H H1) : XPd K P B ia H1 E x s' := fun σ' cls dx H' r => h σ' cls dx H' (r.step f)
theorem SPd.step (h : SPd K P B ia H Dn fl s') (f : Fr P H H1) : SPd K P B ia H1 Dn fl s' := by
  cases fl with
  | nx => exact fun σ' H' Fs' fr r => h σ' H' Fs' (f.trans fr) r
  | bk => exact fun σ' H' Fs' fr r => h σ' H' Fs' (f.trans fr) r
  | ct => exact fun σ' H' Fs' fr r => h σ' H' Fs' (f.trans fr) r
  | rt fr d => exact fun v σ' H' rv => h v σ' H' (RV.step (P' := P) f rv)
end

/-! ### the statements -/
def nxM : M Fl := fun s => .ok .nx s
def bkM : M Fl := fun s => .ok .bk s
def ctM : M Fl := fun s => .ok .ct s
def seqM (a b : M Fl) : M Fl := fun s => (a s).bind fun fl s' => match fl with
  | .nx => b s'
  | fl => .ok fl s'
def dropM (f : M (Bool × D)) : M Fl := fun s => (f s).bind fun _ s' => .ok .nx s'
def retM (f : M (Bool × D)) : M Fl := fun s => (f s).bind fun r s' => .ok (.rt r.1 r.2) s'
def retN : M Fl := fun s => .ok (.rt false .non) s
/-- the slots behind a store -/
def putS (s : S) (i : Nat) (o : Own) (d : D) : Option S := match s[i]? with
  | some (some (.io, _)) => none
  | some _ => some (s.set i (some (o, d)))
  | none => none
def setM (i : Nat) (f : M (Bool × D)) : M Fl := fun s => (f s).bind fun r s' => match putS s' i (if r.1 = true then .ow else .sh) r.2 with
  | some s2 => .ok .nx s2
  | none => .stuck
theorem putS_inv {s s' : S} {i : Nat} {o : Own} {d : D} (h : putS s i o d = some s') : ∃ x, s[i]? = some x ∧ (∀ d, x ≠ some (.io, d)) ∧ s' = s.set i (some (o, d)) := by
  unfold putS at h
  split at h
  · cases h
  · rename_i x hx e
    cases h
    exact ⟨x, e, fun d' q => hx d' q, rfl⟩
  · cases h
section
variable {X : Cx} {E : WX} {st : Stmt} {rest : List Stmt} {pos : Pos}
theorem ds_nil : PSs X [] (tS X.K E nxM) := pss_nil.imp fun Dn σ H h => by
  obtain ⟨P, B, ia, s, Fs, r, w⟩ := h
  exact w σ H Fs Fr.refl r
theorem tS_seq {K : PySem.W.Frag} {f g : M Fl} (Dn : Ends) (σ : St) (H : Hp) (h : tS K E (seqM f g) Dn σ H) : tSeq (tS K E f) (tS K E g) Dn σ H := by
  obtain ⟨P, B, ia, s, Fs, r, w⟩ := h
  refine ⟨P, B, ia, s, Fs, r, (Post.bind w).mono (fun _ _ q => q) fun fl s' q => ?_⟩
  cases fl with
  | nx => exact fun σ' H' Fs' fr r' => ⟨P, B, ia, s', Fs', r', q.mono (fun x s2 q => q.step fr) fun fl s2 q => q.step fr⟩
  | bk => exact q
  | ct => exact q
  | rt fr d => exact q
theorem ds_cons {f g : M Fl} (h1 : PS X st (tS X.K E f)) (h2 : PSs X rest (tS X.K E g)) : PSs X (st :: rest) (tS X.K E (seqM f g)) := (pss_cons h1 h2).imp tS_seq
theorem ds_one {f : M Fl} (h1 : PS X st (tS X.K E f)) : PSs X [st] (tS X.K E f) := pss_one h1
theorem ds_pass : PS X (.Pass pos) (tS X.K E nxM) := ps_pass.imp fun Dn σ H h => by
  obtain ⟨P, B, ia, s, Fs, r, w⟩ := h
  exact w σ H Fs Fr.refl r
theorem ds_break : PS X (.Break pos) (tS X.K E bkM) := ps_break.imp fun Dn σ H h => by
  obtain ⟨P, B, ia, s, Fs, r, w⟩ := h
  exact w σ H Fs Fr.refl r
theorem ds_continue : PS X (.Continue pos) (tS X.K E ctM) := ps_continue.imp fun Dn σ H h => by
  obtain ⟨P, B, ia, s, Fs, r, w⟩ := h
  exact w σ H Fs Fr.refl r
theorem ds_expr {e : Expr} {f : M (Bool × D)} (he : PE X e (tD X.K E f)) (hs : swapsWith e none pos.line X.env = pure false := by rfl) : PS X (.Expr e pos) (tS X.K E (dropM f)) := (ps_expr he hs).imp fun Dn σ H h => by
  obtain ⟨P, B, ia, s, Fs, r, w⟩ := h
  refine ⟨P, B, ia, s, Fs, r, (Post.bind w).mono (fun _ _ q => q.to) fun a s' q v H' rv => ?_⟩
  obtain ⟨F, Fs', ov, fr, r'⟩ := rv.ov
  exact q σ H' Fs' fr r'
theorem ds_ret {e : Expr} {f : M (Bool × D)} (he : PE X e (tD X.K E f)) : PS X (.Return (some e) pos) (tS X.K E (retM f)) := (ps_ret he).imp fun Dn σ H h => by
  obtain ⟨P, B, ia, s, Fs, r, w⟩ := h
  exact ⟨P, B, ia, s, Fs, r, (Post.bind w).mono (fun _ _ q => q.to) fun a s' q v H' rv => q v σ H' rv⟩
theorem ds_retN : PS X (.Return none pos) (tS X.K E retN) := ps_retN.imp fun Dn σ H h => by
  obtain ⟨P, B, ia, s, Fs, r, w⟩ := h
  exact w .non σ H (.flat .non Fr.refl r)
theorem ds_if {c : Expr} {a b : List Stmt} {t : M Bool} {f g : M Fl} (hc : PT X c (tT X.K E t)) (ha : PSs X a (tS X.K E f)) (hb : PSs X b (tS X.K E g)) : PS X (.If c a b pos) (tS X.K E (iteM t f g)) := (ps_if hc ha hb).imp fun Dn σ H h => by
  obtain ⟨P, B, ia, s, Fs, r, w⟩ := h
  refine ⟨P, B, ia, s, Fs, r, (Post.bind w).mono (fun _ _ q => q.to) fun b s' q H' Fs' fr r' => ?_⟩
  cases b with
  | true =>
    rw [if_pos rfl] at q
    exact iteT ⟨P, B, ia, s', Fs', r', q.mono (fun x s2 q => q.step fr) fun fl s2 q => q.step fr⟩
  | false =>
    rw [if_neg (by decide)] at q
    exact iteF ⟨P, B, ia, s', Fs', r', q.mono (fun x s2 q => q.step fr) fun fl s2 q => q.step fr⟩
theorem tS_set {K : PySem.W.Frag} {i : Nat} {f : M (Bool × D)} (Dn : Ends) (σ : St) (H : Hp) (h : tS K E (setM i f) Dn σ H) : tAsg (tD K E f) (gName i) Dn σ H := by
  obtain ⟨P, B, ia, s, Fs, r, w⟩ := h
  refine ⟨P, B, ia, s, Fs, r, (Post.bind w).mono (fun _ _ q => q.to) fun a s' q v H' rv => ?_⟩
  obtain ⟨F, Fs', h1, h2, h3, h4, h5⟩ := rv
  split at q
  · rename_i s2 e
    obtain ⟨x, e1, e2, e3⟩ := putS_inv e
    subst e3
    refine q _ H' _ h2 ((h4.weak fun b m => .inl m).set h1 (h4.noOwn fun a m => .inr m) h3 e1 e2 (by split <;> decide) fun ho => ?_)
    split at ho
    · rename_i hfr
      obtain ⟨a, G, g1, g2, g3, g4, g5, g6⟩ := h5 hfr
      exact ⟨a, G, g1, g2, g3, g4, g5, g6⟩
    · exact absurd rfl ho
  · exact q.elim
theorem ds_set {i : Nat} {x : Str} {e : Expr} {pos' : Pos} {f : M (Bool × D)} (he : PE X e (tD X.K E f)) (hN : X.N.Nodup) (hi : X.N[i]? = some x := by rfl) (hx : Loc X.env.scope x := by first | exact .inl rfl | exact .inr rfl) (hs : swapsWith e (some (.Name x pos')) pos.line X.env = pure false := by rfl)
    (hf : X.fn x = true ∨ X.env.scope.names.lookup x = some .local := by first | exact .inl rfl | exact .inr rfl | assumption) : PS X (.Assign [.Name x pos'] e pos) (tS X.K E (setM i f)) := (ps_set hN hi hx he hs hf).imp tS_set
end

/-! ### x op= e at a name -/
def augM (g : D → D → Option (Bool × D)) (i : Nat) (f : M (Bool × D)) : M Fl := fun s => match s[i]? with
  | some (some (.io, _)) => .stuck
  | some (some (_, _)) => (f s).bind fun y s' => (match s'[i]? with
    | some (some (_, dx)) => (match g dx y.2 with
      | some (false, z) => (match putS s' i .sh z with | some s2 => .ok .nx s2 | none => .stuck)
      | _ => .stuck)
    | _ => .stuck)
  | _ => .stuck
def addI : D → D → Option (Bool × D)
  | .int i, .int j => some (false, .int (i + j))
  | .str x, .str y => if x.length + y.length ≤ sizeLine then some (false, .str (x ++ y)) else none
  | _, _ => none
def rAddI : TIp := fun x y H Q => rI0 (fun i j => .int (i + j)) x y H Q ∨ ∃ i j, x = .str i ∧ y = .str j ∧ i.length + j.length ≤ sizeLine ∧ Q (.str (i ++ j)) H
section
variable {X : Cx} {E : WX} {pos : Pos}
theorem ip_addI : PIp X .Add rAddI := fun pins s σ H x y v u Q I rx ry h => h.elim (iop_add pins s σ H x y v u Q I rx ry) (iop_add_str pins s σ H x y v u Q I rx ry)
theorem ip_subI : PIp X .Sub (rI0 fun i j => .int (i - j)) := fun pins s σ H x y v u Q I rx ry h => iop_sub pins s σ H x y v u Q I rx ry h
theorem opd_addI {K : PySem.W.Frag} : OpD K addI rAddI := by
  intro P B ia s σ H H0 Fs dx dy q x y F G Q R o1 o2 fr e k
  unfold addI at e
  split at e
  · cases e; exact .inl ⟨_, _, o1.int_inv, o2.int_inv, k _ _ (.flat .int fr R)⟩
  · split at e
    · rename_i hz
      cases e; exact .inr ⟨_, _, o1.str_inv, o2.str_inv, hz, k _ _ (.flat .str fr R)⟩
    · cases e
  · cases e
theorem tS_aug {K : PySem.W.Frag} {g : D → D → Option (Bool × D)} {ti : TIp} (ho : OpD K g ti) {i : Nat} {f : M (Bool × D)} (Dn : Ends) (σ : St) (H : Hp) (h : tS K E (augM g i f) Dn σ H) : tAug i (tD K E f) ti Dn σ H := by
  obtain ⟨P, B, ia, s, Fs, r, w⟩ := h
  unfold augM at w
  have go : ∀ (o : Own) (d : D), s[i]? = some (some (o, d)) → Post (XPd K P B ia H E) (SPd K P B ia H Dn) ((f s).bind fun y s' => match s'[i]? with
      | some (some (_, dx)) => (match g dx y.2 with
        | some (false, z) => (match putS s' i .sh z with | some s2 => .ok .nx s2 | none => .stuck)
        | _ => .stuck)
      | _ => .stuck) → tAug i (tD K E f) ti Dn σ H := by
    intro o d e w
    obtain ⟨v, F0, hv, _⟩ := r.opd e
    refine ⟨v, hv, P, B, ia, s, Fs, r, (Post.bind w).mono (fun _ _ q => q.to) fun y s' q u H' rv => ?_⟩
    obtain ⟨F, Fs', h1, h2, h3, h4, h5⟩ := rv
    match e2 : s'[i]? with
    | none => rw [e2] at q; exact q.elim
    | some none => rw [e2] at q; exact q.elim
    | some (some (o', dx)) =>
      simp only [e2] at q
      obtain ⟨v', G, hv', ov⟩ := h4.opd e2
      rw [hv] at hv'; cases hv'
      match e3 : g dx y.2 with
      | none => rw [e3] at q; exact q.elim
      | some (true, z) => rw [e3] at q; exact q.elim
      | some (false, z) =>
        simp only [e3] at q
        refine ho (h4.weak fun b m => .inl m) ov ⟨h1, h3, .inl (h4.noOwn fun a m => .inr m)⟩ h2 e3 fun w H2 rv2 => ?_
        obtain ⟨F2, Fs2, g1, g2, g3, g4, _⟩ := rv2
        match e4 : putS s' i .sh z with
        | none => rw [e4] at q; exact q.elim
        | some s2 =>
          simp only [e4] at q
          obtain ⟨x, e5, e6, e7⟩ := putS_inv e4
          subst e7
          exact q _ H2 _ g2 ((g4.weak fun b m => .inl m).set g1 (g4.noOwn fun a m => .inr m) g3 e5 e6 (by decide) fun n => absurd rfl n)
  match e : s[i]? with
  | some (some (.io, _)) => simp only [e] at w; exact w.elim
  | some (some (.sh, d)) => simp only [e] at w; exact go _ _ e w
  | some (some (.ow, d)) => simp only [e] at w; exact go _ _ e w
  | some none => simp only [e] at w; exact w.elim
  | none => simp only [e] at w; exact w.elim
theorem ds_aug {op : Operator} {g : D → D → Option (Bool × D)} {ti : TIp} {i : Nat} {x : Str} {e : Expr} {pos' : Pos} {f : M (Bool × D)} (hop : PIp X op ti) (ho : OpD X.K g ti) (he : PE X e (tD X.K E f)) (hN : X.N.Nodup) (hi : X.N[i]? = some x := by rfl)
    (hx : Loc X.env.scope x := by first | exact .inl rfl | exact .inr rfl) (hf : X.fn x = true ∨ X.env.scope.names.lookup x = some .local := by first | exact .inl rfl | exact .inr rfl | assumption) : PS X (.AugAssign (.Name x pos') op e pos) (tS X.K E (augM g i f)) := (ps_aug hN hi hx he hop hf).imp (tS_aug ho)
end

/-! ### targets -/
inductive Tg where
  | nm (i : Nat)
  | tp (ts : List Tg)
mutual
def Tg.put : Tg → D → S → Option S
  | .nm i, d, s => putS s i .sh d
  | .tp ts, d, s => match d with
    | .tup ds => Tg.puts ts ds s
    | _ => none
def Tg.puts : List Tg → List D → S → Option S
  | [], [], s => some s
  | t :: ts, d :: ds, s => (t.put d s).bind fun s' => Tg.puts ts ds s'
  | _, _, _ => none
end
mutual
def gT (K : PySem.W.Frag) : Tg → TG
  | .nm i => gName i
  | .tp ts => gTup K ts.length (gTs K ts)
def gTs (K : PySem.W.Frag) : List Tg → TGs
  | [] => gNil
  | t :: ts => gCons (gT K t) (gTs K ts)
end
theorem puts_len : ∀ {ts : List Tg} {ds : List D} {s s' : S}, Tg.puts ts ds s = some s' → ds.length = ts.length
  | [], [], _, _, _ => rfl
  | [], _ :: _, _, _, h => by simp [Tg.puts] at h
  | _ :: _, [], _, _, h => by simp [Tg.puts] at h
  | t :: ts, d :: ds, s, s', h => by
    rw [Tg.puts] at h
    obtain ⟨s1, e1, e2⟩ := Option.bind_eq_some_iff.mp h
    simp [puts_len e2]
mutual
theorem put_ok {K : PySem.W.Frag} {P B : Addr → Prop} {ia : Nat → Addr} {H : Hp} : ∀ {t : Tg} {d : D} {s s' : S} {σ : St} {Fs : Nat → List Addr} {x : V} {F : List Addr} {Q : St → Hp → Prop}, t.put d s = some s' → SR K P B ia s σ H Fs → Rep K H d x F → (∀ a, a ∈ F → P a) → (∀ a, a ∈ F → B a) →
    (∀ σ' Fs', SR K P B ia s' σ' H Fs' → Q σ' H) → gT K t x σ H Q
  | .nm i, d, s, s', σ, Fs, x, F, Q, h, r, hr, hp, hb, k => by
    rw [Tg.put] at h
    obtain ⟨y, e1, e2, e3⟩ := putS_inv h
    subst e3
    rw [gT]
    exact k _ _ (r.set hr (r.noOwn hp) hb e1 e2 (by decide) fun n => absurd rfl n)
  | .tp ts, d, s, s', σ, Fs, x, F, Q, h, r, hr, hp, hb, k => by
    cases d with
    | tup ds =>
      rw [Tg.put] at h
      cases hr with
      | @tup a _ vs F h1 h2 =>
        rw [gT]
        exact ⟨a, vs, rfl, h1, by rw [← h2.length]; exact puts_len h, puts_ok h r h2 hp hb k⟩
    | _ => simp [Tg.put] at h
theorem puts_ok {K : PySem.W.Frag} {P B : Addr → Prop} {ia : Nat → Addr} {H : Hp} : ∀ {ts : List Tg} {ds : List D} {s s' : S} {σ : St} {Fs : Nat → List Addr} {xs : List V} {F : List Addr} {Q : St → Hp → Prop}, Tg.puts ts ds s = some s' → SR K P B ia s σ H Fs → Reps K H ds xs F → (∀ a, a ∈ F → P a) → (∀ a, a ∈ F → B a) →
    (∀ σ' Fs', SR K P B ia s' σ' H Fs' → Q σ' H) → gTs K ts xs σ H Q
  | [], [], s, s', σ, Fs, xs, F, Q, h, r, hr, hp, hb, k => by
    cases hr
    rw [Tg.puts] at h; cases h
    rw [gTs]
    exact ⟨rfl, k σ Fs r⟩
  | [], _ :: _, _, _, _, _, _, _, _, h, _, _, _, _, _ => by simp [Tg.puts] at h
  | _ :: _, [], _, _, _, _, _, _, _, h, _, _, _, _, _ => by simp [Tg.puts] at h
  | t :: ts, d :: ds, s, s', σ, Fs, xs, F, Q, h, r, hr, hp, hb, k => by
    rw [Tg.puts] at h
    obtain ⟨s1, e1, e2⟩ := Option.bind_eq_some_iff.mp h
    cases hr with
    | @cons _ v F1 _ vs G h1 h2 =>
      rw [gTs]
      refine ⟨v, vs, rfl, put_ok e1 r h1 (fun a m => hp a (List.mem_append_left _ m)) (fun a m => hb a (List.mem_append_left _ m)) fun σ1 Fs1 r1 => ?_⟩
      exact puts_ok e2 r1 h2 (fun a m => hp a (List.mem_append_right _ m)) (fun a m => hb a (List.mem_append_right _ m)) k
end
/-- targets = e -/
def asgM (t : Tg) (f : M (Bool × D)) : M Fl := fun s => (f s).bind fun r s' => match t.put r.2 s' with
  | some s2 => .ok .nx s2
  | none => .stuck
section
variable {X : Cx} {E : WX} {pos : Pos}
theorem tS_asg {K : PySem.W.Frag} {t : Tg} {f : M (Bool × D)} (Dn : Ends) (σ : St) (H : Hp) (h : tS K E (asgM t f) Dn σ H) : tAsg (tD K E f) (gT K t) Dn σ H := by
  obtain ⟨P, B, ia, s, Fs, r, w⟩ := h
  refine ⟨P, B, ia, s, Fs, r, (Post.bind w).mono (fun _ _ q => q.to) fun a s' q v H' rv => ?_⟩
  obtain ⟨F, Fs', h1, h2, h3, h4, h5⟩ := rv
  split at q
  · rename_i s2 e
    exact put_ok e h4 h1 (fun a m => .inr m) h3 fun σ' Fs2 r2 => q σ' H' Fs2 h2 (r2.weak fun b m => .inl m)
  · exact q.elim
theorem ds_asg {tg e : Expr} {t : Tg} {f : M (Bool × D)} (he : PE X e (tD X.K E f)) (hg : PG X tg (gT X.K t)) (hs : swapsWithSole [tg] e pos.line X.env = pure false := by rfl) (hw : swappedStores [tg] e X.env = pure none := by rfl)
    (h1 : (assignEach [tg] X.env).map (·.2) = [assign tg X.env] := by rfl) : PS X (.Assign [tg] e pos) (tS X.K E (asgM t f)) := (ps_asg he hg hs hw h1).imp tS_asg
theorem dg_name {i : Nat} {x : Str} (hN : X.N.Nodup) (hi : X.N[i]? = some x := by rfl) (hx : Loc X.env.scope x := by first | exact .inl rfl | exact .inr rfl) (hf : X.fn x = true ∨ X.env.scope.names.lookup x = some .local := by first | exact .inl rfl | exact .inr rfl | assumption) : PG X (.Name x pos) (gT X.K (.nm i)) := by
  rw [gT]; exact pg_name hN hi hx hf
theorem dgs_nil : PGs X [] (gTs X.K []) := by rw [gTs]; exact pgs_nil
theorem dgs_cons {e : Expr} {es : List Expr} {t : Tg} {ts : List Tg} (h1 : PG X e (gT X.K t)) (h2 : PGs X es (gTs X.K ts)) (hs : (assignEach (e :: es) X.env).map (·.2) = assign e X.env :: (assignEach es X.env).map (·.2) := by rfl) : PGs X (e :: es) (gTs X.K (t :: ts)) := by
  rw [gTs]; exact pgs_cons h1 h2 hs
theorem dg_tup {es : List Expr} {k : Nat} {ts : List Tg} (hc : X.calm = true) (h : PGs X es (gTs X.K ts)) (hn : (assignEach es X.env).length = ts.length := by rfl) (hst : (assignEach es X.env).findIdx? (·.1) = none := by rfl) : PG X (.Tuple es k pos) (gT X.K (.tp ts)) := by
  rw [gT]; exact pg_tup hc h hn hst
end
end PV

/-! PV: loops and comprehensions by values. -/
namespace PV
open PySem PySem.Spec L2

/-! ### while -/
/-- one turn of a while, k behind it -/
def wstep (c : M Bool) (b : M Fl) (k : M Fl) : M Fl := fun s => (c s).bind fun t s1 => if t = true then (b s1).bind fun fl s2 => (match fl with
      | .bk => .ok .nx s2
      | .rt fr d => .ok (.rt fr d) s2
      | _ => k s2) else .ok .nx s1
def whileN (c : M Bool) (b : M Fl) : Nat → M Fl
  | 0 => fun _ => .stuck
  | n + 1 => wstep c b (whileN c b n)
def Res.isStuck {α : Type} : Res α → Prop
  | .stuck => True
  | _ => False
open Classical in
noncomputable def whileM (c : M Bool) (b : M Fl) : M Fl := fun s => if h : ∃ n, ¬ (whileN c b n s).isStuck then whileN c b h.choose s else .stuck
section
variable {c : M Bool} {b : M Fl}
theorem wstep_cases (c : M Bool) (b : M Fl) (s : S) : (∃ r, ∀ k, wstep c b k s = r) ∨ ∃ s2, ∀ k, wstep c b k s = k s2 := by
  unfold wstep
  cases c s with
  | stuck => exact .inl ⟨_, fun _ => rfl⟩
  | exc x s1 => exact .inl ⟨_, fun _ => rfl⟩
  | ok t s1 =>
    cases t with
    | false => exact .inl ⟨_, fun _ => rfl⟩
    | true =>
      simp only [Res.bind_ok, if_pos]
      cases b s1 with
      | stuck => exact .inl ⟨_, fun _ => rfl⟩
      | exc x s1 => exact .inl ⟨_, fun _ => rfl⟩
      | ok fl s2 =>
        cases fl with
        | bk => exact .inl ⟨_, fun _ => rfl⟩
        | rt fr d => exact .inl ⟨_, fun _ => rfl⟩
        | nx => exact .inr ⟨s2, fun _ => rfl⟩
        | ct => exact .inr ⟨s2, fun _ => rfl⟩
theorem whileN_succ : ∀ (n : Nat) (s : S), ¬ (whileN c b n s).isStuck → whileN c b (n + 1) s = whileN c b n s
  | 0, s, h => absurd trivial h
  | n + 1, s, h => by
    show wstep c b (whileN c b (n + 1)) s = wstep c b (whileN c b n) s
    rcases wstep_cases c b s with ⟨r, hr⟩ | ⟨s2, hr⟩
    · rw [hr, hr]
    · have h' : ¬ (wstep c b (whileN c b n) s).isStuck := h
      rw [hr] at h'
      rw [hr, hr, whileN_succ n s2 h']
theorem whileN_le {n m : Nat} (hm : n ≤ m) {s : S} (h : ¬ (whileN c b n s).isStuck) : whileN c b m s = whileN c b n s := by
  induction hm with
  | refl => rfl
  | step hm ih => rw [whileN_succ _ _ (by rw [ih]; exact h), ih]
theorem whileM_of {n : Nat} {s : S} (h : ¬ (whileN c b n s).isStuck) : whileM c b s = whileN c b n s := by
  unfold whileM
  have hx : ∃ n, ¬ (whileN c b n s).isStuck := ⟨n, h⟩
  rw [dif_pos hx]
  rcases Nat.le_total n hx.choose with q | q
  · exact whileN_le q h
  · exact (whileN_le q hx.choose_spec).symm
theorem whileM_no {s : S} (h : ∀ n, (whileN c b n s).isStuck) : whileM c b s = .stuck := by
  unfold whileM
  rw [dif_neg fun ⟨n, q⟩ => q (h n)]
theorem whileM_ex (s : S) (h : ¬ (whileM c b s).isStuck) : ∃ n, whileM c b s = whileN c b n s := by
  by_cases q : ∃ n, ¬ (whileN c b n s).isStuck
  · obtain ⟨n, q⟩ := q
    exact ⟨n, whileM_of q⟩
  · rw [whileM_no fun n => Classical.byContradiction fun z => q ⟨n, z⟩] at h
    exact absurd trivial h
theorem isStuck_eq {α : Type} {r : Res α} (h : r.isStuck) : r = .stuck := by
  cases r with
  | stuck => rfl
  | ok a s => exact h.elim
  | exc x s => exact h.elim
/-- one turn of a while -/
theorem whileM_eq (s : S) : whileM c b s = wstep c b (whileM c b) s := by
  by_cases q : ∃ n, ¬ (whileN c b n s).isStuck
  · obtain ⟨n, q⟩ := q
    rw [whileM_of q]
    cases n with
    | zero => exact absurd trivial q
    | succ n =>
      have q' : ¬ (wstep c b (whileN c b n) s).isStuck := q
      show wstep c b (whileN c b n) s = _
      rcases wstep_cases c b s with ⟨r, hr⟩ | ⟨s2, hr⟩
      · rw [hr, hr]
      · rw [hr] at q'
        rw [hr, hr, whileM_of q']
  · have h : ∀ n, (whileN c b n s).isStuck := fun n => Classical.byContradiction fun z => q ⟨n, z⟩
    rw [whileM_no h]
    rcases wstep_cases c b s with ⟨r, hr⟩ | ⟨s2, hr⟩
    · have := isStuck_eq (h 1)
      rw [hr]
      exact this.symm.trans (hr _)
    · rw [hr, whileM_no fun n => ?_]
      have := h (n + 1)
      have e : whileN c b (n + 1) s = whileN c b n s2 := hr _
      rw [e] at this
      exact this
theorem Post.notStuck {α : Type} {E : Exn → S → Prop} {Q : α → S → Prop} {r : Res α} (h : Post E Q r) : ¬ r.isStuck := by
  cases r with
  | stuck => exact fun _ => h
  | ok a s => exact fun q => q
  | exc x s => exact fun q => q
end
section
variable {X : Cx} {E : WX} {pos : Pos}
theorem tS_while {K : PySem.W.Frag} {c : M Bool} {b : M Fl} (Dn : Ends) (σ : St) (H : Hp) (h : tS K E (whileM c b) Dn σ H) : tWhile (tT K E c) (tS K E b) Dn σ H := by
  obtain ⟨P, B, ia, s, Fs, r, w⟩ := h
  obtain ⟨n, en⟩ := whileM_ex s w.notStuck
  rw [en] at w
  refine ⟨fun m σ' H' => ∃ s' Fs', Fr P H H' ∧ SR K P B ia s' σ' H' Fs' ∧ Post (XPd K P B ia H E) (SPd K P B ia H Dn) (whileN c b m s'), ⟨n, s, Fs, Fr.refl, r, w⟩, ?_⟩
  rintro m σ1 H1 ⟨s1, Fs1, fr1, r1, w1⟩
  cases m with
  | zero => exact w1.elim
  | succ m =>
    have w1 : Post _ _ ((c s1).bind _) := w1
    refine ⟨P, B, ia, s1, Fs1, r1, (Post.bind w1).mono (fun x s2 q => (q.step fr1).to) fun t s2 q H2 Fs2 fr2 r2 => ?_⟩
    cases t with
    | false =>
      rw [if_neg (by decide)] at q
      exact iteF (q σ1 H2 Fs2 (fr1.trans fr2) r2)
    | true =>
      rw [if_pos rfl] at q
      refine iteT ⟨fun σ' H' => ∃ s' Fs', Fr P H H' ∧ SR K P B ia s' σ' H' Fs' ∧ Post (XPd K P B ia H E) (SPd K P B ia H Dn) (whileN c b m s'), fun σ' H' hN => ⟨m, Nat.lt_succ_self m, hN⟩, P, B, ia, s2, Fs2, r2, ?_⟩
      refine (Post.bind q).mono (fun x s3 q => q.step (fr1.trans fr2)) fun fl s3 q => ?_
      cases fl with
      | nx => exact fun σ' H' Fs' fr r' => ⟨s3, Fs', (fr1.trans fr2).trans fr, r', q⟩
      | ct => exact fun σ' H' Fs' fr r' => ⟨s3, Fs', (fr1.trans fr2).trans fr, r', q⟩
      | bk => exact fun σ' H' Fs' fr r' => q σ' H' Fs' ((fr1.trans fr2).trans fr) r'
      | rt f d => exact fun v σ' H' rv => q v σ' H' (RV.step (P' := P) (fr1.trans fr2) rv)
theorem ds_while {t : Expr} {body : List Stmt} {c : M Bool} {b : M Fl} (hp : PassesOwn (model X.prog X.w) X.A X.env X.xe) (hc : PT X t (tT X.K E c)) (hb : PSs X body (tS X.K E b)) : PS X (.While t body [] pos) (tS X.K E (whileM c b)) := (ps_while hp hc hb).imp tS_while
end

/-! ### for -/
def forL (t : Tg) (b : M Fl) : List D → M Fl
  | [] => fun s => .ok .nx s
  | d :: ds => fun s => match t.put d s with
    | none => .stuck
    | some s1 => (b s1).bind fun fl s2 => (match fl with
      | .bk => .ok .nx s2
      | .rt fr d => .ok (.rt fr d) s2
      | _ => forL t b ds s2)
def forM (it : M (List D)) (t : Tg) (b : M Fl) : M Fl := fun s => (it s).bind fun ds s1 => forL t b ds s1
/-- what a walk hands out, turn by turn -/
def ItOK (K : PySem.W.Frag) (P B : Addr → Prop) (J : It) (ds : List D) (H : Hp) : Prop :=
  ∃ inv : Hp → Prop, inv H ∧ (∀ H1 H2, inv H1 → Fr P H1 H2 → inv H2) ∧ ∀ i H1, inv H1 →
    (∀ d, ds[i]? = some d → J.go i H1 ∧ ∀ x H2, J.yld i H1 x H2 → (H2 = H1 ∨ ∃ p o, H1 p = none ∧ H2 = upd H1 p o) ∧ ∃ F, Rep K H2 d x F ∧ (∀ a, a ∈ F → P a) ∧ ∀ a, a ∈ F → B a) ∧ (i = ds.length → J.stop i H1)
def tI (K : PySem.W.Frag) (E : WX) (it : M (List D)) : TI := fun σ H R => ∃ P B ia s Fs, SR K P B ia s σ H Fs ∧
  Post (fun x s' => ∀ cls dx H', RX K P B ia s' σ H H' x cls dx → E cls dx σ H') (fun ds s' => ∀ J H' P' Fs', (∀ b, P b → P' b) → Fr P H H' → SR K P' B ia s' σ H' Fs' → ItOK K P' B J ds H' → R J H') (it s)
section
variable {X : Cx} {E : WX} {pos : Pos}
theorem tS_for {K : PySem.W.Frag} {it : M (List D)} {t : Tg} {b : M Fl} (Dn : Ends) (σ : St) (H : Hp) (h : tS K E (forM it t b) Dn σ H) : tFor (tI K E it) (gT K t) (tS K E b) Dn σ H := by
  obtain ⟨P, B, ia, s, Fs, r, w⟩ := h
  refine ⟨P, B, ia, s, Fs, r, (Post.bind w).mono (fun _ _ q => q.to) fun ds s1 q J H1 P' Fs1 hP fr1 r1 ok => ?_⟩
  obtain ⟨inv, i0, keep, turn⟩ := ok
  refine ⟨fun i m σ' H' => m + i = ds.length ∧ ∃ s' Fs', Fr P H H' ∧ inv H' ∧ SR K P' B ia s' σ' H' Fs' ∧ Post (XPd K P B ia H E) (SPd K P B ia H Dn) (forL t b (ds.drop i) s'), ⟨ds.length, by simp, s1, Fs1, fr1, i0, r1, by simpa using q⟩, ?_⟩
  rintro i m σ2 H2 ⟨em, s2, Fs2, fr2, i2, r2, w2⟩
  obtain ⟨go, stop⟩ := turn i H2 i2
  cases e : ds[i]? with
  | none =>
    have hl : ds.length ≤ i := List.getElem?_eq_none_iff.mp e
    rw [List.drop_eq_nil_of_le hl, forL] at w2
    exact .inl ⟨stop (by omega), w2 σ2 H2 Fs2 fr2 (r2.weak hP)⟩
  | some d =>
    obtain ⟨g1, g2⟩ := go d e
    have hi : i < ds.length := (List.getElem?_eq_some_iff.mp e).1
    have ed : ds.drop i = d :: ds.drop (i + 1) := by
      rw [List.drop_eq_getElem_cons hi, (List.getElem?_eq_some_iff.mp e).2]
    rw [ed, forL] at w2
    refine .inr ⟨g1, fun σ' H' => ∃ s' Fs', Fr P H H' ∧ inv H' ∧ SR K P' B ia s' σ' H' Fs' ∧ Post (XPd K P B ia H E) (SPd K P B ia H Dn) (forL t b (ds.drop (i + 1)) s'), fun σ' H' hN => ⟨m - 1, by omega, by omega, hN⟩, fun x H3 y => ?_⟩
    obtain ⟨hH, F, rep, hp, hb⟩ := g2 x H3 y
    have fr3 : Fr P' H2 H3 := by
      rcases hH with e | ⟨p, o, np, e⟩
      · subst e; exact Fr.refl
      · subst e; exact Fr.new np r2.tr
    have r3 : SR K P' B ia s2 σ2 H3 Fs2 := by
      rcases hH with e | ⟨p, o, np, e⟩
      · subst e; exact r2
      · subst e; exact r2.new np
    dsimp only at w2
    split at w2
    · exact w2.elim
    · rename_i s3 e3
      refine put_ok e3 r3 rep hp hb fun σ4 Fs4 r4 => ⟨P', B, ia, s3, Fs4, r4, (Post.bind w2).mono (fun x s5 q => fun σ' cls dx H' rx => q σ' cls dx H' (rx.weak (fr2.trans (fr3.mono hP)) hP)) fun fl s5 q => ?_⟩
      have fr23 := fr2.trans (fr3.mono hP)
      cases fl with
      | nx => exact fun σ' H' Fs' fr r' => ⟨s5, Fs', fr23.trans (fr.mono hP), keep _ _ (keep _ _ i2 fr3) fr, r', q⟩
      | ct => exact fun σ' H' Fs' fr r' => ⟨s5, Fs', fr23.trans (fr.mono hP), keep _ _ (keep _ _ i2 fr3) fr, r', q⟩
      | bk => exact fun σ' H' Fs' fr r' => q σ' H' Fs' (fr23.trans (fr.mono hP)) (r'.weak hP)
      | rt f d =>
        refine fun v σ' H' rv => q v σ' H' ?_
        obtain ⟨F, Fs', h1, h2, h3, h4, h5⟩ := rv
        refine ⟨F, Fs', h1, fr23.trans (h2.mono hP), h3, h4.weak fun b m => m.elim (fun m => .inl (hP b m)) .inr, fun hf => ?_⟩
        obtain ⟨a, G, k1, k2, k3, k4, k5, k6⟩ := h5 hf
        exact ⟨a, G, k1, k2, k3, k4, fun m => k5 (hP a m), k6⟩
theorem ds_for {tg iter : Expr} {body : List Stmt} {it : M (List D)} {t : Tg} {b : M Fl} (hp : PassesOwn (model X.prog X.w) X.A X.env X.xe) (hc : X.calm = true) (hi : PI X tg iter (tI X.K E it)) (hg : PG X tg (gT X.K t)) (hb : PSs X body (tS X.K E b))
    (hs : ∀ x, foldedSetIterable iter X.env x = pure x := by intro _; rfl) : PS X (.For tg iter body [] pos) (tS X.K E (forM it t b)) := (ps_for hp hc hi hg hb hs).imp tS_for
theorem _root_.L2.PI.imp {tg e : Expr} {t t' : TI} (h : PI X tg e t) (q : ∀ σ H R, t' σ H R → t σ H R) : PI X tg e t' := ⟨fun pins s σ H R I w => h.run pins s σ H R I (q σ H R w)⟩
end

/-! ### what is walked -/
section
variable {K : PySem.W.Frag} {P B : Addr → Prop} {H : Hp} {ds : List D} {vs : List V} {F : List Addr} {a : Addr}
theorem it_list (h : H a = some (.lst vs)) (hr : Reps K H ds vs F) (pa : P a) (hp : ∀ a, a ∈ F → P a) (hb : ∀ a, a ∈ F → B a) : ItOK K P B (Itl K a) ds H := by
  refine ⟨fun H' => H' a = some (.lst vs) ∧ Reps K H' ds vs F, ⟨h, hr⟩, fun H1 H2 q fr => ⟨(fr.p a pa).trans q.1, Reps.keep fr.i q.2 fun b m => fr.p b (hp b m)⟩, fun i H1 q => ⟨fun d e => ?_, fun hl => ⟨vs, SqL.of q.1, by rw [← q.2.length]; exact Nat.le_of_eq hl.symm⟩⟩⟩
  obtain ⟨v, G, e1, e2, e3⟩ := q.2.get e
  refine ⟨⟨vs, v, SqL.of q.1, e1⟩, fun x H2 y => ?_⟩
  obtain ⟨rfl, y⟩ := y
  have := y vs (SqL.of q.1)
  rw [e1] at this; cases this
  exact ⟨.inl rfl, G, e2, fun b m => hp b (e3 b m), fun b m => hb b (e3 b m)⟩
theorem it_fro (h : Fz K H a vs) (hr : Reps K H ds vs F) (hp : ∀ a, a ∈ F → P a) (hb : ∀ a, a ∈ F → B a) : ItOK K P B (Itl K a) ds H := by
  refine ⟨fun H' => Fz K H' a vs ∧ Reps K H' ds vs F, ⟨h, hr⟩, fun H1 H2 q fr => ⟨fz_keep q.1 fr.i, Reps.keep fr.i q.2 fun b m => fr.p b (hp b m)⟩, fun i H1 q => ⟨fun d e => ?_, fun hl => ⟨vs, fz_sq q.1, by rw [← q.2.length]; exact Nat.le_of_eq hl.symm⟩⟩⟩
  obtain ⟨v, G, e1, e2, e3⟩ := q.2.get e
  refine ⟨⟨vs, v, fz_sq q.1, e1⟩, fun x H2 y => ?_⟩
  obtain ⟨rfl, y⟩ := y
  have := y vs (fz_sq q.1)
  rw [e1] at this; cases this
  exact ⟨.inl rfl, G, e2, fun b m => hp b (e3 b m), fun b m => hb b (e3 b m)⟩
theorem it_tup (h : SqT K H a vs) (hr : Reps K H ds vs F) (hp : ∀ a, a ∈ F → P a) (hb : ∀ a, a ∈ F → B a) : ItOK K P B (Itt K a) ds H := by
  refine ⟨fun H' => SqT K H' a vs ∧ Reps K H' ds vs F, ⟨h, hr⟩, fun H1 H2 q fr => ⟨sqT_keep q.1 fr.i, Reps.keep fr.i q.2 fun b m => fr.p b (hp b m)⟩, fun i H1 q => ⟨fun d e => ?_, fun hl => ⟨vs, q.1, by rw [← q.2.length]; exact Nat.le_of_eq hl.symm⟩⟩⟩
  obtain ⟨v, G, e1, e2, e3⟩ := q.2.get e
  refine ⟨⟨vs, v, q.1, e1⟩, fun x H2 y => ?_⟩
  obtain ⟨rfl, y⟩ := y
  have := y vs q.1
  rw [e1] at this; cases this
  exact ⟨.inl rfl, G, e2, fun b m => hp b (e3 b m), fun b m => hb b (e3 b m)⟩
/-- the signs of a text -/
def signs (x : Str) : List D := x.cps.toList.map fun c => .str ⟨#[c]⟩
theorem it_str {x : Str} : ItOK K P B (Its x) (signs x) H := by
  refine ⟨fun _ => True, trivial, fun _ _ _ _ => trivial, fun i H1 _ => ⟨fun d e => ?_, fun hl => ?_⟩⟩
  · unfold signs at e
    rw [List.getElem?_map] at e
    obtain ⟨c, e1, e2⟩ := Option.map_eq_some_iff.mp e
    have e3 : x.cps[i]? = some c := by simpa using e1
    refine ⟨(Array.getElem?_eq_some_iff.mp e3).1, fun v H2 y => ?_⟩
    obtain ⟨rfl, c', e4, rfl⟩ := y
    rw [e3] at e4; cases e4
    subst e2
    exact ⟨.inl rfl, [], .str, nofun, nofun⟩
  · show x.cps.size ≤ i
    simp [signs] at hl; omega
def intsD (lo : Int) (n : Nat) : List D := (List.range n).map fun i => .int (lo + (i : Nat))
theorem intsD_get {lo : Int} {n i : Nat} {d : D} (e : (intsD lo n)[i]? = some d) : i < n ∧ d = .int (lo + (i : Nat)) := by
  unfold intsD at e
  rw [List.getElem?_map] at e
  obtain ⟨c, e1, e2⟩ := Option.map_eq_some_iff.mp e
  obtain ⟨h1, h2⟩ := List.getElem?_eq_some_iff.mp e1
  simp at h1 h2
  subst h2
  exact ⟨h1, e2.symm⟩
theorem it_range {lo : Int} {n : Nat} : ItOK K P B (Itr lo n) (intsD lo n) H := by
  refine ⟨fun _ => True, trivial, fun _ _ _ _ => trivial, fun i H1 _ => ⟨fun d e => ?_, fun hl => ?_⟩⟩
  · obtain ⟨h1, rfl⟩ := intsD_get e
    refine ⟨h1, fun v H2 y => ?_⟩
    obtain ⟨rfl, rfl⟩ := y
    exact ⟨.inl rfl, [], .int, nofun, nofun⟩
  · show n ≤ i
    simp [intsD] at hl; omega
end
/-- for .. in e: a list, a tuple, a text -/
def itM (f : M (Bool × D)) : M (List D) := fun s => (f s).bind fun r s' => match r.2 with
  | .lst ds => .ok ds s'
  | .tup ds => .ok ds s'
  | .fro ds => .ok ds s'
  | .str x => .ok (signs x) s'
  | _ => .stuck
/-- range(n) -/
noncomputable def rng1M (f : M (Bool × D)) : M (List D) := fun s => (f s).bind fun r s' => match r.2 with
  | .int j => if gd (-(2 ^ 62) ≤ j ∧ j < 2 ^ 62) = true then .ok (intsD 0 j.toNat) s' else .stuck
  | _ => .stuck
section
variable {X : Cx} {E : WX} {pos : Pos} {tg : Expr}
theorem _root_.L2.PI.or {e : Expr} {t t' : TI} (h : PI X tg e t) (h' : PI X tg e t') : PI X tg e (fun σ H R => t σ H R ∨ t' σ H R) := ⟨fun pins s σ H R I w => w.elim (h.run pins s σ H R I) (h'.run pins s σ H R I)⟩
theorem di_it {e : Expr} {f : M (Bool × D)} (he : PE X e (tD X.K E f)) : PI X tg e (tI X.K E (itM f)) := ((pi_list he).or ((pi_tup he).or (pi_str he))).imp fun σ H R h => by
  obtain ⟨P, B, ia, s, Fs, r, w⟩ := h
  unfold itM at w
  have w' := Post.bind w
  cases e : f s with
  | stuck => rw [e] at w'; exact w'.elim
  | exc x s1 =>
    rw [e] at w'
    exact .inl ⟨P, B, ia, s, Fs, r, by rw [e]; exact w'⟩
  | ok a s1 =>
    rw [e] at w'
    obtain ⟨fr0, d⟩ := a
    simp only [Post.ok] at w'
    split at w'
    · rename_i ds
      refine .inl ⟨P, B, ia, s, Fs, r, ?_⟩
      rw [e]
      intro v H' rv
      obtain ⟨F, Fs', h1, h2, h3, h4, h5⟩ := rv
      cases h1 with
      | @lst a _ vs G g1 g2 => exact ⟨a, rfl, ⟨vs, SqL.of g1⟩, w' _ H' _ Fs' (fun b m => .inl m) h2 h4 (it_list g1 g2 (.inr List.mem_cons_self) (fun b m => .inr (List.mem_cons_of_mem _ m)) fun b m => h3 b (List.mem_cons_of_mem _ m))⟩
    · rename_i ds
      refine .inr (.inl ⟨P, B, ia, s, Fs, r, ?_⟩)
      rw [e]
      intro v H' rv
      obtain ⟨F, Fs', h1, h2, h3, h4, h5⟩ := rv
      cases h1 with
      | @tup a _ vs G g1 g2 => exact ⟨a, rfl, ⟨vs, g1⟩, w' _ H' _ Fs' (fun b m => .inl m) h2 h4 (it_tup g1 g2 (fun b m => .inr m) h3)⟩
    · rename_i ds
      refine .inl ⟨P, B, ia, s, Fs, r, ?_⟩
      rw [e]
      intro v H' rv
      obtain ⟨F, Fs', h1, h2, h3, h4, h5⟩ := rv
      cases h1 with
      | @lsz a _ vs G g1 g2 => exact ⟨a, rfl, ⟨vs, fz_sq g1⟩, w' _ H' _ Fs' (fun b m => .inl m) h2 h4 (it_fro g1 g2 (fun b m => .inr m) h3)⟩
    · rename_i x
      refine .inr (.inr ⟨P, B, ia, s, Fs, r, ?_⟩)
      rw [e]
      intro v H' rv
      obtain ⟨F, Fs', h1, h2, h3, h4, h5⟩ := rv
      cases h1
      exact ⟨x, rfl, w' _ H' P Fs' (fun b m => m) h2 (h4.weak fun b m => .inl m) it_str⟩
    · exact w'.elim
theorem di_rng1 {a : Expr} {f : M (Bool × D)} {p : Pos} (hg : Gl X "range") (hm : X.mg "range" = none) (ha : PE X a (tD X.K E f)) (hs : starEach [a] X.env = [(false, eval a X.env)] := by rfl) : PI X tg (.Call (.Name "range" p) [a] [] pos) (tI X.K E (rng1M f)) :=
  (pi_range1 hg hm (pa_cons ha pa_nil hs) hs).imp fun σ H R h => by
    obtain ⟨P, B, ia, s, Fs, r, w⟩ := h
    refine ⟨P, B, ia, s, Fs, r, (Post.bind w).mono (fun _ _ q => q) fun a s' q v H' rv => ?_⟩
    obtain ⟨F, Fs', h1, h2, h3, h4, h5⟩ := rv
    split at q
    · rename_i j ej
      rw [ej] at h1
      cases h1
      split at q
      · rename_i hj
        have hj := gd_iff.mp hj
        exact ⟨j, rfl, hj.1, hj.2, q _ H' P Fs' (fun b m => m) h2 (h4.weak fun b m => .inl m) it_range⟩
      · exact q.elim
    · exact q.elim
end
end PV

/-! PV: defs by values. -/
namespace PV
open PySem PySem.Spec L2

/-- what a def gives: a value (fr: its object is new) and what stands in the arguments that it changes; or an exception -/
inductive FRes where
  | ret (fr : Bool) (d : D) (outs : List D)
  | exc (x : Exn) (outs : List D)
  | stuck
abbrev FS := List D → FRes

/-- behind a call: H the heap ahead of it, vs the arguments, Fa their footprints, G, Go those of what came -/
structure FV0 (K : PySem.W.Frag) (ios : List Nat) (vs : List V) (Fa : Nat → List Addr) (H H' : Hp) (outs : List D) (Go : Nat → List Addr) : Prop where
  keep : ∀ b, H b ≠ none → (∀ j, j ∈ ios → vs[j]? ≠ some (.ref b)) → H' b = H b
  len : outs.length = ios.length
  out : ∀ (n j : Nat), ios[n]? = some j → ∃ (a : Addr) (d' : D) (T : List Addr), vs[j]? = some (.ref a) ∧ outs[n]? = some d' ∧ Go n = a :: T ∧ RepM K H' d' a T ∧ a ∉ T ∧ (∀ b, b ∈ T → (∃ i, b ∈ Fa i) ∨ H b = none) ∧ ∀ m, m ≠ n → m < ios.length → a ∉ Go m
structure FV (K : PySem.W.Frag) (ios : List Nat) (vs : List V) (Fa : Nat → List Addr) (H H' : Hp) (fr : Bool) (d : D) (outs : List D) (v : V) (G : List Addr) (Go : Nat → List Addr) : Prop extends FV0 K ios vs Fa H H' outs Go where
  rep : Rep K H' d v G
  gin : ∀ b, b ∈ G → (∃ i, b ∈ Fa i) ∨ H b = none
  gio : ∀ (n j : Nat) (a : Addr), ios[n]? = some j → vs[j]? = some (.ref a) → a ∉ G
  own : fr = true → ∃ a T, v = .ref a ∧ G = a :: T ∧ RepM K H' d a T ∧ a ∉ T ∧ H a = none ∧ ∀ n, n < ios.length → a ∉ Go n
/-- a def's promise by its function F; ios: the parameters whose objects it may change -/
def spF (K : PySem.W.Frag) (ios : List Nat) (n : Nat) (F : FS) : Sp := fun vs H Q E => vs.length = n ∧ ∃ (ds : List D) (Fa : Nat → List Addr), ds.length = n ∧ (∀ i d, ds[i]? = some d → ∃ v, vs[i]? = some v ∧ Rep K H d v (Fa i)) ∧ (∀ i, n ≤ i → Fa i = []) ∧
  (∀ j, j ∈ ios → ∃ a T d, ds[j]? = some d ∧ vs[j]? = some (.ref a) ∧ Fa j = a :: T ∧ RepM K H d a T ∧ a ∉ T ∧ ∀ i, i ≠ j → a ∉ Fa i) ∧
  match F ds with
  | .ret fr d outs => ∀ v H' G Go, FV K ios vs Fa H H' fr d outs v G Go → Q v H'
  | .exc x outs => ∀ cls dx H' Go, FV0 K ios vs Fa H H' outs Go → XRep K H' x cls dx → E cls dx H'
  | .stuck => False

/-! ### the body -/
def initS (ios : List Nat) (m : Nat) (ds : List D) : S := ds.mapIdx (fun i d => some (if i ∈ ios then Own.io else Own.sh, d)) ++ List.replicate (m - ds.length) none
def outsOf (s : S) : List Nat → Option (List D)
  | [] => some []
  | i :: is => match s[i]? with
    | some (some (.io, d)) => (outsOf s is).map fun ds => d :: ds
    | _ => none
/-- a def's function from its body's: n parameters, m slots in all -/
def runF (ios : List Nat) (n m : Nat) (f : M Fl) : FS := fun ds => if ds.length = n then (match f (initS ios m ds) with
  | .ok (.rt fr d) s => (match outsOf s ios with
    | some outs => .ret fr d outs
    | none => .stuck)
  | .ok .nx s => (match outsOf s ios with
    | some outs => .ret false .non outs
    | none => .stuck)
  | .exc x s => (match outsOf s ios with
    | some outs => .exc x outs
    | none => .stuck)
  | _ => .stuck) else .stuck
theorem outsOf_get {s : S} : ∀ {ios : List Nat} {outs : List D}, outsOf s ios = some outs → outs.length = ios.length ∧ ∀ (n i : Nat), ios[n]? = some i → ∃ d : D, outs[n]? = some d ∧ s[i]? = some (some (Own.io, d))
  | [], outs, h => by cases h; exact ⟨rfl, fun n i e => by simp at e⟩
  | i :: is, outs, h => by
    rw [outsOf] at h
    split at h
    · rename_i d e
      obtain ⟨ds, e1, e2⟩ := Option.map_eq_some_iff.mp h
      subst e2
      obtain ⟨l, g⟩ := outsOf_get e1
      refine ⟨by simp [l], fun n j q => ?_⟩
      cases n with
      | zero =>
        simp at q; subst q
        exact ⟨d, rfl, e⟩
      | succ n =>
        obtain ⟨d', g1, g2⟩ := g n j (by simpa using q)
        exact ⟨d', by simpa using g1, g2⟩
    · cases h
section
variable {K : PySem.W.Frag} {ios : List Nat} {vs : List V} {Fa : Nat → List Addr} {H : Hp} {ds : List D} {N : List Str} {n : Nat}
theorem initS_get {m i : Nat} {x : Slot} (h : (initS ios m ds)[i]? = some x) : (∃ d, ds[i]? = some d ∧ x = some (if i ∈ ios then Own.io else Own.sh, d)) ∨ (ds.length ≤ i ∧ x = none) := by
  unfold initS at h
  by_cases hi : i < ds.length
  · left
    rw [List.getElem?_append_left (by simpa using hi)] at h
    rw [List.getElem?_mapIdx] at h
    obtain ⟨d, e1, e2⟩ := Option.map_eq_some_iff.mp h
    exact ⟨d, e1, e2.symm⟩
  · right
    rw [List.getElem?_append_right (by simpa using hi)] at h
    rw [List.getElem?_replicate] at h
    split at h
    · cases h; exact ⟨Nat.le_of_not_lt hi, rfl⟩
    · cases h
/-- the state at a body's start -/
theorem SR.start (hv : vs.length = n) (hd : ds.length = n) (hN : n ≤ N.length) (rep : ∀ i d, ds[i]? = some d → ∃ v, vs[i]? = some v ∧ Rep K H d v (Fa i)) (out : ∀ i, n ≤ i → Fa i = [])
    (io : ∀ j, j ∈ ios → ∃ a T d, ds[j]? = some d ∧ vs[j]? = some (.ref a) ∧ Fa j = a :: T ∧ RepM K H d a T ∧ a ∉ T ∧ ∀ i, i ≠ j → a ∉ Fa i) :
    SR K (fun b => H b ≠ none ∧ ∀ j, j ∈ ios → vs[j]? ≠ some (.ref b)) (fun b => (∃ i, b ∈ Fa i) ∨ H b = none) (fun i => match vs[i]? with | some (.ref a) => a | _ => 0) (initS ios N.length ds) (L2.start N vs) H Fa := by
  have st : ∀ {i : Nat} {v : V}, vs[i]? = some v → (L2.start N vs)[i]? = some (some v) := fun {i v} h => by
    unfold L2.start
    have hi : i < vs.length := (List.getElem?_eq_some_iff.mp h).1
    rw [List.getElem?_append_left (by simpa using hi), List.getElem?_map, h]; rfl
  refine ⟨?_, fun i o d e => ?_, fun i o d e ne => ?_, fun i d e => ?_, fun i q => ?_, fun j a m => .inl ⟨j, m⟩, fun b q => q.1, fun b q => .inr q⟩
  · unfold initS L2.start
    simp [hv, hd]
  · rcases initS_get e with ⟨d', e1, e2⟩ | ⟨_, e2⟩
    · cases e2
      obtain ⟨v, h1, h2⟩ := rep i d e1
      exact ⟨v, st h1, h2⟩
    · cases e2
  · rcases initS_get e with ⟨d', e1, e2⟩ | ⟨_, e2⟩
    · have hm : i ∈ ios := by
        by_cases hm : i ∈ ios
        · exact hm
        · rw [if_neg hm] at e2; cases e2; exact absurd rfl ne
      rw [if_pos hm] at e2; cases e2
      obtain ⟨a, T, d2, h1, h2, h3, h4, h5, h6⟩ := io i hm
      rw [e1] at h1; cases h1
      exact ⟨a, T, st h2, h3, h4, h5, fun q => q.2 i hm h2, h6⟩
    · cases e2
  · rcases initS_get e with ⟨d', e1, e2⟩ | ⟨_, e2⟩
    · have hm : i ∈ ios := by
        by_cases hm : i ∈ ios
        · exact hm
        · rw [if_neg hm] at e2; cases e2
      obtain ⟨a, T, d2, h1, h2, h3, h4, h5, h6⟩ := io i hm
      rw [st h2, h2]
    · cases e2
  · refine out i (Nat.le_of_not_lt fun hi => ?_)
    have e0 : ds[i]? = some ds[i] := List.getElem?_eq_getElem (by rw [hd]; exact hi)
    refine q (if i ∈ ios then Own.io else Own.sh) ds[i] ?_
    unfold initS
    rw [List.getElem?_append_left (by simpa [hd] using hi), List.getElem?_mapIdx, e0]; rfl
end
/-- what a body's end gives its caller -/
theorem fv0_of {K : PySem.W.Frag} {ios : List Nat} {vs : List V} {Fa : Nat → List Addr} {H H' : Hp} {s : S} {σ : St} {Fs : Nat → List Addr} {P : Addr → Prop} {outs : List D} (nd : ios.Nodup)
    (fr : Fr (fun b => H b ≠ none ∧ ∀ j, j ∈ ios → vs[j]? ≠ some (.ref b)) H H') (r : SR K P (fun b => (∃ i, b ∈ Fa i) ∨ H b = none) (fun i => match vs[i]? with | some (.ref a) => a | _ => 0) s σ H' Fs) (ho : outsOf s ios = some outs)
    (hio : ∀ j, j ∈ ios → ∃ a, vs[j]? = some (.ref a)) : FV0 K ios vs Fa H H' outs (fun n => match ios[n]? with | some j => Fs j | none => []) := by
  obtain ⟨l, g⟩ := outsOf_get ho
  refine ⟨fun b h1 h2 => fr.p b ⟨h1, h2⟩, l, fun n j e => ?_⟩
  obtain ⟨d, g1, g2⟩ := g n j e
  obtain ⟨a, T, h1, h2, h3, h4, h5, h6⟩ := r.own j _ d g2 (by decide)
  have ev := r.iov j d g2
  obtain ⟨a', ea⟩ := hio j (List.mem_of_getElem? e)
  rw [ea] at ev
  rw [h1] at ev
  cases ev
  refine ⟨_, d, T, ea, g1, by rw [e]; exact h2, h3, h4, fun b m => r.inB j b (by rw [h2]; exact List.mem_cons_of_mem _ m), fun m hm hl => ?_⟩
  rw [List.getElem?_eq_getElem hl]
  refine h6 _ fun q => hm ?_
  have e' : ios[m]? = some j := by rw [List.getElem?_eq_getElem hl, q]
  obtain ⟨hn, en⟩ := List.getElem?_eq_some_iff.mp e
  exact (List.getElem_inj nd).mp ((show ios[m] = ios[n] from q.trans en.symm))
section
variable {P : Program} {w : World} {K : PySem.W.Frag} {mg : Str → Option Value} {base : Heap} {x qual : Str} {params : Arguments} {body : List Stmt} {scope : Scope} {f : Addr} {fd : FuncData}
/-- THE RULE for a def: its body by a function keeps the promise by this function -/
theorem fn_okD {N ps : List Str} {k : Nat} {ios : List Nat} {g : M Fl} (F : FunD K x qual params body scope [] [] f fd) (S : FnScope N ps scope) (nd : ios.Nodup) (hN : ps.length ≤ N.length)
    (hbody : ∀ (cdv : Value) (A : Around) (outer : List Env) (s : Shared) (H : Hp) (E : XK), Room k (A.deeper (PyProof.Rows.envOfC qual scope s.heap.objs.size f cdv)) → PSs (cxOf (L2.CX P w) P w K mg base N qual scope f cdv A outer s H E) body (tS K (fun cls d _ H => E cls d H) g)) :
    FnOk P w K mg base (L2.CX P w) (k + 1) f fd ps (spF K ios ps.length (runF ios ps.length N.length g)) := by
  refine F.ok S (fun vs H Q E h => h.1) fun cdv A outer s H vs Q E hr h => ?_
  obtain ⟨hv, ds, Fa, hd, rep, out, io, h⟩ := h
  refine ⟨_, hbody cdv A outer s H E hr, ?_⟩
  have r := SR.start (N := N) hv hd hN rep out io
  have hio : ∀ j, j ∈ ios → ∃ a, vs[j]? = some (.ref a) := fun j hj => let ⟨a, _, _, _, e, _⟩ := io j hj; ⟨a, e⟩
  refine ⟨_, _, _, _, Fa, r, ?_⟩
  unfold runF at h
  rw [if_pos hd] at h
  cases e : g (initS ios N.length ds) with
  | stuck => rw [e] at h; exact h.elim
  | exc y s' =>
    rw [e] at h
    dsimp only at h
    cases eo : outsOf s' ios with
    | none => rw [eo] at h; exact h.elim
    | some outs =>
      rw [eo] at h
      intro σ' cls dx H' rx
      obtain ⟨Fs', h1, h2, h3⟩ := rx
      exact h cls dx H' _ (fv0_of nd h1 h2 eo hio) h3
  | ok fl s' =>
    rw [e] at h
    cases fl with
    | bk => exact h.elim
    | ct => exact h.elim
    | nx =>
      dsimp only at h
      cases eo : outsOf s' ios with
      | none => rw [eo] at h; exact h.elim
      | some outs =>
        rw [eo] at h
        intro σ' H' Fs' fr r'
        exact h .non H' [] _ ⟨fv0_of nd fr r' eo hio, .non, nofun, fun _ _ _ _ _ => List.not_mem_nil, nofun⟩
    | rt fr d =>
      dsimp only at h
      cases eo : outsOf s' ios with
      | none => rw [eo] at h; exact h.elim
      | some outs =>
        rw [eo] at h
        intro v σ' H' rv
        obtain ⟨G, Fs', h1, h2, h3, h4, h5⟩ := rv
        refine h v H' G _ ⟨fv0_of nd h2 h4 eo hio, h1, h3, fun n j a e1 e2 => ?_, fun hf => ?_⟩
        · obtain ⟨_, g⟩ := outsOf_get eo
          obtain ⟨d', g1, g2⟩ := g n j e1
          obtain ⟨a', T, k1, k2, k3, k4, k5, k6⟩ := h4.own j _ d' g2 (by decide)
          have ev := h4.iov j d' g2
          rw [e2, k1] at ev
          cases ev
          exact fun m => k5 (.inr m)
        · obtain ⟨a, T, k1, k2, k3, k4, k5, k6⟩ := h5 hf
          refine ⟨a, T, k1, k2, k3, k4, ?_, fun n hn => ?_⟩
          · refine Classical.byContradiction fun q => k5 ⟨q, fun j hj e => ?_⟩
            obtain ⟨n, hn⟩ := List.getElem?_of_mem hj
            obtain ⟨_, g⟩ := outsOf_get eo
            obtain ⟨d', g1, g2⟩ := g n j hn
            obtain ⟨a', T', m1, m2, m3, m4, m5, m6⟩ := h4.own j _ d' g2 (by decide)
            have ev := h4.iov j d' g2
            rw [e, m1] at ev
            cases ev
            exact k6 j (by rw [m2]; exact List.mem_cons_self)
          · rw [List.getElem?_eq_getElem hn]
            exact k6 _
end

/-! ### the call -/
def ioSlots : List Opd → List Nat
  | [] => []
  | .ex _ :: os => ioSlots os
  | .sl i :: os => i :: ioSlots os
def ioPos : List Opd → Nat → List Nat
  | [], _ => []
  | .ex _ :: os, n => ioPos os (n + 1)
  | .sl _ :: os, n => n :: ioPos os (n + 1)
def ulB : D → Bool
  | .dcl _ => false
  | _ => true
theorem ulB_ul {d : D} (h : ulB d = true) : d.ul := fun k e => by subst e; cases h
def isMut (s : S) (i : Nat) : Bool := match s[i]? with
  | some (some (o, d)) => decide (o ≠ .sh) && ulB d
  | _ => false
def wb (s : S) : List Nat → List D → Option S
  | [], [] => some s
  | i :: is, d :: ds => (match s[i]? with
    | some (some (o, _)) => wb (s.set i (some (o, d))) is ds
    | _ => none)
  | _, _ => none
def callM (F : FS) (os : List Opd) : M (Bool × D) := opsM os fun ds s => if decide (ioSlots os).Nodup && (ioSlots os).all (isMut s) then (match F ds with
  | .ret fr d outs => (match wb s (ioSlots os) outs with
    | some s' => .ok (fr, d) s'
    | none => .stuck)
  | .exc x outs => (match wb s (ioSlots os) outs with
    | some s' => .exc x s'
    | none => .stuck)
  | .stuck => .stuck) else .stuck
theorem ioPos_get : ∀ {os : List Opd} {c n j : Nat}, (ioPos os c)[n]? = some j → ∃ i k, j = c + k ∧ os[k]? = some (.sl i) ∧ (ioSlots os)[n]? = some i
  | [], c, n, j, h => by simp [ioPos] at h
  | .ex f :: os, c, n, j, h => by
    obtain ⟨i, k, e1, e2, e3⟩ := ioPos_get (os := os) (c := c + 1) h
    exact ⟨i, k + 1, by omega, by simpa using e2, e3⟩
  | .sl i :: os, c, 0, j, h => by
    simp [ioPos] at h
    exact ⟨i, 0, by omega, rfl, rfl⟩
  | .sl i :: os, c, n + 1, j, h => by
    obtain ⟨i', k, e1, e2, e3⟩ := ioPos_get (os := os) (c := c + 1) (n := n) (j := j) (by simpa [ioPos] using h)
    exact ⟨i', k + 1, by omega, by simpa using e2, by simpa [ioSlots] using e3⟩
theorem ioPos_len : ∀ {os : List Opd} {c : Nat}, (ioPos os c).length = (ioSlots os).length
  | [], _ => rfl
  | .ex f :: os, c => ioPos_len (os := os)
  | .sl i :: os, c => by simp [ioPos, ioSlots, ioPos_len (os := os)]
theorem ioPos_of : ∀ {os : List Opd} {c k i : Nat}, os[k]? = some (.sl i) → ∃ n : Nat, (ioPos os c)[n]? = some (c + k) ∧ (ioSlots os)[n]? = some i
  | [], c, k, i, h => by simp at h
  | .ex f :: os, c, 0, i, h => by simp at h
  | .ex f :: os, c, k + 1, i, h => by
    obtain ⟨n, e1, e2⟩ := ioPos_of (os := os) (c := c + 1) (k := k) (by simpa using h)
    exact ⟨n, by rw [ioPos, e1]; congr 1; omega, e2⟩
  | .sl j :: os, c, 0, i, h => by
    simp at h; subst h
    exact ⟨0, rfl, rfl⟩
  | .sl j :: os, c, k + 1, i, h => by
    obtain ⟨n, e1, e2⟩ := ioPos_of (os := os) (c := c + 1) (k := k) (by simpa using h)
    exact ⟨n + 1, by simp [ioPos, e1]; omega, by simpa [ioSlots] using e2⟩
theorem ioPos_nd : ∀ {os : List Opd} {c : Nat}, (ioPos os c).Nodup ∧ ∀ j, j ∈ ioPos os c → c ≤ j
  | [], _ => ⟨List.nodup_nil, fun _ h => by cases h⟩
  | .ex f :: os, c => ⟨(ioPos_nd (os := os)).1, fun j h => Nat.le_of_succ_le ((ioPos_nd (os := os)).2 j h)⟩
  | .sl i :: os, c => by
    obtain ⟨h1, h2⟩ := ioPos_nd (os := os) (c := c + 1)
    refine ⟨List.nodup_cons.mpr ⟨fun m => ?_, h1⟩, fun j h => ?_⟩
    · have := h2 c m; omega
    · rcases List.mem_cons.mp h with rfl | h
      · exact Nat.le_refl _
      · exact Nat.le_of_succ_le (h2 j h)
theorem wb_get : ∀ {is : List Nat} {ds : List D} {s s' : S}, wb s is ds = some s' → is.Nodup → s'.length = s.length ∧ ds.length = is.length ∧
    (∀ (n i : Nat), is[n]? = some i → ∃ o d d', s[i]? = some (some (o, d)) ∧ ds[n]? = some d' ∧ s'[i]? = some (some (o, d'))) ∧ ∀ j, j ∉ is → s'[j]? = s[j]?
  | [], [], s, s', h, _ => by
    cases h
    exact ⟨rfl, rfl, fun n i e => by simp at e, fun _ _ => rfl⟩
  | [], _ :: _, _, _, h, _ => by simp [wb] at h
  | _ :: _, [], _, _, h, _ => by simp [wb] at h
  | i :: is, d :: ds, s, s', h, nd => by
    rw [wb] at h
    split at h
    · rename_i o d0 e
      obtain ⟨n1, n2⟩ := List.nodup_cons.mp nd
      obtain ⟨h1, h2, h3, h4⟩ := wb_get h n2
      refine ⟨by rw [h1]; simp, by simp [h2], fun n j q => ?_, fun j hj => ?_⟩
      · cases n with
        | zero =>
          simp at q; subst q
          exact ⟨o, d0, d, e, rfl, by rw [h4 i n1]; exact get_set_eq e⟩
        | succ n =>
          obtain ⟨o', d1, d2, g1, g2, g3⟩ := h3 n j (by simpa using q)
          have hne : j ≠ i := fun z => n1 (by subst z; exact List.mem_of_getElem? (by simpa using q))
          exact ⟨o', d1, d2, by rw [get_set_ne hne] at g1; exact g1, by simpa using g2, g3⟩
      · have h5 : j ≠ i := fun z => hj (by subst z; exact List.mem_cons_self)
        rw [h4 j fun m => hj (List.mem_cons_of_mem _ m), get_set_ne h5]
    · cases h
/-- the arguments' footprints -/
def argF (Fs : Nat → List Addr) : List Opd → List (List Addr) → Nat → List Addr
  | .ex _ :: _, G :: _, 0 => G
  | .sl i :: _, _ :: _, 0 => Fs i
  | _ :: os, _ :: Gs, j + 1 => argF Fs os Gs j
  | _, _, _ => []
section
variable {K : PySem.W.Frag} {P B : Addr → Prop} {ia : Nat → Addr} {s s' : S} {σ : St} {H H' : Hp} {Fs : Nat → List Addr}
theorem OVs.arg (r : SR K P B ia s σ H Fs) : ∀ {os : List Opd} {ds : List D} {vs : List V} {Gs : List (List Addr)}, OVs K B s σ H os ds vs Gs →
    (∀ (i : Nat) (d : D), ds[i]? = some d → ∃ v, vs[i]? = some v ∧ Rep K H d v (argF Fs os Gs i)) ∧ (∀ i, os.length ≤ i → argF Fs os Gs i = []) ∧
    (∀ (j i : Nat), os[j]? = some (.sl i) → argF Fs os Gs j = Fs i ∧ ∃ (w : Own) (d : D) (v : V), s[i]? = some (some (w, d)) ∧ ds[j]? = some d ∧ vs[j]? = some v ∧ σ[i]? = some (some v)) ∧
    (∀ (j : Nat), (∀ i, os[j]? ≠ some (.sl i)) → NoOwn s σ (argF Fs os Gs j)) ∧ (∀ (j : Nat) (a : Addr), a ∈ argF Fs os Gs j → B a)
  | _, _, _, _, .nil => ⟨fun i d e => by simp at e, fun i _ => by simp [argF], fun j i e => by simp at e, fun j _ => by simp [argF]; exact .nil, fun j a m => by simp [argF] at m⟩
  | o :: os, d :: ds, v :: vs, F :: Gs, .cons h1 h2 h3 h4 => by
    obtain ⟨g1, g2, g3, g4, g5⟩ := OVs.arg r h4
    refine ⟨fun i d' e => ?_, fun i hi => ?_, fun j i e => ?_, fun j e => ?_, fun j a m => ?_⟩
    · cases i with
      | zero =>
        simp at e; subst e
        refine ⟨v, rfl, ?_⟩
        cases o with
        | ex f => exact h1.rep
        | sl i =>
          obtain ⟨w, e1, e2⟩ := h3 i rfl
          obtain ⟨v', k1, k2⟩ := r.rep i w d e1
          rw [e2] at k1; cases k1
          exact k2
      | succ i =>
        obtain ⟨v', k1, k2⟩ := g1 i d' (by simpa using e)
        exact ⟨v', by simpa using k1, by cases o <;> exact k2⟩
    · cases i with
      | zero => simp at hi
      | succ i =>
        have := g2 i (by simpa using hi)
        cases o <;> exact this
    · cases j with
      | zero =>
        simp at e; subst e
        obtain ⟨w, e1, e2⟩ := h3 i rfl
        exact ⟨rfl, w, d, v, e1, rfl, rfl, e2⟩
      | succ j =>
        obtain ⟨k1, k2⟩ := g3 j i (by simpa using e)
        exact ⟨by cases o <;> exact k1, by simpa using k2⟩
    · cases j with
      | zero =>
        cases o with
        | ex f => exact h2 rfl
        | sl i => exact absurd rfl (e i)
      | succ j =>
        have := g4 j fun i z => e i (by simpa using z)
        cases o <;> exact this
    · cases j with
      | zero =>
        cases o with
        | ex f => exact h1.inB a m
        | sl i => exact r.inB i a m
      | succ j => exact g5 j a (by cases o <;> exact m)
theorem isMut_inv {i : Nat} (h : isMut s i = true) : ∃ o d, s[i]? = some (some (o, d)) ∧ o ≠ Own.sh ∧ d.ul := by
  unfold isMut at h
  split at h
  · rename_i o d e
    obtain ⟨h1, h2⟩ := Bool.and_eq_true_iff.mp h
    exact ⟨o, d, e, of_decide_eq_true h1, ulB_ul h2⟩
  · cases h
open Classical in
/-- behind the call -/
theorem SR.call {os : List Opd} {ds : List D} {vs : List V} {Gs : List (List Addr)} {outs : List D} {Go : Nat → List Addr} (r : SR K P B ia s σ H Fs) (ov : OVs K B s σ H os ds vs Gs) (nd : (ioSlots os).Nodup) (mu : ∀ i, i ∈ ioSlots os → isMut s i = true)
    (fv : FV0 K (ioPos os 0) vs (argF Fs os Gs) H H' outs Go) (w : wb s (ioSlots os) outs = some s') :
    ∃ Fs', SR K P B ia s' σ H' Fs' ∧ Fr P H H' ∧ (∀ j, j ∉ ioSlots os → Fs' j = Fs j) ∧ ∀ n i, (ioSlots os)[n]? = some i → Fs' i = Go n := by
  obtain ⟨w1, w2, w3, w4⟩ := wb_get w nd
  obtain ⟨a1, a2, a3, a4, a5⟩ := ov.arg r
  have uq : ∀ {n m i : Nat}, (ioSlots os)[n]? = some i → (ioSlots os)[m]? = some i → n = m := fun {n m i} h h' => nd_ix nd h h'
  -- what an io slot holds
  have io : ∀ {n i : Nat}, (ioSlots os)[n]? = some i → ∃ j a d o, (ioPos os 0)[n]? = some j ∧ vs[j]? = some (.ref a) ∧ σ[i]? = some (some (.ref a)) ∧ s[i]? = some (some (o, d)) ∧ o ≠ Own.sh ∧ os[j]? = some (.sl i) ∧ d.ul := by
    intro n i h
    have hl : n < (ioPos os 0).length := by rw [ioPos_len]; exact (List.getElem?_eq_some_iff.mp h).1
    have e0 : (ioPos os 0)[n]? = some (ioPos os 0)[n] := List.getElem?_eq_getElem hl
    obtain ⟨i', k, e1, e2, e3⟩ := ioPos_get e0
    rw [h] at e3; cases e3
    rw [Nat.zero_add] at e1
    obtain ⟨_, w', d, v, b1, b2, b3, b4⟩ := a3 k i e2
    obtain ⟨o, d', c1, c2, c3⟩ := isMut_inv (mu i (List.mem_of_getElem? h))
    obtain ⟨a, F, q1, _⟩ := r.own i o d' c1 c2
    rw [b4] at q1; cases q1
    exact ⟨k, a, d', o, by rw [e0, e1], b3, b4, c1, c2, e2, c3⟩
  -- the io objects' addresses
  have isTop : ∀ {b : Addr}, (∀ (n i : Nat), (ioSlots os)[n]? = some i → σ[i]? ≠ some (some (V.ref b))) → ∀ (j : Nat), j ∈ ioPos os 0 → vs[j]? ≠ some (.ref b) := by
    intro b hb j hj e
    obtain ⟨n, hn⟩ := List.getElem?_of_mem hj
    have hl : n < (ioSlots os).length := by rw [← ioPos_len (c := 0)]; exact (List.getElem?_eq_some_iff.mp hn).1
    have e1 : (ioSlots os)[n]? = some (ioSlots os)[n] := List.getElem?_eq_getElem hl
    obtain ⟨j', a, d, o, q1, q2, q3, q4, q5, _⟩ := io e1
    rw [hn] at q1; cases q1
    rw [e] at q2; cases q2
    exact hb n _ e1 q3
  have keepF : ∀ j, j ∉ ioSlots os → ∀ b, b ∈ Fs j → H' b = H b := by
    intro j hj b m
    refine fv.keep b (r.trF m) (isTop fun n i h e => ?_)
    obtain ⟨j', a, d, o, q1, q2, q3, q4, q5, _⟩ := io h
    rw [e] at q3; cases q3
    obtain ⟨a', F, g1, g2, g3, g4, g5, g6⟩ := r.own i o d q4 q5
    rw [e] at g1; cases g1
    exact g6 j (fun z => hj (by rw [z]; exact List.mem_of_getElem? h)) m
  have fr : Fr P H H' := by
    refine ⟨fun b hb => fv.keep b (r.tr b hb) (isTop fun n i h e => ?_), fun b o hb hi => ?_⟩
    · obtain ⟨j', a, d, o, q1, q2, q3, q4, q5, _⟩ := io h
      rw [e] at q3; cases q3
      exact r.noOwn (F := [b]) (fun a m => by rw [List.mem_singleton.mp m]; exact hb) i o d b q4 q5 e List.mem_cons_self
    · rw [fv.keep b (by rw [hb]; simp) (isTop fun n i h e => ?_)]
      · exact hb
      · obtain ⟨j', a, d, o', q1, q2, q3, q4, q5, _, q7⟩ := io h
        obtain ⟨a', F, g1, g2, g3, _⟩ := r.own i o' d q4 q5
        rw [e] at g1; cases g1
        obtain ⟨ob, m1, m2⟩ := g3.mut q7
        rw [hb] at m1; cases m1
        exact m2 hi
  let Fs' : Nat → List Addr := fun i => if h : ∃ n : Nat, (ioSlots os)[n]? = some i then Go h.choose else Fs i
  have F1 : ∀ {n i : Nat}, (ioSlots os)[n]? = some i → Fs' i = Go n := by
    intro n i h
    have hx : ∃ n : Nat, (ioSlots os)[n]? = some i := ⟨n, h⟩
    show (if h : ∃ n : Nat, (ioSlots os)[n]? = some i then Go h.choose else Fs i) = Go n
    rw [dif_pos hx, uq hx.choose_spec h]
  have F2 : ∀ {j : Nat}, j ∉ ioSlots os → Fs' j = Fs j := by
    intro j h
    show (if h : ∃ n : Nat, (ioSlots os)[n]? = some j then Go h.choose else Fs j) = Fs j
    rw [dif_neg fun ⟨n, q⟩ => h (List.mem_of_getElem? q)]
  -- an io slot behind the call
  have ioN : ∀ {n i : Nat}, (ioSlots os)[n]? = some i → ∃ o d d' a T, s[i]? = some (some (o, d)) ∧ o ≠ Own.sh ∧ s'[i]? = some (some (o, d')) ∧ σ[i]? = some (some (.ref a)) ∧ Go n = a :: T ∧ RepM K H' d' a T ∧ a ∉ T ∧
      (∀ b, b ∈ T → (∃ i, b ∈ argF Fs os Gs i) ∨ H b = none) ∧ ∀ m, m ≠ n → m < (ioSlots os).length → a ∉ Go m := by
    intro n i h
    obtain ⟨j, a, d, o, q1, q2, q3, q4, q5, _⟩ := io h
    obtain ⟨o', d1, d2, g1, g2, g3⟩ := w3 n i h
    rw [q4] at g1; cases g1
    obtain ⟨a', d', T, k1, k2, k3, k4, k5, k6, k7⟩ := fv.out n j q1
    rw [q2] at k1; cases k1
    rw [g2] at k2; cases k2
    exact ⟨o, d, d2, a, T, q4, q5, g3, q3, k3, k4, k5, k6, fun m h1 h2 => k7 m h1 (by rw [ioPos_len]; exact h2)⟩
  -- a slot of one's own that isn't io has its object in nothing that came
  have sep : ∀ {j : Nat} {o : Own} {d : D} {a : Addr}, j ∉ ioSlots os → s[j]? = some (some (o, d)) → o ≠ Own.sh → σ[j]? = some (some (.ref a)) → ∀ b, ((∃ i, b ∈ argF Fs os Gs i) ∨ H b = none) → a ≠ b := by
    intro j o d a hj e n ha b hb eq
    subst eq
    rcases hb with ⟨k, hk⟩ | hb
    · by_cases hs : ∃ i, os[k]? = some (.sl i)
      · obtain ⟨i, hs⟩ := hs
        rw [(a3 k i hs).1] at hk
        obtain ⟨a', F, g1, g2, g3, g4, g5, g6⟩ := r.own j o d e n
        rw [ha] at g1; cases g1
        obtain ⟨nn, _, hn⟩ := ioPos_of (c := 0) hs
        exact g6 i (fun z => hj (by rw [← z]; exact List.mem_of_getElem? hn)) hk
      · exact a4 k (fun i z => hs ⟨i, z⟩) j o d a e n ha hk
    · exact r.ownTr e n ha hb
  have nbk : ∀ b, H' b = none → H b = none := by
    intro b hb
    refine Classical.byContradiction fun hn => ?_
    by_cases ht : ∃ (n i : Nat), (ioSlots os)[n]? = some i ∧ σ[i]? = some (some (V.ref b))
    · obtain ⟨n, i, h1, h2⟩ := ht
      obtain ⟨o, d, d', a, T, q1, q2, q3, q4, q5, q6, _⟩ := ioN h1
      rw [h2] at q4; cases q4
      exact q6.here hb
    · rw [fv.keep b hn (isTop fun n i h e => ht ⟨n, i, h, e⟩)] at hb
      exact hn hb
  refine ⟨Fs', ⟨by rw [w1]; exact r.len, fun j o d e => ?_, fun j o d e n => ?_, fun j d e => ?_, fun j q => ?_, fun j a m => ?_, fun b q => by rw [fr.p b q]; exact r.tr b q, fun b q => r.nb b (nbk b q)⟩, fr, fun j h => F2 h, fun n i h => F1 h⟩
  · by_cases hj : j ∈ ioSlots os
    · obtain ⟨n, hn⟩ := List.getElem?_of_mem hj
      obtain ⟨o', d1, d', a, T, q1, q2, q3, q4, q5, q6, _⟩ := ioN hn
      rw [e] at q3; cases q3
      exact ⟨.ref a, q4, by rw [F1 hn, q5]; exact q6.rep⟩
    · rw [w4 j hj] at e
      obtain ⟨v, g1, g2⟩ := r.rep j o d e
      exact ⟨v, g1, by rw [F2 hj]; exact g2.keep fr.i fun b m => keepF j hj b m⟩
  · by_cases hj : j ∈ ioSlots os
    · obtain ⟨m, hm⟩ := List.getElem?_of_mem hj
      obtain ⟨o', d1, d', a, T, q1, q2, q3, q4, q5, q6, q7, q8, q9⟩ := ioN hm
      rw [e] at q3; cases q3
      obtain ⟨a', F, g1, g2, g3, g4, g5, g6⟩ := r.own j _ d1 q1 q2
      rw [q4] at g1; cases g1
      refine ⟨a, T, q4, by rw [F1 hm]; exact q5, q6, q7, g5, fun k hk => ?_⟩
      by_cases hk2 : k ∈ ioSlots os
      · obtain ⟨m2, hm2⟩ := List.getElem?_of_mem hk2
        rw [F1 hm2]
        exact q9 m2 (fun z => hk (by rw [z, hm] at hm2; exact (Option.some.inj hm2).symm)) (List.getElem?_eq_some_iff.mp hm2).1
      · rw [F2 hk2]; exact g6 k hk
    · rw [w4 j hj] at e
      obtain ⟨a, F, g1, g2, g3, g4, g5, g6⟩ := r.own j o d e n
      refine ⟨a, F, g1, by rw [F2 hj]; exact g2, g3.keep fr.i fun b m => keepF j hj b (by rw [g2]; exact m), g4, g5, fun k hk => ?_⟩
      by_cases hk2 : k ∈ ioSlots os
      · obtain ⟨m2, hm2⟩ := List.getElem?_of_mem hk2
        obtain ⟨o', d1, d', a', T, q1, q2, q3, q4, q5, q6, q7, q8, q9⟩ := ioN hm2
        rw [F1 hm2, q5]
        intro m
        rcases List.mem_cons.mp m with rfl | m
        · obtain ⟨b, F', k1, k2, _⟩ := r.own k o' d1 q1 q2
          rw [q4] at k1; cases k1
          exact g6 k hk (by rw [k2]; exact List.mem_cons_self)
        · exact sep hj e n g1 a (q8 a m) rfl
      · rw [F2 hk2]; exact g6 k hk
  · by_cases hj : j ∈ ioSlots os
    · obtain ⟨m, hm⟩ := List.getElem?_of_mem hj
      obtain ⟨o', d1, d', a, T, q1, q2, q3, q4, _⟩ := ioN hm
      rw [e] at q3; cases q3
      exact r.iov j d1 q1
    · rw [w4 j hj] at e; exact r.iov j d e
  · have hj : j ∉ ioSlots os := fun hj => by
      obtain ⟨m, hm⟩ := List.getElem?_of_mem hj
      obtain ⟨o', d1, d', a, T, q1, q2, q3, _⟩ := ioN hm
      exact q _ _ q3
    rw [F2 hj]
    exact r.dead j fun o d z => q o d (by rw [w4 j hj]; exact z)
  · by_cases hj : j ∈ ioSlots os
    · obtain ⟨n, hn⟩ := List.getElem?_of_mem hj
      obtain ⟨o', d1, d', a', T, q1, q2, q3, q4, q5, q6, q7, q8, q9⟩ := ioN hn
      rw [F1 hn, q5] at m
      rcases List.mem_cons.mp m with rfl | m
      · obtain ⟨b, F', k1, k2, _⟩ := r.own j o' d1 q1 q2
        rw [q4] at k1; cases k1
        exact r.inB j a (by rw [k2]; exact List.mem_cons_self)
      · rcases q8 a m with ⟨i, mi⟩ | hn
        · exact a5 i a mi
        · exact r.nb a hn
    · rw [F2 hj] at m; exact r.inB j a m
end
end PV

/-! PV: calls of defs and of built-ins, what changes a list or a dict. -/
namespace PV
open PySem PySem.Spec L2

section
variable {X : Cx} {E : WX} {f : Addr} {fd : FuncData} {ps : List Str} {x : Str} {p pos : Pos} {e : Expr} {es : List Expr} {F : FS} {os : List Opd} {k : Nat}
theorem tD_call {K : PySem.W.Frag} {n : Nat} (hn : os.length = n) (σ : St) (H : Hp) (Q : VK) (h : tD K E (callM F os) σ H Q) : tCallS (spF K (ioPos os 0) n F) (WE E) (rdOs K E os) σ H Q := by
  obtain ⟨P, B, ia, s, Fs, r, w⟩ := h
  refine rdOps r w (fun _ _ q => q) fun ds s1 vs H1 Gs Fs1 q ov fr r1 => ?_
  cases hc : decide (ioSlots os).Nodup && (ioSlots os).all (isMut s1) with
  | false => rw [hc] at q; exact q.elim
  | true =>
    rw [hc] at q
    obtain ⟨hnd, hmu⟩ := Bool.and_eq_true_iff.mp hc
    have nd := of_decide_eq_true hnd
    have mu : ∀ i, i ∈ ioSlots os → isMut s1 i = true := List.all_eq_true.mp hmu
    obtain ⟨a1, a2, a3, a4, a5⟩ := ov.arg r1
    obtain ⟨l1, l2⟩ := ov.length
    rw [if_pos rfl] at q
    refine ⟨by rw [← l1, l2, hn], ds, argF Fs1 os Gs, by rw [l2, hn], a1, fun i hi => a2 i (by rw [hn]; exact hi), fun j hj => ?_, ?_⟩
    · obtain ⟨m, hm⟩ := List.getElem?_of_mem hj
      obtain ⟨i, kk, e1, e2, e3⟩ := ioPos_get hm
      rw [Nat.zero_add] at e1; subst e1
      obtain ⟨b1, w', d, v, b2, b3, b4, b5⟩ := a3 _ i e2
      obtain ⟨o, d', c1, c2, _⟩ := isMut_inv (mu i (List.mem_of_getElem? e3))
      rw [b2] at c1; cases c1
      obtain ⟨a, T, g1, g2, g3, g4, g5, g6⟩ := r1.own i _ d b2 c2
      rw [b5] at g1; cases g1
      refine ⟨a, T, d, b3, b4, by rw [b1, g2], g3, g4, fun m' hm' => ?_⟩
      by_cases hs : ∃ i', os[m']? = some (.sl i')
      · obtain ⟨i', hs⟩ := hs
        rw [(a3 m' i' hs).1]
        refine g6 i' fun z => hm' ?_
        subst z
        obtain ⟨n1, f1, f2⟩ := ioPos_of (c := 0) hs
        obtain ⟨n2, f3, f4⟩ := ioPos_of (c := 0) e2
        have : n1 = n2 := nd_ix nd f2 f4
        subst this
        rw [f1] at f3
        have := Option.some.inj f3
        omega
      · exact a4 m' (fun i z => hs ⟨i, z⟩) i _ d a b2 c2 b5
    · cases hF : F ds with
      | stuck => rw [hF] at q; exact q
      | exc y outs =>
        rw [hF] at q
        dsimp only at q
        split at q
        · rename_i s2 ew
          intro cls dx H2 Go fv xr
          obtain ⟨Fs2, r2, fr2, _⟩ := SR.call r1 ov nd mu fv ew
          exact q cls dx H2 ⟨Fs2, fr.trans fr2, r2, xr⟩
        · exact q.elim
      | ret f d outs =>
        rw [hF] at q
        dsimp only at q
        split at q
        · rename_i s2 ew
          intro v H2 G Go fv
          obtain ⟨Fs2, r2, fr2, F2, F1⟩ := SR.call r1 ov nd mu fv.toFV0 ew
          obtain ⟨w1, w2, w3, w4⟩ := wb_get ew nd
          have gB : ∀ a, a ∈ G → B a := fun a m => (fv.gin a m).elim (fun ⟨i, h⟩ => a5 i a h) fun h => r1.nb a h
          have no : NoOwn s2 σ G := by
            intro j o d' a ej n ea m
            by_cases hj : j ∈ ioSlots os
            · obtain ⟨m', hm'⟩ := List.getElem?_of_mem hj
              have hl : m' < (ioPos os 0).length := by rw [ioPos_len]; exact (List.getElem?_eq_some_iff.mp hm').1
              have e0 : (ioPos os 0)[m']? = some (ioPos os 0)[m'] := List.getElem?_eq_getElem hl
              obtain ⟨i', kk, e1, e2, e3⟩ := ioPos_get e0
              rw [hm'] at e3; cases e3
              rw [Nat.zero_add] at e1
              obtain ⟨_, w', d2, v2, b2, b3, b4, b5⟩ := a3 kk j e2
              rw [ea] at b5; cases b5
              exact fv.gio m' kk a (by rw [e0, e1]) b4 m
            · rw [w4 j hj] at ej
              rcases fv.gin a m with ⟨i, hi⟩ | hn
              · by_cases hs : ∃ i', os[i]? = some (.sl i')
                · obtain ⟨i', hs⟩ := hs
                  rw [(a3 i i' hs).1] at hi
                  obtain ⟨a', T, g1, g2, g3, g4, g5, g6⟩ := r1.own j o d' ej n
                  rw [ea] at g1; cases g1
                  obtain ⟨n1, f1, f2⟩ := ioPos_of (c := 0) hs
                  exact g6 i' (fun z => hj (by rw [← z]; exact List.mem_of_getElem? f2)) hi
                · exact a4 i (fun i' z => hs ⟨i', z⟩) j o d' a ej n ea hi
              · exact r1.ownTr ej n ea hn
          refine q v H2 ⟨G, Fs2, fv.rep, fr.trans fr2, gB, r2.prot fv.rep.tr no, fun hf => ?_⟩
          obtain ⟨a, T, k1, k2, k3, k4, k5, k6⟩ := fv.own hf
          refine ⟨a, T, k1, k2, k3, k4, fun q => r1.tr a q k5, fun j m => ?_⟩
          by_cases hj : j ∈ ioSlots os
          · obtain ⟨m', hm'⟩ := List.getElem?_of_mem hj
            rw [F1 m' j hm'] at m
            exact k6 m' (by rw [ioPos_len]; exact (List.getElem?_eq_some_iff.mp hm').1) m
          · rw [F2 j hj] at m
            exact r1.trF m k5
        · exact q.elim
/-- f(..) of a def -/
theorem de_call {ios : List Nat} (G : FnOk X.prog X.w X.K X.mg X.base (L2.CX X.prog X.w) k f fd ps (spF X.K ios ps.length F)) (hr : Room k X.A) (hg : Gl X x) (hm : X.mg x = some (.ref f)) (hk : PySem.W.keepIn X.K (.ref f) = true) (hb : Binds X.K fd ps []) (tk : Takes X E)
    (ha : PAd X E (e :: es) os) (hio : ioPos os 0 = ios := by rfl) (hn : os.length = ps.length := by rfl) (hdb : (x == ("__debug__" : Str)) = false := by decide) (he : starEach (e :: es) X.env = (false, eval e X.env) :: starEach es X.env := by rfl) (hpl : (backTo pos (starEach es X.env)).any (·.1) = false := by rfl) :
    PE X (.Call (.Name x p) (e :: es) [] pos) (tD X.K E (callM F os)) := by
  subst hio
  exact (pe_callS G hr hg hm hk hb (passAt tk) ha hdb he hpl).imp (tD_call hn)
end

/-! ### built-ins of one value -/
def OpD1 (K : PySem.W.Frag) (g : D → Option (Bool × D)) (r : V → Hp → VK → Prop) : Prop :=
  ∀ {P B : Addr → Prop} {ia : Nat → Addr} {s : S} {σ : St} {H H0 : Hp} {Fs : Nat → List Addr} {dx : D} {q : Bool × D} {x : V} {F : List Addr} {Q : VK}, SR K P B ia s σ H Fs → OV K B s σ H dx x F → Fr P H0 H → g dx = some q →
    (∀ v H', RV K P B ia s σ H0 H' q.1 q.2 v → Q v H') → r x H Q
def unM (g : D → Option (Bool × D)) (a : Opd) : M (Bool × D) := op1 a fun x s => match g x with
  | some r => .ok r s
  | none => .stuck
theorem tD_un {K : PySem.W.Frag} {E : WX} {g : D → Option (Bool × D)} {r : V → Hp → VK → Prop} (hd : OpD1 K g r) {a : Opd} (σ : St) (H : Hp) (Q : VK) (h : tD K E (unM g a) σ H Q) : rdO K E a σ H fun x H1 => r x H1 Q := by
  obtain ⟨P, B, ia, s, Fs, R, h⟩ := h
  refine rd1 R ((op1_post h).mono (fun _ _ q => q) fun d s' w x H' F Fs' ov fr R' => ?_)
  cases e : g d with
  | none => rw [e] at w; exact (show False from w).elim
  | some z =>
    rw [e] at w
    exact hd R' ov fr e w
section
variable {X : Cx} {E : WX} {x : Str} {p pos : Pos} {e e2 : Expr} {o o2 : Opd}
theorem CallR.or {f : Value} {r r' : List V → Hp → VK → Prop} (h : CallR X f r) (h' : CallR X f r') : CallR X f (fun xs H Q => r xs H Q ∨ r' xs H Q) := fun pins s σ H xs us Q I rs q => q.elim (h pins s σ H xs us Q I rs) (h' pins s σ H xs us Q I rs)
theorem de_b1 {id : String} {r : List V → Hp → VK → Prop} {g : D → Option (Bool × D)} (hc : CallR X (.builtin id) r) (hd : OpD1 X.K g fun x H Q => r [x] H Q) (hg : Gl X x) (hm : X.mg x = none) (hv : bootBuiltins x = some (.builtin id)) (ha : PE X e (rdO X.K E o)) (hn : x ≠ "__name__" := by decide)
    (hs : starEach [e] X.env = [(false, eval e X.env)] := by rfl) (hdb : (x == ("__debug__" : Str)) = false := by decide) (hpl : (backTo pos (starEach [] X.env)).any (·.1) = false := by rfl) : PE X (.Call (.Name x p) [e] [] pos) (tD X.K E (unM g o)) :=
  (pe_callB hc hg hm hv (pa_cons ha pa_nil hs) hn hdb hs hpl).imp (tD_un hd)
theorem de_t1 {T : String} {r : List V → Hp → VK → Prop} {g : D → Option (Bool × D)} (hc : CallR X (.type T) r) (hd : OpD1 X.K g fun x H Q => r [x] H Q) (hg : Gl X x) (hm : X.mg x = none) (hv : bootBuiltins x = some (.type T)) (ha : PE X e (rdO X.K E o)) (hn : x ≠ "__name__" := by decide)
    (hs : starEach [e] X.env = [(false, eval e X.env)] := by rfl) (hdb : (x == ("__debug__" : Str)) = false := by decide) (hpl : (backTo pos (starEach [] X.env)).any (·.1) = false := by rfl) : PE X (.Call (.Name x p) [e] [] pos) (tD X.K E (unM g o)) :=
  (pe_callTy hc hg hm hv (pa_cons ha pa_nil hs) hn hdb hs hpl).imp (tD_un hd)
theorem de_b2 {id : String} {r : List V → Hp → VK → Prop} {g : D → D → Option (Bool × D)} (hc : CallR X (.builtin id) r) (hd : OpD X.K g fun x y H Q => r [x, y] H Q) (hg : Gl X x) (hm : X.mg x = none) (hv : bootBuiltins x = some (.builtin id)) (ha : PE X e (rdO X.K E o)) (hb : PE X e2 (rdO X.K E o2))
    (hn : x ≠ "__name__" := by decide) (hs : starEach [e, e2] X.env = [(false, eval e X.env), (false, eval e2 X.env)] := by rfl) (hs2 : starEach [e2] X.env = [(false, eval e2 X.env)] := by rfl) (hdb : (x == ("__debug__" : Str)) = false := by decide) (hpl : (backTo pos (starEach [e2] X.env)).any (·.1) = false := by rfl) :
    PE X (.Call (.Name x p) [e, e2] [] pos) (tD X.K E (binM g o o2)) :=
  (pe_callB hc hg hm hv (pa_cons ha (pa_cons hb pa_nil hs2) (by rw [hs, hs2])) hn hdb (by rw [hs, hs2]) hpl).imp (tD_op hd)
end
section
variable {K : PySem.W.Frag}
/-- len -/
def lenD : D → Option (Bool × D)
  | .str x => if x.length ≤ sizeLine then some (false, .int x.length) else none
  | .lst ds => some (false, .int ds.length)
  | .tup ds => some (false, .int ds.length)
  | .fro ds => some (false, .int ds.length)
  | .dct kds => some (false, .int kds.length)
  | _ => none
def rLenD (K : PySem.W.Frag) : List V → Hp → VK → Prop := fun xs H Q => (∃ x n, xs = [x] ∧ LenV K x H n ∧ Q (.int n) H) ∨ ∃ a kvs, xs = [V.ref a] ∧ H a = some (.dK kvs) ∧ Q (.int kvs.length) H
theorem or_len {X : Cx} : CallR X (.builtin "len") (rLenD X.K) := CallR.or call_len call_lenD
theorem opd_len : OpD1 K lenD fun x H Q => rLenD K [x] H Q := by
  intro P B ia s σ H H0 Fs dx q x F Q R o fr e k
  unfold lenD at e
  split at e
  · split at e
    · rename_i hz
      cases e; exact .inl ⟨x, _, rfl, by rw [o.str_inv]; exact ⟨hz, rfl⟩, k _ _ (.flat .int fr R)⟩
    · cases e
  · cases e
    obtain ⟨a, vs, G, rfl, h1, h2, no, ib⟩ := o.lst_inv
    exact .inl ⟨_, _, rfl, .inl ⟨vs, SqL.of h1, h2.length⟩, k _ _ (.flat .int fr R)⟩
  · cases e
    obtain ⟨a, vs, rfl, h1, h2, no⟩ := o.tup_inv
    exact .inl ⟨_, _, rfl, .inr ⟨vs, h1, h2.length⟩, k _ _ (.flat .int fr R)⟩
  · cases e
    obtain ⟨a, vs, rfl, h1, h2, no⟩ := o.fro_inv
    exact .inl ⟨_, _, rfl, .inl ⟨vs, fz_sq h1, h2.length⟩, k _ _ (.flat .int fr R)⟩
  · cases e
    obtain ⟨a, vs, G, rfl, h1, h2, no, ib⟩ := o.dct_inv
    exact .inr ⟨_, _, rfl, h1, by rw [← h2.length]; exact k _ _ (.flat .int fr R)⟩
  · cases e
/-- int, abs, str -/
def toInt : D → Option (Bool × D)
  | .int i => some (false, .int i)
  | .bl b => some (false, .int (if b then 1 else 0))
  | _ => none
theorem opd_toInt : OpD1 K toInt fun x H Q => (∃ i, [x] = [V.int i] ∧ Q (.int i) H) ∨ ∃ k, [x] = [V.bl k] ∧ Q (.int (if k then 1 else 0)) H := by
  intro P B ia s σ H H0 Fs dx q x F Q R o fr e k
  unfold toInt at e
  split at e
  · cases e; exact .inl ⟨_, by rw [o.int_inv], k _ _ (.flat .int fr R)⟩
  · cases e; exact .inr ⟨_, by rw [o.bl_inv], k _ _ (.flat .int fr R)⟩
  · cases e
def absD : D → Option (Bool × D)
  | .int i => some (false, .int (if i < 0 then -i else i))
  | _ => none
theorem opd_abs : OpD1 K absD fun x H Q => ∃ i, [x] = [V.int i] ∧ Q (.int (if i < 0 then -i else i)) H := by
  intro P B ia s σ H H0 Fs dx q x F Q R o fr e k
  unfold absD at e
  split at e
  · cases e; exact ⟨_, by rw [o.int_inv], k _ _ (.flat .int fr R)⟩
  · cases e
def toStr : D → Option (Bool × D)
  | .int i => if i.natAbs.log2 < 1920 then some (false, .str (toString i)) else none
  | .str x => some (false, .str x)
  | _ => none
def rStrD : List V → Hp → VK → Prop := fun xs H Q => (∃ i, xs = [V.int i] ∧ i.natAbs.log2 < 1920 ∧ Q (.str (toString i)) H) ∨ ∃ a, xs = [V.str a] ∧ Q (.str a) H
theorem or_str {X : Cx} : CallR X (.type "str") rStrD := CallR.or call_str_int SkE.call_str_str
theorem opd_toStr : OpD1 K toStr fun x H Q => rStrD [x] H Q := by
  intro P B ia s σ H H0 Fs dx q x F Q R o fr e k
  unfold toStr at e
  split at e
  · split at e
    · rename_i hz
      cases e; exact .inl ⟨_, by rw [o.int_inv], hz, k _ _ (.flat .str fr R)⟩
    · cases e
  · cases e; exact .inr ⟨_, by rw [o.str_inv], k _ _ (.flat .str fr R)⟩
  · cases e
/-- tuple(xs), list(xs) -/
def toTup : D → Option (Bool × D)
  | .lst ds => some (false, .tup ds)
  | .tup ds => some (false, .tup ds)
  | .fro ds => some (false, .tup ds)
  | _ => none
theorem opd_toTup : OpD1 K toTup fun x H Q => ∃ p ys, [x] = [V.ref p] ∧ ((SqL K H p ys ∧ ∀ l, H l = none → Q (.ref l) (upd H l (.tup ys))) ∨ (SqT K H p ys ∧ Q (.ref p) H)) := by
  intro P B ia s σ H H0 Fs dx q x F Q R o fr e k
  unfold toTup at e
  split at e
  · cases e
    obtain ⟨a, vs, G, rfl, h1, h2, no, ib⟩ := o.lst_inv
    exact ⟨a, vs, rfl, .inl ⟨SqL.of h1, fun l hl => k _ _ (.tup h2 no ib fr R hl)⟩⟩
  · cases e
    obtain ⟨a, vs, rfl, h1, h2, no⟩ := o.tup_inv
    exact ⟨a, vs, rfl, .inr ⟨h1, k _ _ (.part (.tup h1 h2) no o.inB fr R)⟩⟩
  · cases e
    obtain ⟨a, vs, rfl, h1, h2, no⟩ := o.fro_inv
    exact ⟨a, vs, rfl, .inl ⟨fz_sq h1, fun l hl => k _ _ (.tup h2 no o.inB fr R hl)⟩⟩
  · cases e
def toLst : D → Option (Bool × D)
  | .lst ds => some (true, .lst ds)
  | .tup ds => some (true, .lst ds)
  | .fro ds => some (true, .lst ds)
  | _ => none
theorem opd_toLst : OpD1 K toLst fun x H Q => ∃ p ys, [x] = [V.ref p] ∧ (SqL K H p ys ∨ SqT K H p ys) ∧ ∀ l, H l = none → Q (.ref l) (upd H l (.lst ys)) := by
  intro P B ia s σ H H0 Fs dx q x F Q R o fr e k
  unfold toLst at e
  split at e
  · cases e
    obtain ⟨a, vs, G, rfl, h1, h2, no, ib⟩ := o.lst_inv
    exact ⟨a, vs, rfl, .inl (SqL.of h1), fun l hl => k _ _ (.lst h2 no ib fr R hl)⟩
  · cases e
    obtain ⟨a, vs, rfl, h1, h2, no⟩ := o.tup_inv
    exact ⟨a, vs, rfl, .inr h1, fun l hl => k _ _ (.lst h2 no o.inB fr R hl)⟩
  · cases e
    obtain ⟨a, vs, rfl, h1, h2, no⟩ := o.fro_inv
    exact ⟨a, vs, rfl, .inl (fz_sq h1), fun l hl => k _ _ (.lst h2 no o.inB fr R hl)⟩
  · cases e
/-- all, any of a list of truth values -/
def bls : List D → Option (List Bool)
  | [] => some []
  | .bl b :: ds => (bls ds).map fun bs => b :: bs
  | _ => none
theorem Reps.bls {H : Hp} : ∀ {ds : List D} {vs : List V} {F : List Addr} {bs : List Bool}, Reps K H ds vs F → PV.bls ds = some bs → vs = bs.map V.bl
  | [], _, _, _, h, e => by cases h; cases e; rfl
  | d :: ds, _, _, _, h, e => by
    cases h with
    | cons h1 h2 =>
      cases h1 with
      | bl =>
        rw [PV.bls] at e
        obtain ⟨bs', e1, e2⟩ := Option.map_eq_some_iff.mp e
        subst e2
        rw [h2.bls e1]; rfl
      | _ => cases e
def allD : D → Option (Bool × D)
  | .lst ds => (bls ds).map fun bs => (false, .bl (bs.all id))
  | _ => none
def anyD : D → Option (Bool × D)
  | .lst ds => (bls ds).map fun bs => (false, .bl (bs.any id))
  | _ => none
theorem opd_all : OpD1 K allD fun x H Q => rAll K [x] H Q := by
  intro P B ia s σ H H0 Fs dx q x F Q R o fr e k
  unfold allD at e
  split at e
  · obtain ⟨bs, e1, e2⟩ := Option.map_eq_some_iff.mp e
    cases e2
    obtain ⟨a, vs, G, rfl, h1, h2, no, ib⟩ := o.lst_inv
    exact ⟨a, bs, rfl, by rw [← h2.bls e1]; exact SqL.of h1, k _ _ (.flat .bl fr R)⟩
  · cases e
theorem opd_any : OpD1 K anyD fun x H Q => rAny K [x] H Q := by
  intro P B ia s σ H H0 Fs dx q x F Q R o fr e k
  unfold anyD at e
  split at e
  · obtain ⟨bs, e1, e2⟩ := Option.map_eq_some_iff.mp e
    cases e2
    obtain ⟨a, vs, G, rfl, h1, h2, no, ib⟩ := o.lst_inv
    exact ⟨a, bs, rfl, by rw [← h2.bls e1]; exact SqL.of h1, k _ _ (.flat .bl fr R)⟩
  · cases e
/-- isinstance -/
def tyName : D → String
  | .non => "NoneType"
  | .bl _ => "bool"
  | .int _ => "int"
  | .str _ => "str"
  | .tup _ => "tuple"
  | .lst _ => "list"
  | .fro _ => "list"
  | .dct _ => "dict"
  | .dcl _ => "dict"
  | .dnt _ _ => "dict"
  | .ty _ => "type"
def isiD : D → D → Option (Bool × D)
  | .ty _, _ => none
  | .dcl _, _ => none
  | .dnt _ _, _ => none
  | d, .ty n => (kitB (tyName d) n).map fun b => (false, .bl b)
  | _, _ => none
theorem opd_isi : OpD K isiD fun x y H Q => rIsi K [x, y] H Q := by
  intro P B ia s σ H H0 Fs dx dy q x y F G Q R o1 o2 fr e k
  unfold isiD at e
  split at e
  · cases e
  · cases e
  · cases e
  · rename_i n hn hn2 hn3
    obtain ⟨b, e1, e2⟩ := Option.map_eq_some_iff.mp e
    cases e2
    have ey : y = .ty n := by have := o2.rep; cases this; rfl
    subst ey
    refine ⟨x, .ty n, .type (tyName dx), .type n, b, rfl, .ty n, ?_, kit_ty e1, k _ _ (.flat .bl fr R)⟩
    cases dx with
    | non => rw [o1.non_inv]; exact .base .non
    | bl b => rw [o1.bl_inv]; exact .base (.bl _)
    | int b => rw [o1.int_inv]; exact .base (.int _)
    | str b => rw [o1.str_inv]; exact .base (.str _)
    | ty m => exact absurd rfl (hn m)
    | dcl m => exact absurd rfl (hn2 m)
    | dnt w m => exact absurd rfl (hn3 w m)
    | tup ds =>
      obtain ⟨a, vs, rfl, h1, h2, no⟩ := o1.tup_inv
      rcases h1 with (h1 | ⟨o, h1⟩) | ⟨o, its, n, h1, h3, _⟩
      · exact .base (.tup h1)
      · exact .fTuple h1
      · exact .kTuple h1 h3
    | lst ds =>
      obtain ⟨a, vs, _, rfl, h1, h2, no⟩ := o1.lst_inv
      exact .base (.lst h1)
    | fro ds =>
      obtain ⟨a, vs, rfl, h1, h2, no⟩ := o1.fro_inv
      rcases h1 with ⟨o, h1⟩ | ⟨o, its, n, h1, h3, _⟩
      · exact .base (.frz h1)
      · exact .kList h1 h3
    | dct ds =>
      obtain ⟨a, vs, _, rfl, h1, h2, no⟩ := o1.dct_inv
      exact .base (.dK h1)
  · cases e
/-- max, min of two ints -/
abbrev maxD := intD (fun _ _ => true) fun i j => if j > i then j else i
abbrev minD := intD (fun _ _ => true) fun i j => if j < i then j else i
theorem opd_two {f : Int → Int → Int} : OpD K (intD (fun _ _ => true) f) fun x y H Q => ∃ i j, [x, y] = [V.int i, V.int j] ∧ Q (.int (f i j)) H := by
  intro P B ia s σ H H0 Fs dx dy q x y F G Q R o1 o2 fr e k
  unfold intD at e
  split at e
  · cases e; exact ⟨_, _, by rw [o1.int_inv, o2.int_inv], k _ _ (.flat .int fr R)⟩
  · cases e
end
end PV

/-! PV: what changes a list or a dict; dicts; methods of texts. -/
namespace PV
open PySem PySem.Spec L2

/-! ### xs.append(e), xs.extend(e) -/
def appD (ds : List D) (y : D) : Option (List D) := if ds.length < sizeLine then some (ds ++ [y]) else none
def extD (ds : List D) (y : D) : Option (List D) := match y with
  | .lst zs => if ds.length + zs.length ≤ sizeLine then some (ds ++ zs) else none
  | _ => none
def isLst (s : S) (i : Nat) : Bool := match s[i]? with
  | some (some (_, .lst _)) => true
  | _ => false
def growM (g : List D → D → Option (List D)) (i : Nat) (f : M (Bool × D)) : M (Bool × D) := fun s => if isLst s i = true then (f s).bind fun y s1 => (match s1[i]? with
  | some (some (o, .lst ds)) => if o = .sh then .stuck else (match g ds y.2 with
    | some ds' => .ok (false, .non) (s1.set i (some (o, .lst ds')))
    | none => .stuck)
  | _ => .stuck) else .stuck
/-- the rule r grows a list as g says -/
def GrowR (K : PySem.W.Frag) (g : List D → D → Option (List D)) (r : V → List V → Hp → VK → Prop) : Prop :=
  ∀ {H : Hp} {a : Addr} {vs : List V} {ds ds' : List D} {y : D} {v : V} {F G : List Addr} {Q : VK}, H a = some (.lst vs) → Reps K H ds vs F → Rep K H y v G → g ds y = some ds' →
    (∀ vs' F', (∀ H', (∀ b o, H b = some o → Im o → H' b = some o) → (∀ b, b ∈ F ++ G → b ≠ a → H' b = H b) → a ∉ F' → Reps K H' ds' vs' F') → (∀ b, b ∈ F' → b ∈ F ∨ b ∈ G) → Q .non (upd H a (.lst vs'))) → r (.ref a) [v] H Q
theorem grow_app {K : PySem.W.Frag} : GrowR K appD rAppend := by
  intro H a vs ds ds' y v F G Q h hr hy e k
  unfold appD at e
  split at e
  · rename_i hz
    cases e
    refine ⟨a, vs, v, rfl, rfl, h, by rw [← hr.length]; exact hz, k (vs ++ [v]) (F ++ G) (fun H' i f na => ?_) fun b m => List.mem_append.mp m⟩
    have f' : ∀ b, b ∈ F ++ G → H' b = H b := fun b m => f b m fun e => na (e ▸ m)
    exact (Reps.keep i hr fun b m => f' b (List.mem_append_left _ m)).append (Reps.one (hy.keep i fun b m => f' b (List.mem_append_right _ m)))
  · cases e
theorem grow_ext {K : PySem.W.Frag} : GrowR K extD rExtend := by
  intro H a vs ds ds' y v F G Q h hr hy e k
  unfold extD at e
  split at e
  · rename_i zs
    split at e
    · rename_i hz
      cases e
      cases hy with
      | @lst b _ ws G' h1 h2 =>
        refine ⟨a, b, vs, ws, rfl, rfl, h, h1, by rw [← hr.length, ← h2.length]; exact hz, k (vs ++ ws) (F ++ G') (fun H' i f na => ?_) fun c m => (List.mem_append.mp m).imp (fun m => m) fun m => List.mem_cons_of_mem _ m⟩
        have f' : ∀ c, c ∈ F ++ G' → H' c = H c := fun c m => f c ((List.mem_append.mp m).elim (fun m => List.mem_append_left _ m) fun m => List.mem_append_right _ (List.mem_cons_of_mem _ m)) fun e => na (e ▸ m)
        exact (Reps.keep i hr fun c m => f' c (List.mem_append_left _ m)).append (Reps.keep i h2 fun c m => f' c (List.mem_append_right _ m))
    · cases e
  · cases e
theorem isLst_inv {s : S} {i : Nat} (h : isLst s i = true) : ∃ o ds, s[i]? = some (some (o, .lst ds)) := by
  unfold isLst at h
  split at h
  · rename_i o ds e; exact ⟨o, ds, e⟩
  · cases h
theorem tD_grow {K : PySem.W.Frag} {E : WX} {g : List D → D → Option (List D)} {r : V → List V → Hp → VK → Prop} (hg : GrowR K g r) {i : Nat} {f : M (Bool × D)} (σ : St) (H : Hp) (Q : VK) (h : tD K E (growM g i f) σ H Q) : tBM K "list" r (tVar i) (tCons (tD K E f) tNil) σ H Q := by
  obtain ⟨P, B, ia, s, Fs, R, w⟩ := h
  unfold growM at w
  split at w
  · rename_i hl
    obtain ⟨o, ds, e⟩ := isLst_inv hl
    obtain ⟨v, F0, hv, ov⟩ := R.opd e
    obtain ⟨a, vs, G0, rfl, h1, h2, _, _⟩ := ov.lst_inv
    refine ⟨.ref a, hv, .inl ⟨rfl, vs, SqL.of h1⟩, P, B, ia, s, Fs, R, (Post.bind w).mono (fun _ _ q => q) fun y s1 q u H1 rv => ?_⟩
    obtain ⟨G, Fs1, g1, g2, g3, g4, g5⟩ := rv
    split at q
    · rename_i o1 ds1 e1
      split at q
      · exact q.elim
      · rename_i ho
        split at q
        · rename_i ds2 e2
          obtain ⟨a', F, k1, k2, k3, k4, k5, k6⟩ := g4.own i o1 _ e1 ho
          rw [hv] at k1; cases k1
          cases k3 with
          | @lst _ _ vs1 _ m1 m2 =>
            refine hg m1 m2 g1 e2 fun vs' F' hr hF => ?_
            have na : a ∉ F' := fun m => (hF a m).elim k4 fun m => k5 (.inr m)
            have rm : RepM K (upd H1 a (.lst vs')) (.lst ds2) a F' := .lst upd_same (hr _ (fun b o hb hi => by rw [upd_ne fun e => by subst e; rw [m1] at hb; cases hb; exact hi]; exact hb) (fun b m hb => upd_ne hb) na)
            obtain ⟨r2, fr2⟩ := g4.write e1 ho hv k2 rm hF (fun b m => g3 b m)
            exact q .non _ (.flat .non (g2.trans fr2) r2)
        · exact q.elim
    · exact q.elim
  · exact w.elim
/-- a method that grows a list: h is pe_bm .. -/
theorem dm_grow {X : Cx} {E : WX} {e : Expr} {g : List D → D → Option (List D)} {r : V → List V → Hp → VK → Prop} {i : Nat} {f : M (Bool × D)} (h : PE X e (tBM X.K "list" r (tVar i) (tCons (tD X.K E f) tNil))) (hg : GrowR X.K g r) : PE X e (tD X.K E (growM g i f)) := h.imp (tD_grow hg)

/-! ### xs.pop(), xs.pop(i) -/
def popM (i : Nat) : M (Bool × D) := fun s => match s[i]? with
  | some (some (o, .lst ds)) => if o = .sh then .stuck else (match ds[ds.length - 1]? with
    | some d => .ok (false, d) (s.set i (some (o, .lst ds.dropLast)))
    | none => .stuck)
  | _ => .stuck
theorem Reps.dropLast {K : PySem.W.Frag} {H : Hp} {ds : List D} {vs : List V} {F : List Addr} (h : Reps K H ds vs F) : ∃ G, Reps K H ds.dropLast vs.dropLast G ∧ ∀ b, b ∈ G → b ∈ F := by
  rw [List.dropLast_eq_take, List.dropLast_eq_take, h.length]
  have := h.sub 0 (vs.length - 1)
  simpa using this
theorem Reps.erase {K : PySem.W.Frag} {H : Hp} : ∀ {ds : List D} {vs : List V} {F : List Addr} (k : Nat), Reps K H ds vs F → ∃ G, Reps K H (ds.eraseIdx k) (vs.eraseIdx k) G ∧ ∀ b, b ∈ G → b ∈ F
  | [], _, _, k, h => by cases h; exact ⟨[], by simpa using Reps.nil, fun _ m => m⟩
  | d :: ds, _, _, 0, h => by
    cases h with
    | cons h1 h2 => exact ⟨_, h2, fun b m => List.mem_append_right _ m⟩
  | d :: ds, _, _, k + 1, h => by
    cases h with
    | @cons _ v F1 _ vs G h1 h2 =>
      obtain ⟨G', e1, e2⟩ := Reps.erase k h2
      refine ⟨F1 ++ G', .cons h1 e1, fun b m => ?_⟩
      rcases List.mem_append.mp m with m | m
      · exact List.mem_append_left _ m
      · exact List.mem_append_right _ (e2 b m)
/-- a list in a slot of one's own becomes a part of itself, a part is handed out -/
theorem SR.less {K : PySem.W.Frag} {P B : Addr → Prop} {ia : Nat → Addr} {s : S} {σ : St} {H H0 : Hp} {Fs : Nat → List Addr} {i : Nat} {o : Own} {d d' y : D} {a : Addr} {v : V} {F F' G : List Addr} {ob : HO} (r : SR K P B ia s σ H Fs) (fr : Fr P H0 H) (e : s[i]? = some (some (o, d))) (n : o ≠ .sh) (ha : σ[i]? = some (some (V.ref a)))
    (hF : Fs i = a :: F) (h : ∀ H', (∀ b o, H b = some o → Im o → H' b = some o) → (∀ b, b ≠ a → H' b = H b) → H' a = some ob → RepM K H' d' a F') (hF' : ∀ b, b ∈ F' → b ∈ F) (hy : Rep K H y v G) (hG : ∀ b, b ∈ G → b ∈ F) (hu : d.ul := by intro _ h; cases h) :
    RV K P B ia (s.set i (some (o, d'))) σ H0 (upd H a ob) false y v := by
  obtain ⟨a', F0, k1, k2, k3, k4, k5, k6⟩ := r.own i o d e n
  rw [ha] at k1; cases k1
  rw [hF] at k2; cases k2
  obtain ⟨ob0, m1, m2⟩ := k3.mut hu
  have im : ∀ b o, H b = some o → Im o → upd H a ob b = some o := fun b o hb hi => by
    rw [upd_ne fun e => by subst e; rw [m1] at hb; cases hb; exact m2 hi]; exact hb
  have rm := h (upd H a ob) im (fun b hb => upd_ne hb) upd_same
  obtain ⟨r2, fr2⟩ := SR.write (F2 := []) (r.weak fun b m => m.elim (fun m => m) fun m => by cases m) e n ha hF rm (fun b m => .inl (hF' b m)) (fun b m => by cases m) hu
  have naG : ∀ b, b ∈ G → b ≠ a := fun b m z => k4 (by rw [← z]; exact hG b m)
  have no : NoOwn (s.set i (some (o, d'))) σ G := by
    intro j o' d2 b q n' x m
    by_cases hj : j = i
    · subst hj
      rw [ha] at x; cases x
      exact naG _ m rfl
    · rw [get_set_ne hj] at q
      obtain ⟨c, F2, g1, g2, g3, g4, g5, g6⟩ := r.own j o' d2 q n'
      rw [x] at g1; cases g1
      exact g6 i (Ne.symm hj) (by rw [hF]; exact List.mem_cons_of_mem _ (hG b m))
  exact .part (hy.keep im fun b m => upd_ne (naG b m)) no (fun b m => r.inB i b (by rw [hF]; exact List.mem_cons_of_mem _ (hG b m))) (fr.trans fr2) r2
theorem tD_pop {K : PySem.W.Frag} {E : WX} {i : Nat} (σ : St) (H : Hp) (Q : VK) (h : tD K E (popM i) σ H Q) : tBM0 K "list" rPop (tVar i) σ H Q := by
  obtain ⟨P, B, ia, s, Fs, R, w⟩ := h
  unfold popM at w
  split at w
  · rename_i o ds e
    split at w
    · exact w.elim
    · rename_i ho
      split at w
      · rename_i d ed
        obtain ⟨a, F, k1, k2, k3, k4, k5, k6⟩ := R.own i o _ e ho
        cases k3 with
        | @lst _ _ vs _ m1 m2 =>
          obtain ⟨v, G, g1, g2, g3⟩ := m2.get ed
          obtain ⟨F', f1, f2⟩ := m2.dropLast
          refine ⟨.ref a, k1, .inl ⟨rfl, vs, SqL.of m1⟩, a, vs, v, rfl, rfl, m1, by rw [← m2.length]; exact g1, w v _ (R.less Fr.refl e ho k1 k2 (fun H' i f ha => .lst ha (Reps.keep i f1 fun b m => f b fun z => k4 (by rw [← z]; exact f2 b m))) f2 g2 g3)⟩
      · exact w.elim
  · exact w.elim
theorem dm_pop {X : Cx} {E : WX} {e : Expr} {i : Nat} (h : PE X e (tBM0 X.K "list" rPop (tVar i))) : PE X e (tD X.K E (popM i)) := h.imp tD_pop
def popAtM (i : Nat) (f : M (Bool × D)) : M (Bool × D) := fun s => if isLst s i = true then (f s).bind fun y s1 => (match s1[i]?, y.2 with
  | some (some (o, .lst ds)), .int k => if o = .sh then .stuck else if -(2 ^ 63) ≤ k ∧ k < 2 ^ 63 then (match seqIndex? k ds.length with
    | some j => (match ds[j]? with
      | some d => .ok (false, d) (s1.set i (some (o, .lst (ds.eraseIdx j))))
      | none => .stuck)
    | none => .stuck) else .stuck
  | _, _ => .stuck) else .stuck
theorem tD_popAt {K : PySem.W.Frag} {E : WX} {i : Nat} {f : M (Bool × D)} (σ : St) (H : Hp) (Q : VK) (h : tD K E (popAtM i f) σ H Q) : tBM K "list" rPopAt (tVar i) (tCons (tD K E f) tNil) σ H Q := by
  obtain ⟨P, B, ia, s, Fs, R, w⟩ := h
  unfold popAtM at w
  split at w
  · rename_i hl
    obtain ⟨o, ds, e⟩ := isLst_inv hl
    obtain ⟨v, F0, hv, ov⟩ := R.opd e
    obtain ⟨a, vs, G0, rfl, h1, h2, _, _⟩ := ov.lst_inv
    refine ⟨.ref a, hv, .inl ⟨rfl, vs, SqL.of h1⟩, P, B, ia, s, Fs, R, (Post.bind w).mono (fun _ _ q => q) fun y s1 q u H1 rv => ?_⟩
    obtain ⟨G, Fs1, g1, g2, g3, g4, g5⟩ := rv
    split at q
    · rename_i o1 ds1 k e1 e2
      split at q
      · exact q.elim
      · rename_i ho
        split at q
        · rename_i hk
          split at q
          · rename_i j ej
            split at q
            · rename_i d ed
              obtain ⟨a', F, k1, k2, k3, k4, k5, k6⟩ := g4.own i o1 _ e1 ho
              rw [hv] at k1; cases k1
              cases k3 with
              | @lst _ _ vs1 _ m1 m2 =>
                obtain ⟨v', G', q1, q2, q3⟩ := m2.get ed
                obtain ⟨F', f1, f2⟩ := m2.erase j
                have eu : u = .int k := by rw [e2] at g1; cases g1; rfl
                exact ⟨a, vs1, k, j, v', rfl, by rw [eu], m1, hk.1, hk.2, by rw [← m2.length]; exact ej, q1, q v' _ ((g4.weak fun b m => .inl m).less g2 e1 ho hv k2 (fun H' i f ha => .lst ha (Reps.keep i f1 fun b m => f b fun z => k4 (by rw [← z]; exact f2 b m))) f2 q2 q3)⟩
            · exact q.elim
          · exact q.elim
        · exact q.elim
    · exact q.elim
  · exact w.elim
theorem dm_popAt {X : Cx} {E : WX} {e : Expr} {i : Nat} {f : M (Bool × D)} (h : PE X e (tBM X.K "list" rPopAt (tVar i) (tCons (tD X.K E f) tNil))) : PE X e (tD X.K E (popAtM i f)) := h.imp tD_popAt

/-! ### x[k] = e at a slot: a list, a dict -/
def kput (kds : List (Key × D)) (k : Key) (d : D) : List (Key × D) := if kds.any (fun q => decide (q.1 = k)) then kds.map (fun q => if q.1 = k then (q.1, d) else q) else kds ++ [(k, d)]
theorem RepK.any {K : PySem.W.Frag} {H : Hp} {k : Key} : ∀ {kds : List (Key × D)} {kvs : List (Key × V)} {F : List Addr}, RepK K H kds kvs F → kds.any (fun q => decide (q.1 = k)) = kvs.any (fun q => decide (q.1 = k))
  | [], _, _, h => by cases h; rfl
  | (k', d) :: ds, _, _, h => by
    cases h with
    | cons h1 h2 => simp [RepK.any h2]
theorem RepK.mapk {K : PySem.W.Frag} {H : Hp} {k : Key} {y : D} {v : V} {G : List Addr} (hy : Rep K H y v G) : ∀ {kds : List (Key × D)} {kvs : List (Key × V)} {F : List Addr}, RepK K H kds kvs F →
    ∃ F', RepK K H (kds.map fun q => if q.1 = k then (q.1, y) else q) (kvs.map fun q => if q.1 = k then (q.1, v) else q) F' ∧ ∀ b, b ∈ F' → b ∈ F ∨ b ∈ G
  | [], _, _, h => by cases h; exact ⟨[], .nil, fun _ m => nomatch m⟩
  | (k', d) :: ds, _, _, h => by
    cases h with
    | @cons _ _ w F1 _ vs F2 h1 h2 =>
      obtain ⟨F', e1, e2⟩ := RepK.mapk (k := k) hy h2
      by_cases hk : k' = k
      · refine ⟨G ++ F', ?_, fun b m => ?_⟩
        · simp only [List.map_cons, if_pos hk]; exact .cons hy e1
        · rcases List.mem_append.mp m with m | m
          · exact .inr m
          · exact (e2 b m).imp (fun m => List.mem_append_right _ m) fun m => m
      · refine ⟨F1 ++ F', ?_, fun b m => ?_⟩
        · simp only [List.map_cons, if_neg hk]; exact .cons h1 e1
        · rcases List.mem_append.mp m with m | m
          · exact .inl (List.mem_append_left _ m)
          · exact (e2 b m).imp (fun m => List.mem_append_right _ m) fun m => m
theorem RepK.app {K : PySem.W.Frag} {H : Hp} {k : Key} {y : D} {v : V} {G : List Addr} (hy : Rep K H y v G) : ∀ {kds : List (Key × D)} {kvs : List (Key × V)} {F : List Addr}, RepK K H kds kvs F → RepK K H (kds ++ [(k, y)]) (kvs ++ [(k, v)]) (F ++ G)
  | [], _, _, h => by
    cases h
    have := RepK.cons (k := k) hy (RepK.nil (K := K) (H := H))
    simpa using this
  | (k', d) :: ds, _, _, h => by
    cases h with
    | cons h1 h2 =>
      rw [List.append_assoc]
      exact .cons h1 (RepK.app hy h2)
theorem RepK.put {K : PySem.W.Frag} {H : Hp} {k : Key} {y : D} {v : V} {G : List Addr} (hy : Rep K H y v G) {kds : List (Key × D)} {kvs : List (Key × V)} {F : List Addr} (h : RepK K H kds kvs F) : ∃ F', RepK K H (kput kds k y) (putK kvs k v) F' ∧ ∀ b, b ∈ F' → b ∈ F ∨ b ∈ G := by
  unfold kput putK
  rw [h.any]
  split
  · exact RepK.mapk hy h
  · exact ⟨F ++ G, RepK.app hy h, fun b m => List.mem_append.mp m⟩
def isBox (s : S) (i : Nat) : Bool := match s[i]? with
  | some (some (_, .lst _)) => true
  | some (some (_, .dct _)) => true
  | _ => false
/-- what stands behind x[k] = y -/
def setD (x k y : D) : Option D := match x with
  | .lst ds => (match k with
    | .int j => (ixN ds.length j).map fun j => .lst (ds.set j y)
    | _ => none)
  | .dct kds => k.key.bind fun k => if kds.length < sizeLine then some (.dct (kput kds k y)) else none
  | _ => none
def setItM (i : Nat) (k f : M (Bool × D)) : M Fl := fun s => (f s).bind fun y s1 => if isBox s1 i = true then (k s1).bind fun kk s2 => (match s2[i]? with
  | some (some (o, x)) => if o = .sh then .stuck else (match setD x kk.2 y.2 with
    | some x' => .ok .nx (s2.set i (some (o, x')))
    | none => .stuck)
  | _ => .stuck) else .stuck
theorem Reps.set {K : PySem.W.Frag} {H : Hp} {y : D} {v : V} {G : List Addr} (hy : Rep K H y v G) : ∀ {ds : List D} {vs : List V} {F : List Addr} (j : Nat), Reps K H ds vs F → ∃ F', Reps K H (ds.set j y) (vs.set j v) F' ∧ ∀ b, b ∈ F' → b ∈ F ∨ b ∈ G
  | [], _, _, j, h => by cases h; exact ⟨[], by simpa using Reps.nil, fun _ m => nomatch m⟩
  | d :: ds, _, _, 0, h => by
    cases h with
    | cons h1 h2 => exact ⟨_, .cons hy h2, fun b m => (List.mem_append.mp m).elim .inr fun m => .inl (List.mem_append_right _ m)⟩
  | d :: ds, _, _, j + 1, h => by
    cases h with
    | @cons _ w F1 _ vs F2 h1 h2 =>
      obtain ⟨F', e1, e2⟩ := Reps.set hy j h2
      refine ⟨F1 ++ F', .cons h1 e1, fun b m => ?_⟩
      rcases List.mem_append.mp m with m | m
      · exact .inl (List.mem_append_left _ m)
      · exact (e2 b m).imp (fun m => List.mem_append_right _ m) fun m => m
/-- the two rules' readings -/
def rSetA (ti te : TE) (i : Nat) : TS := fun Dn σ H => tAsg te (gSub (tVar i) ti rSetL) Dn σ H ∨ sDPut (tVar i) ti te Dn σ H
theorem tS_setIt {K : PySem.W.Frag} {E : WX} {i : Nat} {k f : M (Bool × D)} (Dn : Ends) (σ : St) (H : Hp) (h : tS K E (setItM i k f) Dn σ H) : rSetA (tD K E k) (tD K E f) i Dn σ H := by
  obtain ⟨P, B, ia, s, Fs, R, w⟩ := h
  unfold setItM at w
  -- one end for both kinds
  have fin : ∀ {y : Bool × D} {s1 s2 : S} {H1 H2 : Hp} {u kv : V} {G Gk : List Addr} {Fs1 Fs2 : Nat → List Addr} {kk : Bool × D} {o : Own} {x x' : D} {a : Addr}, Rep K H1 y.2 u G → Fr P H H1 → (∀ a, a ∈ G → B a) → Fr (fun b => P b ∨ b ∈ G) H1 H2 → SR K (fun b => (P b ∨ b ∈ G) ∨ b ∈ Gk) B ia s2 σ H2 Fs2 →
      s2[i]? = some (some (o, x)) → o ≠ .sh → setD x kk.2 y.2 = some x' → Rep K H2 kk.2 kv Gk → σ[i]? = some (some (V.ref a)) → SPd K P B ia H Dn .nx (s2.set i (some (o, x'))) →
      (∃ ds vs j z, x = .lst ds ∧ H2 a = some (.lst vs) ∧ kv = .int z ∧ ixN vs.length z = some j ∧ Dn.nx σ (upd H2 a (.lst (vs.set j u)))) ∨ (∃ kds kvs kx, x = .dct kds ∧ H2 a = some (.dK kvs) ∧ kv = kV kx ∧ kvs.length < sizeLine ∧ Dn.nx σ (upd H2 a (.dK (putK kvs kx u)))) := by
    intro y s1 s2 H1 H2 u kv G Gk Fs1 Fs2 kk o x x' a hy f1 hb f2 r2 e ho es hk hv q
    have hy2 : Rep K H2 y.2 u G := hy.keep f2.i fun b m => f2.p b (.inr m)
    obtain ⟨a', F, k1, k2, k3, k4, k5, k6⟩ := r2.own i o x e ho
    rw [hv] at k1; cases k1
    have r3 : SR K (fun b => P b ∨ b ∈ G) B ia s2 σ H2 Fs2 := r2.weak fun b m => .inl m
    have f12 : Fr P H H2 := f1.trans (f2.mono fun b m => .inl m)
    cases k3 with
    | @lst _ ds vs _ m1 m2 =>
      left
      simp only [setD] at es
      split at es
      · rename_i z hz
        obtain ⟨j, e1, e2⟩ := Option.map_eq_some_iff.mp es
        subst e2
        rw [hz] at hk
        cases hk
        obtain ⟨F', g1, g2⟩ := m2.set hy2 j
        refine ⟨ds, vs, j, z, rfl, m1, rfl, by rw [← m2.length]; exact e1, ?_⟩
        have na : a ∉ F' := fun m => (g2 a m).elim k4 fun m => k5 (.inl (.inr m))
        have im : ∀ b o, H2 b = some o → Im o → upd H2 a (.lst (vs.set j u)) b = some o := fun b o hb hi => by rw [upd_ne fun e => by subst e; rw [m1] at hb; cases hb; exact hi]; exact hb
        obtain ⟨r4, f4⟩ := r3.write e ho hv k2 (RepM.lst (K := K) (H := upd H2 a (.lst (vs.set j u))) upd_same (Reps.keep im g1 fun b m => upd_ne fun z => na (z ▸ m))) g2 hb
        exact q σ _ _ (f12.trans f4) r4
      · cases es
    | @dct _ kds kvs _ m1 m2 =>
      right
      simp only [setD] at es
      obtain ⟨kx, e1, e2⟩ := Option.bind_eq_some_iff.mp es
      split at e2
      · rename_i hz
        cases e2
        obtain ⟨F', g1, g2⟩ := RepK.put (k := kx) hy2 m2
        refine ⟨kds, kvs, kx, rfl, m1, hk.key e1, by rw [← m2.length]; exact hz, ?_⟩
        have na : a ∉ F' := fun m => (g2 a m).elim k4 fun m => k5 (.inl (.inr m))
        have im : ∀ b o, H2 b = some o → Im o → upd H2 a (.dK (putK kvs kx u)) b = some o := fun b o hb hi => by rw [upd_ne fun e => by subst e; rw [m1] at hb; cases hb; exact hi]; exact hb
        obtain ⟨r4, f4⟩ := r3.write e ho hv k2 (RepM.dct (K := K) (H := upd H2 a (.dK (putK kvs kx u))) upd_same (RepK.keep im g1 fun b m => upd_ne fun z => na (z ▸ m))) g2 hb
        exact q σ _ _ (f12.trans f4) r4
      · cases e2
    | dcl _ _ => cases es
    | dnt _ _ => cases es
  have w' := Post.bind w
  cases ef : f s with
  | stuck => rw [ef] at w'; exact w'.elim
  | exc x s1 =>
    rw [ef] at w'
    exact .inl ⟨P, B, ia, s, Fs, R, by rw [ef]; exact w'.to⟩
  | ok y s1 =>
    rw [ef] at w'
    simp only [Post.ok] at w'
    split at w'
    · rename_i hbx
      cases ek : k s1 with
      | stuck => rw [ek] at w'; exact w'.elim
      | exc x s2 =>
        rw [ek] at w'
        -- the box's kind tells the rule
        unfold isBox at hbx
        split at hbx
        · rename_i o ds e1
          left
          refine ⟨P, B, ia, s, Fs, R, ?_⟩
          rw [ef]
          intro u H1 rv
          obtain ⟨G, Fs1, g1, g2, g3, g4, g5⟩ := rv
          obtain ⟨v, F0, hv, ov⟩ := g4.opd e1
          exact ⟨v, hv, _, B, ia, s1, Fs1, g4, by rw [ek]; exact fun cls dx H2 rx => w' σ cls dx H2 (rx.weak g2 fun b m => .inl m)⟩
        · rename_i o ds e1
          left
          refine ⟨P, B, ia, s, Fs, R, ?_⟩
          rw [ef]
          intro u H1 rv
          obtain ⟨G, Fs1, g1, g2, g3, g4, g5⟩ := rv
          obtain ⟨v, F0, hv, ov⟩ := g4.opd e1
          exact ⟨v, hv, _, B, ia, s1, Fs1, g4, by rw [ek]; exact fun cls dx H2 rx => w' σ cls dx H2 (rx.weak g2 fun b m => .inl m)⟩
        · cases hbx
      | ok kk s2 =>
        rw [ek] at w'
        simp only [Res.bind_ok] at w'
        split at w'
        · rename_i o x e2
          split at w'
          · exact w'.elim
          · rename_i ho
            split at w'
            · rename_i x' ex
              have live : ∃ o' d', s1[i]? = some (some (o', d')) := by
                unfold isBox at hbx
                split at hbx
                · rename_i o' ds e1; exact ⟨_, _, e1⟩
                · rename_i o' ds e1; exact ⟨_, _, e1⟩
                · cases hbx
              obtain ⟨o', d', e1⟩ := live
              cases x with
              | lst ds =>
                left
                refine ⟨P, B, ia, s, Fs, R, ?_⟩
                rw [ef]
                intro u H1 rv
                obtain ⟨G, Fs1, g1, g2, g3, g4, g5⟩ := rv
                obtain ⟨v, F0, hv, ov⟩ := g4.opd e1
                refine ⟨v, hv, _, B, ia, s1, Fs1, g4, ?_⟩
                rw [ek]
                intro kv H2 rv2
                obtain ⟨Gk, Fs2, k1, k2, k3, k4, k5⟩ := rv2
                obtain ⟨a, F, q1, q2, q3, _⟩ := k4.own i o _ e2 ho
                rw [hv] at q1; cases q1
                rcases fin (s1 := s1) (Fs1 := Fs1) g1 g2 g3 k2 k4 e2 ho ex k1 hv w' with ⟨ds, vs, j, z, _, m1, m2, m3, m4⟩ | ⟨_, _, _, m1, _⟩
                · exact ⟨a, vs, z, j, rfl, m2, m1, m3, m4⟩
                · cases m1
              | dct kds =>
                right
                refine ⟨P, B, ia, s, Fs, R, ?_⟩
                rw [ef]
                intro u H1 rv
                obtain ⟨G, Fs1, g1, g2, g3, g4, g5⟩ := rv
                obtain ⟨v, F0, hv, ov⟩ := g4.opd e1
                refine ⟨v, hv, _, B, ia, s1, Fs1, g4, ?_⟩
                rw [ek]
                intro kv H2 rv2
                obtain ⟨Gk, Fs2, k1, k2, k3, k4, k5⟩ := rv2
                obtain ⟨a, F, q1, q2, q3, _⟩ := k4.own i o _ e2 ho
                rw [hv] at q1; cases q1
                rcases fin (s1 := s1) (Fs1 := Fs1) g1 g2 g3 k2 k4 e2 ho ex k1 hv w' with ⟨_, _, _, _, m1, _⟩ | ⟨kds, kvs, kx, _, m1, m2, m3, m4⟩
                · cases m1
                · exact ⟨a, _, rfl, .inl ⟨kvs, kx, m1, m2, m3, rfl⟩, m4⟩
              | _ => simp [setD] at ex
            · exact w'.elim
        · exact w'.elim
    · exact w'.elim
theorem PS.or {X : Cx} {st : Stmt} {t t' : TS} (h : PS X st t) (h' : PS X st t') : PS X st (fun Dn σ H => t Dn σ H ∨ t' Dn σ H) := ⟨fun pins s σ H Dn I w => w.elim (h.run pins s σ H Dn I) (h'.run pins s σ H Dn I)⟩
/-- h1: ps_asg he (pg_sub (pv i) hk set_list); h2: ps_dput hu (pv i) hk he rfl -/
theorem ds_setIt {X : Cx} {E : WX} {st : Stmt} {i : Nat} {k f : M (Bool × D)} (h1 : PS X st (tAsg (tD X.K E f) (gSub (tVar i) (tD X.K E k) rSetL))) (h2 : PS X st (sDPut (tVar i) (tD X.K E k) (tD X.K E f))) : PS X st (tS X.K E (setItM i k f)) := (PS.or h1 h2).imp tS_setIt

/-! ### dict displays -/
def flat2 : List (M (Bool × D) × M (Bool × D)) → List (M (Bool × D))
  | [] => []
  | (k, v) :: r => k :: v :: flat2 r
/-- keys and values in a row, as pairs -/
def kpairs : List D → Option (List (Key × D))
  | [] => some []
  | k :: d :: r => k.key.bind fun kk => (kpairs r).map fun ps => (kk, d) :: ps
  | _ => none
def kmerge (kds more : List (Key × D)) : List (Key × D) := more.foldl (fun acc q => kput acc q.1 q.2) kds
def dispM (ps : List (M (Bool × D) × M (Bool × D))) : M (Bool × D) := opsM ((flat2 ps).map .ex) fun ds s => match kpairs ds with
  | some kds => if kds.length ≤ 15 then .ok (true, .dct (kmerge [] kds)) s else .stuck
  | none => .stuck
theorem rdOs_mono {K : PySem.W.Frag} {E : WX} : ∀ {os : List Opd} {σ : St} {H : Hp} {Q Q' : List V → Hp → Prop}, rdOs K E os σ H Q → (∀ vs H, Q vs H → Q' vs H) → rdOs K E os σ H Q'
  | [], σ, H, Q, Q', h, q => q _ _ h
  | o :: os, σ, H, Q, Q', h, q => rdO_mono (o := o) h fun x H1 h1 => rdOs_mono (os := os) h1 fun vs H2 h2 => q _ _ h2
theorem tPairs_of {K : PySem.W.Frag} {E : WX} : ∀ {ps : List (M (Bool × D) × M (Bool × D))} {σ : St} {H : Hp} {Q : List (V × V) → Hp → Prop}, rdOs K E ((flat2 ps).map .ex) σ H (fun vs H' => ∀ qs : List (V × V), vs = qs.flatMap (fun q => [q.1, q.2]) → Q qs H') → tPairs (ps.map fun p => (tD K E p.1, tD K E p.2)) σ H Q
  | [], σ, H, Q, h => h [] rfl
  | (k, v) :: r, σ, H, Q, h => by
    refine tD_mono h fun x H1 h1 => tD_mono h1 fun y H2 h2 => tPairs_of ?_
    exact rdOs_mono h2 fun vs H' q qs e => q ((x, y) :: qs) (by rw [e]; rfl)
theorem Rep.keyF {K : PySem.W.Frag} {H : Hp} {d : D} {v : V} {F : List Addr} {k : Key} (h : Rep K H d v F) (e : d.key = some k) : F = [] := by
  cases h <;> cases e <;> rfl
/-- pairs by their representation -/
theorem kpairs_rep {K : PySem.W.Frag} {H : Hp} : ∀ {ds : List D} {vs : List V} {F : List Addr} {kds : List (Key × D)}, Reps K H ds vs F → kpairs ds = some kds →
    ∃ kvs : List (Key × V), vs = kvs.flatMap (fun q => [kV q.1, q.2]) ∧ RepK K H kds kvs F
  | [], _, _, _, h, e => by cases h; cases e; exact ⟨[], rfl, .nil⟩
  | [_], _, _, _, h, e => by simp [kpairs] at e
  | k :: d :: r, _, _, _, h, e => by
    rw [kpairs] at e
    obtain ⟨kk, e1, e2⟩ := Option.bind_eq_some_iff.mp e
    obtain ⟨ps, e3, e4⟩ := Option.map_eq_some_iff.mp e2
    subst e4
    cases h with
    | @cons _ v1 F1 _ _ G1 h1 h2 =>
      cases h2 with
      | @cons _ v2 F2 _ _ G2 h3 h4 =>
        obtain ⟨kvs, g1, g2⟩ := kpairs_rep h4 e3
        have ek := h1.key e1
        have f1 : F1 = [] := h1.keyF e1
        subst ek
        subst f1
        exact ⟨(kk, v2) :: kvs, by rw [g1]; rfl, by simpa using RepK.cons (k := kk) h3 g2⟩
theorem RepK.merge {K : PySem.W.Frag} {H : Hp} : ∀ {more : List (Key × D)} {moreV : List (Key × V)} {G : List Addr} {kds : List (Key × D)} {kvs : List (Key × V)} {F : List Addr}, RepK K H more moreV G → RepK K H kds kvs F →
    ∃ F', RepK K H (kmerge kds more) (mergeK kvs moreV) F' ∧ ∀ b, b ∈ F' → b ∈ F ∨ b ∈ G
  | [], _, _, _, _, F, h, h' => by cases h; exact ⟨F, h', fun b m => .inl m⟩
  | (k, d) :: more, _, _, _, _, _, h, h' => by
    cases h with
    | cons h1 h2 =>
      obtain ⟨F1, e1, e2⟩ := RepK.put (k := k) h1 h'
      obtain ⟨F2, g1, g2⟩ := RepK.merge h2 e1
      exact ⟨F2, g1, fun b m => (g2 b m).elim (fun m => (e2 b m).imp (fun m => m) fun m => List.mem_append_left _ m) fun m => .inr (List.mem_append_right _ m)⟩
theorem flatMap_inj2 : ∀ {qs : List (V × V)} {kvs : List (Key × V)}, qs.flatMap (fun q => [q.1, q.2]) = kvs.flatMap (fun q => [kV q.1, q.2]) → qs = kvs.map fun q => (kV q.1, q.2)
  | [], [], _ => rfl
  | [], _ :: _, h => by simp at h
  | _ :: _, [], h => by simp at h
  | (a, b) :: qs, (k, v) :: kvs, h => by
    simp only [List.flatMap_cons, List.cons_append, List.nil_append, List.cons.injEq] at h
    obtain ⟨h1, h2, h3⟩ := h
    subst h1 h2
    rw [List.map_cons, flatMap_inj2 h3]
theorem tD_disp {K : PySem.W.Frag} {E : WX} {ps : List (M (Bool × D) × M (Bool × D))} (σ : St) (H : Hp) (Q : VK) (h : tD K E (dispM ps) σ H Q) : tDisp (ps.map fun p => (tD K E p.1, tD K E p.2)) σ H Q := by
  obtain ⟨P, B, ia, s, Fs, r, w⟩ := h
  intro p np
  have f0 : Fr P H (upd H p (.dK [])) := Fr.new np r.tr
  -- the new dict is protected while the pairs are made, and in nothing that they make
  have r1 : SR K (fun b => P b ∨ b ∈ [p]) (fun b => B b ∧ b ≠ p) ia s σ (upd H p (.dK [])) Fs := by
    have r0 := (r.new np (o := .dK [])).prot (F := [p]) (fun a m => by rw [List.mem_singleton.mp m, upd_same]; simp) (fun i o d a e n x m => by rw [List.mem_singleton.mp m] at x; exact r.ownTr e n x np)
    exact ⟨r0.len, r0.rep, r0.own, r0.iov, r0.dead, fun j a m => ⟨r0.inB j a m, fun e => r.trF m (e ▸ np)⟩, r0.tr, fun b q => ⟨r0.nb b q, fun e => by rw [e, upd_same] at q; cases q⟩⟩
  refine tPairs_of (rdOps (α := Bool × D) r1 w (fun x s' q cls dx H' rx => ?_) fun ds s' vs H' Gs Fs' q ov fr r' => ?_)
  · obtain ⟨Fs', h1, h2, h3⟩ := rx
    exact q cls dx H' ⟨Fs', f0.trans (h1.mono fun b m => .inl m), ⟨h2.len, h2.rep, fun i o d e n => let ⟨a, F, k1, k2, k3, k4, k5, k6⟩ := h2.own i o d e n; ⟨a, F, k1, k2, k3, k4, fun m => k5 (.inl m), k6⟩, h2.iov, h2.dead, fun j a m => (h2.inB j a m).1, fun b m => h2.tr b (.inl m), fun b m => (h2.nb b m).1⟩, h3⟩
  · intro qs eq
    split at q
    · rename_i kds ek
      split at q
      · rename_i hl
        obtain ⟨G, g1, g2, g3⟩ := ov.reps (allEx _)
        obtain ⟨kvs, k1, k2⟩ := kpairs_rep g1 ek
        obtain ⟨F', m1, m2⟩ := RepK.merge k2 (RepK.nil (K := K) (H := H'))
        have hp : H' p = some (.dK []) := (fr.p p (.inr List.mem_cons_self)).trans upd_same
        have m3 : ∀ b, b ∈ F' → b ∈ G := fun b m => (m2 b m).elim (fun m => by cases m) fun m => m
        have np' : p ∉ F' := fun m => (g3 p (m3 p m)).2 rfl
        refine ⟨hp, kvs, flatMap_inj2 (eq.symm.trans k1), by rw [← k2.length]; exact hl, q (.ref p) _ ?_⟩
        have im : ∀ b o, H' b = some o → Im o → upd H' p (.dK (mergeK [] kvs)) b = some o := fun b o hb hi => by rw [upd_ne fun e => by subst e; rw [hp] at hb; cases hb; exact hi]; exact hb
        have rm : RepM K (upd H' p (.dK (mergeK [] kvs))) (.dct (kmerge [] kds)) p F' := .dct upd_same (RepK.keep im m1 fun b m => upd_ne fun z => np' (z ▸ m))
        have fr2 : Fr P H (upd H' p (.dK (mergeK [] kvs))) := ⟨fun b hb => by
            have hbp : b ≠ p := fun e => r.tr b hb (by rw [e]; exact np)
            rw [upd_ne hbp]
            exact (fr.p b (.inl hb)).trans (upd_ne hbp), fun b o hb hi => im b o (fr.i b o (by rw [upd_ne (ne_of_none hb np)]; exact hb) hi) hi⟩
        have npF : ∀ j, p ∉ Fs' j := fun j m => (r'.inB j p m).2 rfl
        have r2 : SR K P B ia s' σ (upd H' p (.dK (mergeK [] kvs))) Fs' := by
          refine ⟨r'.len, fun j o d e => let ⟨v, h1, h2⟩ := r'.rep j o d e; ⟨v, h1, h2.keep im fun a m => upd_ne fun z => npF j (z ▸ m)⟩,
            fun j o d e n => let ⟨a, F, h1, h2, h3, h4, h5, h6⟩ := r'.own j o d e n; ⟨a, F, h1, h2, h3.keep im fun b m => upd_ne fun z => npF j (by rw [h2]; exact z ▸ m), h4, fun m => h5 (.inl m), h6⟩, r'.iov, r'.dead, fun j a m => (r'.inB j a m).1, fun b m => ?_, fun b m => ?_⟩
          · by_cases hb : b = p
            · subst hb; rw [upd_same]; simp
            · rw [upd_ne hb]; exact r'.tr b (.inl m)
          · by_cases hb : b = p
            · subst hb; rw [upd_same] at m; cases m
            · rw [upd_ne hb] at m; exact (r'.nb b m).1
        have no : NoOwn s' σ (p :: F') := by
          intro j o d a e n x m
          rcases List.mem_cons.mp m with rfl | m
          · obtain ⟨a', F, h1, h2, h3, h4, h5, h6⟩ := r'.own j o d e n
            rw [x] at h1; cases h1
            exact h5 (.inr List.mem_cons_self)
          · exact g2 j o d a e n x (m3 a m)
        refine ⟨p :: F', Fs', rm.rep, fr2, fun b m => ?_, r2.prot rm.rep.tr no, fun _ => ⟨p, F', rfl, rfl, rm, np', fun q => r.tr p q np, npF⟩⟩
        rcases List.mem_cons.mp m with rfl | m
        · exact r.nb _ np
        · exact (g3 b (m3 b m)).1
      · exact q.elim
    · exact q.elim
/-- {k: v, ..}; h: pe_disp (pps_cons ..) .. -/
theorem dm_disp {X : Cx} {E : WX} {e : Expr} {ps : List (M (Bool × D) × M (Bool × D))} (h : PE X e (tDisp (ps.map fun p => (tD X.K E p.1, tD X.K E p.2)))) : PE X e (tD X.K E (dispM ps)) := h.imp tD_disp
/-- {} -/
def emptyM : M (Bool × D) := fun s => .ok (true, .dct []) s
theorem de_dict0 {X : Cx} {E : WX} {pos : Pos} : PE X (.Dict [] [] pos) (tD X.K E emptyM) := pe_dnewK.imp fun σ H Q h => by
  obtain ⟨P, B, ia, s, Fs, r, w⟩ := h
  intro p np
  have rm : RepM X.K (upd H p (.dK [])) (.dct []) p [] := .dct upd_same .nil
  exact w (.ref p) _ ⟨[p], Fs, rm.rep, Fr.new np r.tr, fun b m => by rw [List.mem_singleton.mp m]; exact r.nb _ np, (r.new np).prot rm.rep.tr (NoOwn.cons r np .nil), fun _ => ⟨p, [], rfl, rfl, rm, nofun, fun q => r.tr p q np, fun j m => r.trF m np⟩⟩
end PV

/-! PV: list comprehensions; dict.get; methods of texts. -/
namespace PV
open PySem PySem.Spec L2

def killAll (s : S) : List Nat → S
  | [] => s
  | i :: is => (killAll s is).set i none
def nox {α : Type} (r : Res α) : Res α := match r with
  | .exc _ _ => .stuck
  | r => r
def lcL (t : Tg) (tt : M Bool) (te : M (Bool × D)) (vs : List Nat) : List D → List D → S → Res (List D)
  | [], acc, s => .ok acc s
  | d :: ds, acc, s => match t.put d s with
    | none => .stuck
    | some s1 => (nox (tt s1)).bind fun b s2 => if b = true then (nox (te s2)).bind fun y s3 => if acc.length < sizeLine then lcL t tt te vs ds (acc ++ [y.2]) (killAll s3 vs) else .stuck
      else lcL t tt te vs ds acc (killAll s2 vs)
/-- [te for t in it if tt]; vs: the slots of the comprehension's own names -/
def compM (it : M (List D)) (t : Tg) (tt : M Bool) (te : M (Bool × D)) (vs : List Nat) : M (Bool × D) := fun s => (it s).bind fun ds s1 => (lcL t tt te vs ds [] (killAll s1 vs)).bind fun acc s2 => .ok (true, .lst acc) s2
def yesM : M Bool := fun s => .ok true s
mutual
def Tg.slots : Tg → List Nat
  | .nm i => [i]
  | .tp ts => Tg.slotss ts
def Tg.slotss : List Tg → List Nat
  | [] => []
  | t :: ts => t.slots ++ Tg.slotss ts
end
theorem nox_post {α β : Type} {QX : Exn → S → Prop} {Q : β → S → Prop} {r : Res α} {f : α → S → Res β} (h : Post QX Q ((nox r).bind f)) : Post (fun _ _ => False) (fun a s => Post QX Q (f a s)) r := by
  cases r with
  | ok a s => exact h
  | exc x s => exact h
  | stuck => exact h
theorem killAll_len (s : S) : ∀ vs : List Nat, (killAll s vs).length = s.length
  | [] => rfl
  | v :: vs => by simp [killAll, killAll_len s vs]
theorem killAll_in {s : S} {i : Nat} : ∀ {vs : List Nat}, i ∈ vs → ∀ x, (killAll s vs)[i]? ≠ some (some x)
  | v :: vs, h, x => by
    rw [killAll]
    by_cases hv : i = v
    · subst hv
      intro e
      rw [List.getElem?_set] at e
      simp at e
    · rw [get_set_ne hv]
      rcases List.mem_cons.mp h with e | h
      · exact absurd e hv
      · exact killAll_in h x
theorem killAll_out {s : S} {i : Nat} : ∀ {vs : List Nat}, i ∉ vs → (killAll s vs)[i]? = s[i]?
  | [], _ => rfl
  | v :: vs, h => by
    rw [killAll, get_set_ne fun e => h (by rw [e]; exact List.mem_cons_self), killAll_out fun m => h (List.mem_cons_of_mem _ m)]
theorem wipe_in {σ : St} {i : Nat} (hi : i < σ.length) : ∀ {vs : List Nat}, i ∈ vs → (wipe σ vs)[i]? = some none
  | v :: vs, h => by
    rw [wipe]
    by_cases hv : i = v
    · subst hv
      rw [List.getElem?_set_self (by rw [wipe_length]; exact hi)]
    · rw [List.getElem?_set_ne fun e => hv e.symm]
      rcases List.mem_cons.mp h with e | h
      · exact absurd e hv
      · exact wipe_in hi h
theorem wipe_ext {σ σ2 : St} {vs : List Nat} (hl : σ2.length = σ.length) (h : ∀ j, j ∉ vs → σ2[j]? = σ[j]?) : wipe σ2 vs = wipe σ vs := by
  refine List.ext_getElem? fun j => ?_
  by_cases hj : j ∈ vs
  · by_cases hi : j < σ.length
    · rw [wipe_in (by rw [hl]; exact hi) hj, wipe_in hi hj]
    · rw [List.getElem?_eq_none (by rw [wipe_length, hl]; omega), List.getElem?_eq_none (by rw [wipe_length]; omega)]
  · rw [wipe_out hj, wipe_out hj, h j hj]
section
variable {K : PySem.W.Frag} {P B : Addr → Prop} {ia : Nat → Addr} {s : S} {σ σ' : St} {H H' : Hp} {Fs : Nat → List Addr}
/-- other values in slots that hold nothing -/
theorem SR.cong (r : SR K P B ia s σ H Fs) (hl : σ'.length = σ.length) (h : ∀ (i : Nat) (o : Own) (d : D), s[i]? = some (some (o, d)) → σ'[i]? = σ[i]?) : SR K P B ia s σ' H Fs :=
  ⟨by rw [hl]; exact r.len, fun i o d e => by rw [h i o d e]; exact r.rep i o d e, fun i o d e n => by rw [h i o d e]; exact r.own i o d e n, fun i d e => by rw [h i _ d e]; exact r.iov i d e, r.dead, r.inB, r.tr, r.nb⟩
theorem SR.killAll (r : SR K P B ia s σ H Fs) : ∀ vs : List Nat, ∃ Fs', SR K P B ia (PV.killAll s vs) σ H Fs' ∧ ∀ j a, a ∈ Fs' j → a ∈ Fs j
  | [] => ⟨Fs, r, fun _ _ m => m⟩
  | v :: vs => by
    obtain ⟨Fs', r', h⟩ := r.killAll vs
    by_cases hv : v < (PV.killAll s vs).length
    · refine ⟨_, r'.kill (List.getElem?_eq_getElem hv), fun j a m => ?_⟩
      by_cases hj : j = v
      · rw [if_pos hj] at m; cases m
      · rw [if_neg hj] at m; exact h j a m
    · refine ⟨Fs', ?_, h⟩
      rw [PV.killAll, List.set_eq_of_length_le (by omega)]
      exact r'
end
mutual
theorem put_ok2 {K : PySem.W.Frag} {P B : Addr → Prop} {ia : Nat → Addr} {H : Hp} : ∀ {t : Tg} {d : D} {s s' : S} {σ : St} {Fs : Nat → List Addr} {x : V} {F : List Addr} {Q : St → Hp → Prop}, t.put d s = some s' → SR K P B ia s σ H Fs → Rep K H d x F → (∀ a, a ∈ F → P a) → (∀ a, a ∈ F → B a) →
    (∀ σ' Fs', SR K P B ia s' σ' H Fs' → σ'.length = σ.length → (∀ j, j ∉ t.slots → σ'[j]? = σ[j]?) → Q σ' H) → gT K t x σ H Q
  | .nm i, d, s, s', σ, Fs, x, F, Q, h, r, hr, hp, hb, k => by
    rw [Tg.put] at h
    obtain ⟨y, e1, e2, e3⟩ := putS_inv h
    subst e3
    rw [gT]
    exact k _ _ (r.set hr (r.noOwn hp) hb e1 e2 (by decide) fun n => absurd rfl n) (by simp) fun j hj => List.getElem?_set_ne fun e => hj (by rw [Tg.slots, e]; exact List.mem_cons_self)
  | .tp ts, d, s, s', σ, Fs, x, F, Q, h, r, hr, hp, hb, k => by
    cases d with
    | tup ds =>
      rw [Tg.put] at h
      cases hr with
      | @tup a _ vs F h1 h2 =>
        rw [gT]
        exact ⟨a, vs, rfl, h1, by rw [← h2.length]; exact puts_len h, puts_ok2 h r h2 hp hb fun σ' Fs' r' l f => k σ' Fs' r' l fun j hj => f j (by rw [Tg.slots] at hj; exact hj)⟩
    | _ => simp [Tg.put] at h
theorem puts_ok2 {K : PySem.W.Frag} {P B : Addr → Prop} {ia : Nat → Addr} {H : Hp} : ∀ {ts : List Tg} {ds : List D} {s s' : S} {σ : St} {Fs : Nat → List Addr} {xs : List V} {F : List Addr} {Q : St → Hp → Prop}, Tg.puts ts ds s = some s' → SR K P B ia s σ H Fs → Reps K H ds xs F → (∀ a, a ∈ F → P a) → (∀ a, a ∈ F → B a) →
    (∀ σ' Fs', SR K P B ia s' σ' H Fs' → σ'.length = σ.length → (∀ j, j ∉ Tg.slotss ts → σ'[j]? = σ[j]?) → Q σ' H) → gTs K ts xs σ H Q
  | [], [], s, s', σ, Fs, xs, F, Q, h, r, hr, hp, hb, k => by
    cases hr
    rw [Tg.puts] at h; cases h
    rw [gTs]
    exact ⟨rfl, k σ Fs r rfl fun _ _ => rfl⟩
  | [], _ :: _, _, _, _, _, _, _, _, h, _, _, _, _, _ => by simp [Tg.puts] at h
  | _ :: _, [], _, _, _, _, _, _, _, h, _, _, _, _, _ => by simp [Tg.puts] at h
  | t :: ts, d :: ds, s, s', σ, Fs, xs, F, Q, h, r, hr, hp, hb, k => by
    rw [Tg.puts] at h
    obtain ⟨s1, e1, e2⟩ := Option.bind_eq_some_iff.mp h
    cases hr with
    | @cons _ v F1 _ vs G h1 h2 =>
      rw [gTs]
      refine ⟨v, vs, rfl, put_ok2 e1 r h1 (fun a m => hp a (List.mem_append_left _ m)) (fun a m => hb a (List.mem_append_left _ m)) fun σ1 Fs1 r1 l1 f1 => ?_⟩
      refine puts_ok2 e2 r1 h2 (fun a m => hp a (List.mem_append_right _ m)) (fun a m => hb a (List.mem_append_right _ m)) fun σ2 Fs2 r2 l2 f2 => k σ2 Fs2 r2 (l2.trans l1) fun j hj => ?_
      rw [Tg.slotss] at hj
      rw [f2 j fun m => hj (List.mem_append_right _ m), f1 j fun m => hj (List.mem_append_left _ m)]
end
abbrev EN : WX := fun _ _ _ _ => False
/-- what a comprehension's walk is to reach -/
def LcW (J : It) (g : TG) (tt : TT) (te : TE) (vs : List Nat) (σ : St) (Q : VK) (D : Addr) (H1 : Hp) : Prop := ∃ W : Nat → Nat → Hp → Prop, (∃ m, W 0 m (upd H1 D (.lst []))) ∧ ∀ i m H, W i m H →
  (J.stop i H ∧ Q (.ref D) H) ∨ (J.go i H ∧ ∃ Nx : Hp → Prop, (∀ H', Nx H' → ∃ m', m' < m ∧ W (i + 1) m' H') ∧ ∀ x H', J.yld i H x H' → g x (wipe σ vs) H' fun σ2 H2 => wipe σ2 vs = wipe σ vs ∧ tt σ2 H2 fun b H3 =>
    if b = true then te σ2 H3 fun y H4 => ∃ acc, H4 D = some (.lst acc) ∧ acc.length < sizeLine ∧ Nx (upd H4 D (.lst (acc ++ [y]))) else Nx H3)
theorem lc_walk {K : PySem.W.Frag} {E : WX} {t : Tg} {tt : M Bool} {te : M (Bool × D)} {vs : List Nat} (hs : ∀ i, i ∈ t.slots → i ∈ vs) {σ : St} {H : Hp} {Q : VK} {P B P' : Addr → Prop} {ia : Nat → Addr} {s1 : S} {Fs1 : Nat → List Addr} {H1 : Hp} {ds : List D} {J : It}
    (hP : ∀ b, P b → P' b) (fr1 : Fr P H H1) (r1 : SR K P' B ia s1 σ H1 Fs1) (ok : ItOK K P' B J ds H1) (q : Post (fun x s' => ∀ cls dx H', RX K P B ia s' σ H H' x cls dx → E cls dx σ H') (fun acc s2 => ∀ v H', RV K P B ia s2 σ H H' true (.lst acc) v → Q v H') (lcL t tt te vs ds [] (killAll s1 vs))) (p : Addr) (np : H1 p = none) :
    LcW J (gT K t) (tT K EN tt) (tD K EN te) vs σ Q p H1 := by
  obtain ⟨inv, i0, keep, turn⟩ := ok
  have npP : ¬ P' p := fun h => r1.tr p h np
  have Pne : ∀ {b}, P' b → b ≠ p := fun h e => npP (e ▸ h)
  let QX : Exn → S → Prop := fun x s' => ∀ cls dx H', RX K P B ia s' σ H H' x cls dx → E cls dx σ H'
  let QF : List D → S → Prop := fun acc s2 => ∀ v H', RV K P B ia s2 σ H H' true (.lst acc) v → Q v H'
  let W : Nat → Nat → Hp → Prop := fun i m H' => m + i = ds.length ∧ ∃ st Fs acc vacc F, (∀ i, i ∈ vs → ∀ x, st[i]? ≠ some (some x)) ∧ inv H' ∧ Fr P H H' ∧ H' p = some (.lst vacc) ∧ Reps K H' acc vacc F ∧ (∀ a, a ∈ F → B a ∧ a ≠ p) ∧
    SR K (fun b => (P' b ∨ b = p) ∨ b ∈ F) (fun b => B b ∧ b ≠ p) ia st (wipe σ vs) H' Fs ∧ Post QX QF (lcL t tt te vs (ds.drop i) acc st)
  have toWipe : ∀ {P0 B0 : Addr → Prop} {st : S} {σ0 : St} {H0 : Hp} {F0 : Nat → List Addr}, (∀ i, i ∈ vs → ∀ x, st[i]? ≠ some (some x)) → SR K P0 B0 ia st σ0 H0 F0 → SR K P0 B0 ia st (wipe σ0 vs) H0 F0 := fun hd r0 =>
    r0.cong (wipe_length _ _) fun i o d e => wipe_out fun m => hd i m _ e
  refine ⟨W, ⟨ds.length, by simp, ?_⟩, ?_⟩
  · obtain ⟨Fs2, r2, sub⟩ := r1.killAll vs
    have hd : ∀ i, i ∈ vs → ∀ x, (killAll s1 vs)[i]? ≠ some (some x) := fun i m x => killAll_in m x
    have fr2 : Fr P' H1 (upd H1 p (.lst [])) := Fr.new np r1.tr
    refine ⟨killAll s1 vs, Fs2, [], [], [], hd, keep _ _ i0 fr2, fr1.trans (fr2.mono hP), upd_same, .nil, fun a m => (by cases m), ?_, by simpa using q⟩
    have r3 := toWipe hd (r2.new np (o := .lst []))
    have r4 := r3.prot (F := [p]) (fun a m => by rw [List.mem_singleton.mp m, upd_same]; simp) (fun i o d a e n x m => by
      rw [List.mem_singleton.mp m] at x
      have hi : i ∉ vs := fun m => hd i m _ e
      rw [wipe_out hi] at x
      exact r2.ownTr e n x np)
    exact ⟨r4.len, r4.rep, fun i o d e n => let ⟨a, F, h1, h2, h3, h4, h5, h6⟩ := r4.own i o d e n; ⟨a, F, h1, h2, h3, h4, fun q => h5 (q.elim (fun q => q.imp (fun q => q) fun q => by rw [q]; exact List.mem_cons_self) fun m => by cases m), h6⟩,
      r4.iov, r4.dead, fun j a m => ⟨r4.inB j a m, fun e => r2.trF m (e ▸ np)⟩, fun b q => r4.tr b (q.elim (fun q => q.imp (fun q => q) fun q => by rw [q]; exact List.mem_cons_self) fun m => by cases m), fun b q => ⟨r4.nb b q, fun e => by rw [e, upd_same] at q; cases q⟩⟩
  · rintro i m H2 ⟨em, st, Fs2, acc, vacc, F, hd, i2, fr2, hp, hr, hb, r2, w2⟩
    obtain ⟨go, stop⟩ := turn i H2 i2
    cases e : ds[i]? with
    | none =>
      have hl : ds.length ≤ i := List.getElem?_eq_none_iff.mp e
      rw [List.drop_eq_nil_of_le hl, lcL] at w2
      refine .inl ⟨stop (by omega), w2 (.ref p) H2 ?_⟩
      have r3 : SR K (fun b => (P' b ∨ b = p) ∨ b ∈ F) (fun b => B b ∧ b ≠ p) ia st σ H2 Fs2 := r2.cong (by rw [wipe_length]) fun i o d e => (wipe_out fun m => hd i m _ e).symm
      refine ⟨p :: F, Fs2, .lst hp hr, fr2, fun a m => ?_, ?_, fun _ => ⟨p, F, rfl, rfl, .lst hp hr, fun m => (hb p m).2 rfl, fun q => npP (hP p q), fun j m => (r3.inB j p m).2 rfl⟩⟩
      · rcases List.mem_cons.mp m with rfl | m
        · exact r1.nb _ np
        · exact (hb a m).1
      · have r4 := r3.weak (P' := fun b => P b ∨ b ∈ p :: F) fun b q => q.elim (fun q => .inl (.inl (hP b q))) fun m => (List.mem_cons.mp m).elim (fun e => .inl (.inr e)) .inr
        exact ⟨r4.len, r4.rep, r4.own, r4.iov, r4.dead, fun j a m => (r4.inB j a m).1, r4.tr, fun b q => (r4.nb b q).1⟩
    | some d =>
      obtain ⟨g1, g2⟩ := go d e
      have hi : i < ds.length := (List.getElem?_eq_some_iff.mp e).1
      have ed : ds.drop i = d :: ds.drop (i + 1) := by
        rw [List.drop_eq_getElem_cons hi, (List.getElem?_eq_some_iff.mp e).2]
      rw [ed, lcL] at w2
      refine .inr ⟨g1, fun H' => W (i + 1) (m - 1) H', fun H' hN => ⟨m - 1, by omega, hN⟩, fun x H3 y => ?_⟩
      obtain ⟨hH, Fd, rep, hpd, hbd⟩ := g2 x H3 y
      have fr3 : Fr (fun b => (P' b ∨ b = p) ∨ b ∈ F) H2 H3 := by
        rcases hH with e | ⟨p', o, np', e⟩
        · subst e; exact Fr.refl
        · subst e; exact Fr.new np' r2.tr
      have r3 : SR K (fun b => (P' b ∨ b = p) ∨ b ∈ F) (fun b => B b ∧ b ≠ p) ia st (wipe σ vs) H3 Fs2 := by
        rcases hH with e | ⟨p', o, np', e⟩
        · subst e; exact r2
        · subst e; exact r2.new np'
      split at w2
      · exact w2.elim
      · rename_i s3 e3
        refine put_ok2 e3 r3 rep (fun a m => .inl (.inl (hpd a m))) (fun a m => ⟨hbd a m, Pne (hpd a m)⟩) fun σ4 Fs4 r4 l4 f4 => ?_
        have hw : wipe σ4 vs = wipe σ vs := by
          refine wipe_ext (by rw [l4, wipe_length]) fun j hj => ?_
          rw [f4 j fun m => hj (hs j m), wipe_out hj]
        refine ⟨hw, _, _, ia, s3, Fs4, r4, (nox_post w2).mono (fun _ _ q => q.elim) fun b s5 q5 H5 Fs5 fr5 r5 => ?_⟩
        have fr25 : Fr P H H5 := fr2.trans ((fr3.trans fr5).mono fun b h => .inl (.inl (hP b h)))
        have i5 : inv H5 := keep _ _ i2 ((fr3.trans fr5).mono fun b h => .inl (.inl h))
        have hp5 : H5 p = some (.lst vacc) := ((fr3.trans fr5).p p (.inl (.inr rfl))).trans hp
        have hr5 : Reps K H5 acc vacc F := Reps.keep (fr3.trans fr5).i hr fun a m => (fr3.trans fr5).p a (.inr m)
        cases b with
        | false =>
          rw [if_neg (by decide)] at q5
          refine iteF ?_
          obtain ⟨Fs6, r6, sub⟩ := r5.killAll vs
          have hd6 : ∀ i, i ∈ vs → ∀ x, (killAll s5 vs)[i]? ≠ some (some x) := fun i m x => killAll_in m x
          exact ⟨by omega, killAll s5 vs, Fs6, acc, vacc, F, hd6, i5, fr25, hp5, hr5, hb, by rw [← hw]; exact toWipe hd6 r6, q5⟩
        | true =>
          rw [if_pos rfl] at q5
          refine iteT ⟨_, _, ia, s5, Fs5, r5, (nox_post q5).mono (fun _ _ q => q.elim) fun y s6 q6 yv H6 rv => ?_⟩
          obtain ⟨G, Fs6, k1, k2, k3, k4, k5⟩ := rv
          split at q6
          · rename_i hz
            have hp6 : H6 p = some (.lst vacc) := (k2.p p (.inl (.inr rfl))).trans hp5
            have hr6 : Reps K H6 acc vacc F := Reps.keep k2.i hr5 fun a m => k2.p a (.inr m)
            refine ⟨vacc, hp6, by rw [← hr6.length]; exact hz, ?_⟩
            obtain ⟨Fs7, r7, sub⟩ := k4.killAll vs
            have hd7 : ∀ i, i ∈ vs → ∀ x, (killAll s6 vs)[i]? ≠ some (some x) := fun i m x => killAll_in m x
            have r8 := toWipe hd7 r7
            rw [hw] at r8
            have im : ∀ b o, H6 b = some o → Im o → upd H6 p (.lst (vacc ++ [yv])) b = some o := fun b o hx hi => by rw [upd_ne fun e => by subst e; rw [hp6] at hx; cases hx; exact hi]; exact hx
            have npF : ∀ a, a ∈ F ++ G → a ≠ p := fun a m => (List.mem_append.mp m).elim (fun m => (hb a m).2) fun m => (k3 a m).2
            have hr7 : Reps K (upd H6 p (.lst (vacc ++ [yv]))) (acc ++ [y.2]) (vacc ++ [yv]) (F ++ G) := Reps.keep im (hr6.append (Reps.one k1)) fun a m => upd_ne (npF a m)
            have fr6 : Fr P' H5 (upd H6 p (.lst (vacc ++ [yv]))) := ⟨fun b hb => by rw [upd_ne (Pne hb)]; exact k2.p b (.inl (.inl hb)), fun b o hb hi => im b o (k2.i b o hb hi) hi⟩
            refine ⟨by omega, killAll s6 vs, Fs7, acc ++ [y.2], vacc ++ [yv], F ++ G, hd7, keep _ _ i5 fr6, fr25.trans (fr6.mono hP), upd_same, hr7, fun a m => (List.mem_append.mp m).elim (hb a) (k3 a), ?_, q6⟩
            have r9 : SR K (fun b => (P' b ∨ b = p) ∨ b ∈ F ++ G) (fun b => B b ∧ b ≠ p) ia (killAll s6 vs) (wipe σ vs) H6 Fs7 := r8.weak fun b q => q.elim (fun q => .inl (.inl q)) fun m => (List.mem_append.mp m).elim (fun m => .inl (.inr m)) .inr
            have npS : ∀ j a, a ∈ Fs7 j → a ≠ p := fun j a m => (r9.inB j a m).2
            refine ⟨r9.len, fun j o d e => let ⟨v, h1, h2⟩ := r9.rep j o d e; ⟨v, h1, h2.keep im fun a m => upd_ne (npS j a m)⟩,
              fun j o d e n => let ⟨a, F, h1, h2, h3, h4, h5, h6⟩ := r9.own j o d e n; ⟨a, F, h1, h2, h3.keep im fun b m => upd_ne (npS j b (by rw [h2]; exact m)), h4, h5, h6⟩, r9.iov, r9.dead, r9.inB, fun b q => ?_, fun b q => ?_⟩
            · by_cases hbp : b = p
              · subst hbp; rw [upd_same]; simp
              · rw [upd_ne hbp]; exact r9.tr b q
            · by_cases hbp : b = p
              · subst hbp; rw [upd_same] at q; cases q
              · rw [upd_ne hbp] at q; exact r9.nb b q
          · exact q6.elim
theorem tD_comp {K : PySem.W.Frag} {E : WX} {it : M (List D)} {t : Tg} {tt : M Bool} {te : M (Bool × D)} {vs : List Nat} (hs : ∀ i, i ∈ t.slots → i ∈ vs) (σ : St) (H : Hp) (Q : VK) (h : tD K E (compM it t tt te vs) σ H Q) : tLc (tI K E it) (gT K t) (tT K EN tt) (tD K EN te) vs σ H Q := by
  obtain ⟨P, B, ia, s, Fs, r, w⟩ := h
  exact ⟨P, B, ia, s, Fs, r, (Post.bind w).mono (fun _ _ q => q) fun ds s1 q J H1 P' Fs1 hP fr1 r1 ok p np => lc_walk hs hP fr1 r1 ok (Post.bind q) p np⟩
section
variable {X : Cx}
theorem _root_.L2.PTs.imp {ifs : List Expr} {t t' : TT} (h : PTs X ifs t) (q : ∀ σ H Q, t' σ H Q → t σ H Q) : PTs X ifs t' := ⟨fun pins s σ H Q I w => h.run pins s σ H Q I (q σ H Q w)⟩
theorem dts_nil {E : WX} {K : PySem.W.Frag} : PTs X [] (tT K E yesM) := pts_nil.imp fun σ H Q h => by
  obtain ⟨P, B, ia, s, Fs, r, w⟩ := h
  exact w H Fs Fr.refl r
end
/-- a comprehension; h: pe_lc .. -/
theorem dm_comp {X : Cx} {E : WX} {e : Expr} {it : M (List D)} {t : Tg} {tt : M Bool} {te : M (Bool × D)} {vs : List Nat} (h : PE X e (tLc (tI X.K E it) (gT X.K t) (tT X.K EN tt) (tD X.K EN te) vs)) (hs : t.slots.all (fun i => vs.contains i) = true := by rfl) : PE X e (tD X.K E (compM it t tt te vs)) :=
  h.imp (tD_comp fun i m => by simpa using List.all_eq_true.mp hs i m)
/-- y = [..]; h: ps_setLc .. -/
theorem ds_comp {X : Cx} {E : WX} {st : Stmt} {i : Nat} {it : M (List D)} {t : Tg} {tt : M Bool} {te : M (Bool × D)} {vs : List Nat} (h : PS X st (tAsg (tLc (tI X.K E it) (gT X.K t) (tT X.K EN tt) (tD X.K EN te) vs) (gName i))) (hs : t.slots.all (fun i => vs.contains i) = true := by rfl) :
    PS X st (tS X.K E (setM i (compM it t tt te vs))) :=
  h.imp fun Dn σ H w => tD_comp (fun i m => by simpa using List.all_eq_true.mp hs i m) _ _ _ (tS_set Dn σ H w)
end PV

/-! PV: methods of texts, dict.get, chains of comparisons. -/
namespace PV
open PySem PySem.Spec L2

/-- a text, at once -/
def strM (a : Opd) : M (Bool × D) := op1 a fun x s => match x with
  | .str z => .ok (false, .str z) s
  | _ => .stuck
theorem tD_str {K : PySem.W.Frag} {E : WX} {a : Opd} {σ : St} {H : Hp} {Q : VK} (h : tD K E (strM a) σ H Q) : rdO K E a σ H fun x H1 => ∃ i, x = .str i ∧ Q (.str i) H1 := by
  obtain ⟨P, B, ia, s, Fs, r, w⟩ := h
  refine rd1 r ((op1_post w).mono (fun _ _ q => q) fun d s' q x H' F Fs' ov fr r' => ?_)
  split at q
  · exact ⟨_, ov.str_inv, q _ _ (.flat .str fr r')⟩
  · exact q.elim
/-- a method of a text: g of the text and the arguments -/
def methS (g : Str → List D → Option (Bool × D)) (o : Opd) (as : List Opd) : M (Bool × D) := opsM (.ex (strM o) :: as) fun ds s => match ds with
  | .str x :: ds => (match g x ds with
    | some r => .ok r s
    | none => .stuck)
  | _ => .stuck
/-- g is what the rule r asks -/
def OpS (K : PySem.W.Frag) (g : Str → List D → Option (Bool × D)) (r : V → List V → Hp → VK → Prop) : Prop :=
  ∀ {P B : Addr → Prop} {ia : Nat → Addr} {s : S} {σ : St} {H H0 : Hp} {Fs : Nat → List Addr} {x : Str} {os : List Opd} {ds : List D} {vs : List V} {Gs : List (List Addr)} {q : Bool × D} {Q : VK}, SR K P B ia s σ H Fs → OVs K B s σ H os ds vs Gs → Fr P H0 H → g x ds = some q →
    (∀ v H', RV K P B ia s σ H0 H' q.1 q.2 v → Q v H') → r (.str x) vs H Q
theorem rdMeth {K : PySem.W.Frag} {E : WX} {g : Str → List D → Option (Bool × D)} {r : V → List V → Hp → VK → Prop} (hr : OpS K g r) {o : Opd} {as : List Opd} (σ : St) (H : Hp) (Q : VK) (h : tD K E (methS g o as) σ H Q) :
    rdO K E o σ H fun x H1 => ∃ z, x = .str z ∧ rdOs K E as σ H1 fun xs H2 => r (.str z) xs H2 Q := by
  obtain ⟨P, B, ia, s, Fs, R, w⟩ := h
  have key : rdOs K E (.ex (strM o) :: as) σ H (fun vs H' => match vs with | .str z :: xs => r (.str z) xs H' Q | _ => True) := by
    refine rdOps R w (fun _ _ q => q) fun ds s' vs H' Gs Fs' q ov fr r' => ?_
    cases ov with
    | cons o1 _ _ t =>
      split at q
      · rename_i x ds' heq
        cases heq
        rw [o1.str_inv]
        split at q
        · rename_i e; exact hr r' t fr e q
        · exact q.elim
      · exact q.elim
  exact rdO_mono (tD_str key) fun x H1 ⟨z, e, k⟩ => ⟨z, e, k⟩
theorem tD_methB {K : PySem.W.Frag} {E : WX} {g : Str → List D → Option (Bool × D)} {r : V → List V → Hp → VK → Prop} (hr : OpS K g r) {o : Opd} {as : List Opd} (σ : St) (H : Hp) (Q : VK) (h : tD K E (methS g o as) σ H Q) : tBM K "str" r (rdO K E o) (rdOs K E as) σ H Q :=
  rdO_mono (rdMeth hr σ H Q h) fun x H1 ⟨z, e, k⟩ => by subst e; exact ⟨rfl, k⟩
theorem tD_meth1 {K : PySem.W.Frag} {E : WX} {g : Str → List D → Option (Bool × D)} {r : V → List V → Hp → VK → Prop} (hr : OpS K g r) {o a : Opd} (σ : St) (H : Hp) (Q : VK) (h : tD K E (methS g o [a]) σ H Q) : tM1 r (rdO K E o) (rdO K E a) σ H Q :=
  rdO_mono (rdMeth hr σ H Q h) fun x H1 ⟨z, e, k⟩ => by subst e; exact ⟨⟨z, rfl⟩, k⟩
section
variable {X : Cx} {E : WX} {e : Expr}
theorem dm_methB {g : Str → List D → Option (Bool × D)} {r : V → List V → Hp → VK → Prop} {o : Opd} {as : List Opd} (h : PE X e (tBM X.K "str" r (rdO X.K E o) (rdOs X.K E as))) (hr : OpS X.K g r) : PE X e (tD X.K E (methS g o as)) := h.imp (tD_methB hr)
theorem dm_meth1 {g : Str → List D → Option (Bool × D)} {r : V → List V → Hp → VK → Prop} {o a : Opd} (h : PE X e (tM1 r (rdO X.K E o) (rdO X.K E a))) (hr : OpS X.K g r) : PE X e (tD X.K E (methS g o [a])) := h.imp (tD_meth1 hr)
end
/-- x.find(y, i) -/
def findD (x : Str) : List D → Option (Bool × D)
  | [.str y, .int i] => some (false, .int (Txt.find3 x y i))
  | _ => none
theorem ops_find {K : PySem.W.Frag} : OpS K findD fun x xs H Q => ∃ (a b : Str) (i : Int), x = .str a ∧ xs = [.str b, .int i] ∧ Q (.int (Txt.find3 a b i)) H := by
  intro P B ia s σ H H0 Fs x os ds vs Gs q Q R ov fr e k
  unfold findD at e
  split at e
  · cases e
    cases ov with
    | cons o1 _ _ t =>
      cases t with
      | cons o2 _ _ t =>
        cases t
        exact ⟨_, _, _, rfl, by rw [o1.str_inv, o2.int_inv], k _ _ (.flat .int fr R)⟩
  · cases e
/-- texts of a list -/
def txts : List D → Option (List Str)
  | [] => some []
  | .str x :: ds => (txts ds).map fun xs => x :: xs
  | _ => none
theorem Reps.txts {K : PySem.W.Frag} {H : Hp} : ∀ {ds : List D} {vs : List V} {F : List Addr} {xs : List Str}, Reps K H ds vs F → PV.txts ds = some xs → vs = xs.map V.str ∧ F = []
  | [], _, _, _, h, e => by cases h; cases e; exact ⟨rfl, rfl⟩
  | d :: ds, _, _, _, h, e => by
    cases h with
    | cons h1 h2 =>
      cases h1 with
      | str =>
        rw [PV.txts] at e
        obtain ⟨xs', e1, e2⟩ := Option.map_eq_some_iff.mp e
        subst e2
        obtain ⟨h3, h4⟩ := h2.txts e1
        exact ⟨by rw [h3]; rfl, by rw [h4]; rfl⟩
      | _ => cases e
theorem reps_txts {K : PySem.W.Frag} {H : Hp} : ∀ xs : List Str, Reps K H (xs.map D.str) (xs.map V.str) []
  | [] => .nil
  | x :: xs => by simpa using Reps.cons (F := []) Rep.str (reps_txts xs)
/-- sep.join(xs) -/
def joinD (x : Str) : List D → Option (Bool × D)
  | [.lst ds] => (txts ds).bind fun ys => if (ys.map (·.length)).sum + ys.length * x.length ≤ 16777216 then some (false, .str (Txt.join x ys)) else none
  | [.tup ds] => (txts ds).bind fun ys => if (ys.map (·.length)).sum + ys.length * x.length ≤ 16777216 then some (false, .str (Txt.join x ys)) else none
  | _ => none
theorem ops_join {K : PySem.W.Frag} : OpS K joinD fun x xs H Q => ∃ a p, ∃ ys : List Str, x = .str a ∧ xs = [.ref p] ∧ (SqL K H p (ys.map V.str) ∨ SqT K H p (ys.map V.str)) ∧ (ys.map (·.length)).sum + ys.length * a.length ≤ 16777216 ∧ Q (.str (Txt.join a ys)) H := by
  intro P B ia s σ H H0 Fs x os ds vs Gs q Q R ov fr e k
  unfold joinD at e
  split at e
  · obtain ⟨ys, e1, e2⟩ := Option.bind_eq_some_iff.mp e
    split at e2
    · rename_i hz
      cases e2
      cases ov with
      | cons o1 _ _ t =>
        cases t
        obtain ⟨a, ws, G, rfl, h1, h2, _, _⟩ := o1.lst_inv
        obtain ⟨rfl, _⟩ := h2.txts e1
        exact ⟨_, _, ys, rfl, rfl, .inl (SqL.of h1), hz, k _ _ (.flat .str fr R)⟩
    · cases e2
  · obtain ⟨ys, e1, e2⟩ := Option.bind_eq_some_iff.mp e
    split at e2
    · rename_i hz
      cases e2
      cases ov with
      | cons o1 _ _ t =>
        cases t
        obtain ⟨a, ws, rfl, h1, h2, _⟩ := o1.tup_inv
        obtain ⟨rfl, _⟩ := h2.txts e1
        exact ⟨_, _, ys, rfl, rfl, .inr h1, hz, k _ _ (.flat .str fr R)⟩
    · cases e2
  · cases e
/-- x.split(y) -/
def splitD (x : Str) : List D → Option (Bool × D)
  | [.str y] => if (y.length == 0) = false ∧ x.length + 2 ≤ sizeLine then some (true, .lst ((Txt.split x y).map D.str)) else none
  | _ => none
theorem ops_split {K : PySem.W.Frag} : OpS K splitD fun x xs H Q => ∃ a b, x = .str a ∧ xs = [.str b] ∧ (b.length == 0) = false ∧ a.length + 2 ≤ sizeLine ∧ rNewStrs (Txt.split a b) H Q := by
  intro P B ia s σ H H0 Fs x os ds vs Gs q Q R ov fr e k
  unfold splitD at e
  split at e
  · split at e
    · rename_i hz
      cases e
      cases ov with
      | cons o1 _ _ t =>
        cases t
        exact ⟨_, _, rfl, by rw [o1.str_inv], hz.1, hz.2, fun p np => k _ _ (.lst (reps_txts _) .nil (fun _ m => nomatch m) fr R np)⟩
    · cases e
  · cases e

/-! ### d.get(k, x) at a slot -/
def isDct (s : S) (i : Nat) : Bool := match s[i]? with
  | some (some (_, .dct _)) => true
  | _ => false
def dgetM (i : Nat) (k x : M (Bool × D)) : M (Bool × D) := fun s => if isDct s i = true then opsM [.ex k, .ex x] (fun ds s1 => match s1[i]?, ds with
  | some (some (_, .dct kds)), [kk, y] => (match kk.key with
    | some key => .ok (false, (kget kds key).getD y) s1
    | none => .stuck)
  | _, _ => .stuck) s else .stuck
theorem tD_dget {K : PySem.W.Frag} {E : WX} {i : Nat} {k x : M (Bool × D)} (σ : St) (H : Hp) (Q : VK) (h : tD K E (dgetM i k x) σ H Q) : tDGet2 (tVar i) (tD K E k) (tD K E x) σ H Q := by
  obtain ⟨P, B, ia, s, Fs, R, w⟩ := h
  unfold dgetM at w
  split at w
  · rename_i hd
    unfold isDct at hd
    split at hd
    · rename_i o kds e
      obtain ⟨v, F0, hv, ov⟩ := R.opd e
      obtain ⟨a, kvs, G0, rfl, h1, _⟩ := ov.dct_inv
      refine ⟨.ref a, hv, a, rfl, .inl ⟨kvs, .inl h1⟩, ?_⟩
      have key : rdOs K E [.ex k, .ex x] σ H (fun vs H' => match vs with | [y, z] => ∃ o, DGet H' a y o ∧ Q (o.getD z) H' | _ => False) := by
        refine rdOps R w (fun _ _ q => q) fun ds s' vs H' Gs Fs' q ovs fr r' => ?_
        split at q
        · rename_i o' kds' kk y e1
          split at q
          · rename_i key ek
            cases ovs with
            | cons o1 n1 _ t =>
              cases t with
              | cons o2 n2 _ t =>
                cases t
                obtain ⟨v', F1, hv', ov'⟩ := r'.opd e1
                rw [hv] at hv'; cases hv'
                obtain ⟨a', kvs', G1, ea, h1', h2', no, ib⟩ := ov'.dct_inv
                cases ea
                refine ⟨valV kvs' key, .inl ⟨kvs', key, .inl h1', o1.rep.key ek, rfl⟩, ?_⟩
                rcases h2'.get key with ⟨q1, q2⟩ | ⟨d', w', G2, q1, q2, q3, q4⟩
                · rw [q1] at q; rw [q2]
                  exact q _ _ (.part o2.rep (n2 rfl) o2.inB fr r')
                · rw [q1] at q; rw [q2]
                  exact q _ _ (.part q3 (no.sub q4) (fun b m => ib b (q4 b m)) fr r')
          · exact q.elim
        · exact q.elim
      exact key
    · cases hd
  · exact w.elim
theorem dm_dget {X : Cx} {E : WX} {e : Expr} {i : Nat} {k x : M (Bool × D)} (h : PE X e (tDGet2 (tVar i) (tD X.K E k) (tD X.K E x))) : PE X e (tD X.K E (dgetM i k x)) := h.imp tD_dget

/-! ### a < b < c -/
theorem tD_chain {K : PySem.W.Frag} {E : WX} {r r' : R2} {g g' : D → D → Option (Bool × D)} {fa fb fc : M (Bool × D)} (hg : OpD K g r) (hg' : OpD K g' r') (σ : St) (H : Hp) (Q : VK) (h : tD K E (chainM g g' fa fb fc) σ H Q) : tChain r r' (tD K E fa) (tD K E fb) (tD K E fc) σ H Q := by
  obtain ⟨P, B, ia, s, Fs, R, w⟩ := h
  refine ⟨P, B, ia, s, Fs, R, (Post.bind w).mono (fun _ _ q => q) fun x s1 q v H1 rv => ?_⟩
  obtain ⟨F, Fs1, h1, h2, h3, h4, h5⟩ := rv
  refine ⟨_, B, ia, s1, Fs1, h4, (Post.bind q).mono (fun y s2 q cls dx H2 rx => q cls dx H2 (rx.weak h2 fun b m => .inl m)) fun y s2 q v2 H2 rv2 => ?_⟩
  obtain ⟨G, Fs2, g1, g2, g3, g4, g5⟩ := rv2
  have f02 : Fr P H H2 := h2.trans (g2.mono fun b m => .inl m)
  have r2 : SR K P B ia s2 σ H2 Fs2 := g4.weak fun b m => .inl (.inl m)
  have o1 : OV K B s2 σ H2 x.2 v F := ⟨h1.keep g2.i fun a m => g2.p a (.inr m), h3, .inl (g4.noOwn fun a m => .inl (.inr m))⟩
  have o2 : OV K B s2 σ H2 y.2 v2 G := ⟨g1, g3, .inl (g4.noOwn fun a m => .inr m)⟩
  split at q
  · rename_i z eg
    refine hg (g4.weak (P' := fun b => P b ∨ b ∈ G) fun b m => m.elim (fun m => .inl (.inl m)) .inr) o1 o2 (H0 := H2) Fr.refl eg fun w H3 rv3 => ?_
    obtain ⟨F3, Fs3, k1, k2, k3, k4, k5⟩ := rv3
    have ew : w = .bl true := by cases k1; rfl
    refine ⟨true, ew, iteT ⟨_, B, ia, s2, Fs3, k4.weak (P' := fun b => P b ∨ b ∈ G) fun b m => .inl m, (Post.bind q).mono (fun y s4 q cls dx H4 rx => q cls dx H4 (rx.weak (f02.trans (k2.mono fun b m => .inl m)) fun b m => .inl m)) fun y3 s4 q v4 H4 rv4 => ?_⟩⟩
    obtain ⟨F4, Fs4, m1, m2, m3, m4, m5⟩ := rv4
    split at q
    · rename_i e4
      exact hg' (m4.weak fun b m => .inl (.inl m)) ⟨(g1.keep k2.i fun a m => k2.p a (.inr m)).keep m2.i fun a m => m2.p a (.inr m), g3, .inl (m4.noOwn fun a m => .inl (.inr m))⟩ ⟨m1, m3, .inl (m4.noOwn fun a m => .inr m)⟩ (f02.trans ((k2.mono fun b m => .inl m).trans (m2.mono fun b m => .inl m))) e4 q
    · exact q.elim
  · rename_i z eg
    refine hg r2 o1 o2 f02 eg fun w H3 rv3 => ?_
    have ew : w = .bl false := by obtain ⟨F3, Fs3, k1, _⟩ := rv3; cases k1; rfl
    refine ⟨false, ew, iteF (q _ _ ?_)⟩
    obtain ⟨F3, Fs3, k1, k2, k3, k4, k5⟩ := rv3
    exact .flat .bl k2 (k4.weak fun b m => .inl m)
  · exact q.elim
theorem de_chain {X : Cx} {E : WX} {a b c : Expr} {op op' : CmpOp} {r r' : R2} {g g' : D → D → Option (Bool × D)} {fa fb fc : M (Bool × D)} {pos : Pos} (ho : OpR X (compareOp op) r) (ho' : OpR X (compareOp op') r') (hg : OpD X.K g r) (hg' : OpD X.K g' r') (ha : PE X a (tD X.K E fa)) (hb : PE X b (tD X.K E fb)) (hc : PE X c (tD X.K E fc))
    (hm : lastMarks [op, op'] [b, c] = false := by with_unfolding_all rfl) : PE X (.Compare a [op, op'] [b, c] pos) (tD X.K E (chainM g g' fa fb fc)) := (pe_chain ho ho' ha hb hc hm).imp (tD_chain hg hg')
end PV

/-! PV: what a printed text leans on: the module's constants, the defs' promises by level, what is not walked. -/
namespace PV
open PySem PySem.Spec L2
def stkM {α : Type} : M α := fun _ => .stuck
theorem ds_never {X : Cx} {E : WX} {st : Stmt} : PS X st (tS X.K E stkM) := ps_never.imp fun Dn σ H h => by
  obtain ⟨P, B, ia, s, Fs, r, w⟩ := h
  exact w.elim

/-- == of two of a kind at once; else as data -/
def eqS (neg : Bool) : D → D → Option (Bool × D)
  | .int i, .int j => some (false, .bl (if neg then !decide (i = j) else decide (i = j)))
  | .str i, .str j => some (false, .bl (if neg then !decide (i = j) else decide (i = j)))
  | .bl i, .bl j => some (false, .bl (if neg then !decide (i = j) else decide (i = j)))
  | x, y => eqDD neg x y
theorem opd_eqS {K : PySem.W.Frag} : OpD K (eqS false) (fun x y H Q => rEq x y H Q ∨ rEqD K x y H Q) := by
  intro P B ia s σ H H0 Fs dx dy q x y F G Q R o1 o2 fr e k
  unfold eqS at e
  split at e
  · cases e
    rw [o1.int_inv, o2.int_inv]
    refine .inl ⟨rfl, ?_⟩
    have := k _ _ (RV.flat .bl fr R)
    simpa using this
  · cases e
    rw [o1.str_inv, o2.str_inv]
    refine .inl ⟨rfl, ?_⟩
    have := k _ _ (RV.flat .bl fr R)
    simpa using this
  · cases e
    rw [o1.bl_inv, o2.bl_inv]
    refine .inl ⟨rfl, ?_⟩
    have := k _ _ (RV.flat .bl fr R)
    simpa using this
  · exact .inr (opd_eq R o1 o2 fr e k)
theorem opd_neS {K : PySem.W.Frag} : OpD K (eqS true) (fun x y H Q => rNe x y H Q ∨ rNeD K x y H Q) := by
  intro P B ia s σ H H0 Fs dx dy q x y F G Q R o1 o2 fr e k
  unfold eqS at e
  split at e
  · cases e
    rw [o1.int_inv, o2.int_inv]
    refine .inl ⟨rfl, ?_⟩
    have := k _ _ (RV.flat .bl fr R)
    simpa using this
  · cases e
    rw [o1.str_inv, o2.str_inv]
    refine .inl ⟨rfl, ?_⟩
    have := k _ _ (RV.flat .bl fr R)
    simpa using this
  · cases e
    rw [o1.bl_inv, o2.bl_inv]
    refine .inl ⟨rfl, ?_⟩
    have := k _ _ (RV.flat .bl fr R)
    simpa using this
  · exact .inr (opd_ne R o1 o2 fr e k)
theorem or_eqS {X : Cx} (hu : X.A.units + 64 < cLine) : OpR X (compareOp .Eq) (fun x y H Q => rEq x y H Q ∨ rEqD X.K x y H Q) := OpR.or op_eq (op_eqD hu)
theorem or_neS {X : Cx} (hu : X.A.units + 64 < cLine) : OpR X (compareOp .NotEq) (fun x y H Q => rNe x y H Q ∨ rNeD X.K x y H Q) := OpR.or op_ne (op_neD hu)
/-- a bool as a test -/
def truB (f : M (Bool × D)) : M Bool := fun s => (f s).bind fun r s' => match r.2 with
  | .bl b => .ok b s'
  | _ => .stuck
theorem tTest_of {K : PySem.W.Frag} {E : WX} {f : M (Bool × D)} {t : TE} (ht : ∀ σ H Q, tD K E f σ H Q → t σ H Q) (σ : St) (H : Hp) (Q : Bool → Hp → Prop) (h : tT K E (truB f) σ H Q) : tTest t σ H Q := by
  obtain ⟨P, B, ia, s, Fs, r, w⟩ := h
  refine ht _ _ _ ⟨P, B, ia, s, Fs, r, (Post.bind w).mono (fun _ _ q => q) fun a s' q v H' rv => ?_⟩
  obtain ⟨fr, d⟩ := a
  obtain ⟨F, Fs', ov, f1, r'⟩ := rv.ov
  cases d with
  | bl b => exact ⟨b, ov.bl_inv, q H' Fs' f1 r'⟩
  | _ => exact q.elim
section
variable {X : Cx} {E : WX} {a b c : Expr} {oa ob : Opd} {pos : Pos}
theorem dt_cmp {op : CmpOp} {g : D → D → Option (Bool × D)} {r : R2} (ho : OpR X (compareOp op) r) (hd : OpD X.K g r) (ha : PE X a (rdO X.K E oa)) (hb : PE X b (rdO X.K E ob)) (hm : behindInMarks op b = false) : PT X (.Compare a [op] [b] pos) (tT X.K E (truB (binM g oa ob))) :=
  (pt_cmpR ho ha hb hm).imp (tTest_of (tD_op hd))
theorem dt_chain {op op' : CmpOp} {r r' : R2} {g g' : D → D → Option (Bool × D)} {fa fb fc : M (Bool × D)} (ho : OpR X (compareOp op) r) (ho' : OpR X (compareOp op') r') (hg : OpD X.K g r) (hg' : OpD X.K g' r') (ha : PE X a (tD X.K E fa)) (hb : PE X b (tD X.K E fb)) (hc : PE X c (tD X.K E fc))
    (hm : lastMarks [op, op'] [b, c] = false := by with_unfolding_all rfl) : PT X (.Compare a [op, op'] [b, c] pos) (tT X.K E (truB (chainM g g' fa fb fc))) := (pt_chain ho ho' ha hb hc hm).imp (tTest_of (tD_chain hg hg'))
end
/-- the module's x holds what d says, and nobody changes it -/
def Gc (K : PySem.W.Frag) (mg : Str → Option Value) (x : Str) (d : D) : Prop := ∃ (u : Value) (v : V), mg x = some u ∧ RelV v u ∧ ∀ H, Rep K H d v []
section
variable {K : PySem.W.Frag} {mg : Str → Option Value} {x : Str}
theorem Gc.str {z : Str} (h : ∃ t, mg x = some (.str z t)) : Gc K mg x (.str z) := let ⟨t, e⟩ := h; ⟨_, .str z, e, ⟨t, rfl⟩, fun _ => .str⟩
theorem Gc.int {i : Int} (h : ∃ t, mg x = some (.int i t)) : Gc K mg x (.int i) := let ⟨t, e⟩ := h; ⟨_, .int i, e, ⟨t, rfl⟩, fun _ => .int⟩
theorem reps_strs {H : Hp} : ∀ xs : List Str, Reps K H (xs.map D.str) (xs.map V.str) []
  | [] => .nil
  | y :: ys => by
    have h := Reps.cons (Rep.str (K := K) (H := H) (x := y)) (reps_strs (H := H) ys)
    exact h
theorem Gc.strs {a : Addr} {xs : List Str} (h : mg x = some (.ref a)) (s : ∀ H, SqT K H a (xs.map V.str)) : Gc K mg x (.tup (xs.map D.str)) := ⟨_, .ref a, h, rfl, fun H => .tup (s H) (reps_strs xs)⟩
end
theorem de_glo {X : Cx} {E : WX} {x : Str} {d : D} {pos : Pos} (h : Gc X.K X.mg x d) (hg : Gl X x := by rfl) (hd : (x == ("__debug__" : Str)) = false := by decide) : PE X (.Name x pos) (tD X.K E (constM d)) := by
  obtain ⟨u, v, h1, h2, h3⟩ := h
  exact de_const (pe_glob hg h1 h2 hd) h3
theorem de_ty {X : Cx} {E : WX} {x : Str} {n : String} {pos : Pos} (h : X.mg x = none) (hg : Gl X x := by rfl) (hv : bootBuiltins x = some (.type n) := by rfl) (hn : x ≠ "__name__" := by decide) (hd : (x == ("__debug__" : Str)) = false := by decide) : PE X (.Name x pos) (tD X.K E (constM (.ty n))) :=
  de_const (v := .ty n) (pe_bltn hg h hv rfl hn hd) fun _ => .ty
/-- the def x keeps its promise by F at level k -/
def Kn (P : Program) (w : World) (K : PySem.W.Frag) (mg : Str → Option Value) (base : Heap) (k : Nat) (x : Str) (ps : List Str) (ios : List Nat) (F : FS) : Prop :=
  ∃ (f : Addr) (fd : FuncData), mg x = some (.ref f) ∧ PySem.W.keepIn K (.ref f) = true ∧ Binds K fd ps [] ∧ FnOk P w K mg base (L2.CX P w) k f fd ps (spF K ios ps.length F)
def stkF : FS := fun _ => .stuck
section
variable {P : Program} {w : World} {K : PySem.W.Frag} {mg : Str → Option Value} {base : Heap} {k : Nat} {x : Str} {ps : List Str} {ios : List Nat} {f : Addr} {fd : FuncData} {F : FS}
theorem Kn.zero (h1 : mg x = some (.ref f)) (h2 : PySem.W.keepIn K (.ref f) = true) (h3 : Binds K fd ps []) : Kn P w K mg base k x ps ios stkF :=
  ⟨f, fd, h1, h2, h3, fun vs H Q E h => h.1, fun A outer s H args us vs Q E hr h0 hb hv h => by
    obtain ⟨_, ds, Fa, _, _, _, _, h⟩ := h
    exact h.elim⟩
end
theorem de_callK {X : Cx} {E : WX} {k : Nat} {x : Str} {p pos : Pos} {e : Expr} {es : List Expr} {ps : List Str} {ios : List Nat} {F : FS} {os : List Opd} (G : Kn X.prog X.w X.K X.mg X.base k x ps ios F) (hr : Room k X.A) (tk : Takes X E)
    (ha : PAd X E (e :: es) os) (hg : Gl X x := by rfl) (hio : ioPos os 0 = ios := by rfl) (hn : os.length = ps.length := by rfl) (hdb : (x == ("__debug__" : Str)) = false := by decide) (he : starEach (e :: es) X.env = (false, eval e X.env) :: starEach es X.env := by rfl) (hpl : (backTo pos (starEach es X.env)).any (·.1) = false := by rfl) :
    PE X (.Call (.Name x p) (e :: es) [] pos) (tD X.K E (callM F os)) := by
  obtain ⟨f, fd, h1, h2, h3, h4⟩ := G
  exact de_call h4 hr hg h1 h2 h3 tk ha hio hn hdb he hpl
theorem sq_fz {K : PySem.W.Frag} {H : Hp} {a : Addr} {vs : List V} (h : SqL K H a vs) (o : Only H) : Fz K H a vs := by
  rcases h with (h | ⟨u, h⟩) | h
  · rcases o a with e | ⟨u, xs, e⟩
    · rw [h] at e; cases e
    · rw [h] at e; cases e
  · exact .inl ⟨u, h⟩
  · exact .inr h
theorem reps_ints {K : PySem.W.Frag} {H : Hp} : ∀ xs : List Int, Reps K H (xs.map D.int) (xs.map V.int) []
  | [] => .nil
  | y :: ys => by
    have h := Reps.cons (Rep.int (K := K) (H := H) (i := y)) (reps_ints (H := H) ys)
    exact h
/-- a law's promise from its function -/
theorem law_sp {K : PySem.W.Frag} {F : FS} {ns : List Int} (h : ∃ fr, F [.fro (ns.map .int)] = .ret fr (.bl true) []) {H : Hp} {a : Addr} (o : Only H) (q : SqL K H a (ns.map V.int)) :
    spF K [] 1 F [.ref a] H (fun v _ => v = .bl true) fun _ _ _ => False := by
  refine ⟨rfl, [.fro (ns.map .int)], fun _ => [], rfl, fun i d e => ?_, fun _ _ => rfl, fun j m => (nomatch m), ?_⟩
  · cases i with
    | zero => cases e; exact ⟨_, rfl, .lsz (sq_fz q o) (reps_ints ns)⟩
    | succ i => simp at e
  · obtain ⟨fr, e⟩ := h
    rw [e]
    intro v H' G Go fv
    have r := fv.rep
    cases r
    rfl
theorem cx_no {P : Program} {w : World} (H : Hp) (s : Shared) (e : Value) (s' : Shared) (h : L2.CX P w [] H s (fun _ _ _ => False) e s') : False := by
  obtain ⟨_, _, _, _, _, _, _, _, _, _, _, _, z⟩ := h
  exact z
/-- the law's end: its def keeps the promise by f, f says True -/
theorem walk_pv {l : PySem.W.OpenLaw} {k : Nat} {q : Program} {loose : List Str} {XP : (Str → Option Value) → Heap → Prop} {YP : World → Heap → Prop} {d : DefRec} {x : Str} (most : l.most = some 63) (nodef : d.params.defaults = []) (room : Room k PySem.callerA)
    (all : ∀ (w : World) (mg : Str → Option Value) (fa : Addr) (h : Heap), YP w h → h.Ns mainGlobals mg → mg d.name = some (.ref fa) → ∃ (K : PySem.W.Frag) (fd : FuncData) (f : FS), K.In h ∧ (∀ (s : Shared) (u : Value), BindsTo s fd ⟨[u], []⟩ [(x, u)]) ∧
      (∀ ns : List Int, ns.length ≤ 63 → (∀ i ∈ ns, Builtin.Int.intBits i ≤ 1048576) → ∃ fr, f [.fro (ns.map .int)] = .ret fr (.bl true) []) ∧ ∀ base : Heap, K.In base → base.Ns mainGlobals mg → FnOk l.prog w K mg base (L2.CX l.prog w) k fa fd [x] (spF K [] 1 f)) :
    PySem.W.WalkO q loose XP YP l.row.toRowW d [] (fun f vs => PySem.call f vs) := by
  refine Att.attach_callB most nodef fun w _ s1 mg _ fa _ _ _ _ a _ ns gr yy _ _ _ i4 i5 i6 i7 i8 i9 => ?_
  obtain ⟨K, fd, f, kin, bnd, val, keeps⟩ := all w mg fa _ yy gr.T.g i4
  exact law_call kin gr.T.g gr.T.b gr.T.builtins gr.T.nolimit i9 i5 i6 (Nat.le_trans i7 (by decide)) room keeps bnd (fun _ only sq => law_sp (val ns i7 i8) only sq) fun H e s' z => cx_no H s1 e s' z
end PV

/-! PV: the tape of the laws' draws. -/
namespace PV
open PySem PySem.Spec L2
noncomputable def tapeB : M Fl :=
  (seqM (setM 1 (compM (itM (varM 0)) (.nm 3) yesM (unM absD (.ex (unM toInt (.sl 3)))) [3]))
    (seqM (setM 2 (constM (.int 7)))
    (seqM (forM (itM (varM 1)) (.nm 3) (setM 2 (binM modD (.ex (unM toInt (.ex (binM addD (.ex (binM mulD (.sl 2) (.ex (constM (.int 31))))) (.sl 3))))) (.ex (constM (.int 2147483647))))))
    (retM (dispM [((constM (.str "cells")), (varM 1)), ((constM (.str "at")), (constM (.int 0))), ((constM (.str "left")), (constM (.int 0))), ((constM (.str "seed")), (varM 2)), ((constM (.str "salt")), (constM (.int 0)))])))))
noncomputable def takeA : M Fl :=
  (iteM (andM (truB (binM (eqS false) (.ex (binM ixD (.sl 0) (.ex (constM (.str "left"))))) (.ex (constM (.int 0))))) (truB (binM ltD (.ex (binM ixD (.sl 0) (.ex (constM (.str "at"))))) (.ex (unM lenD (.ex (binM ixD (.sl 0) (.ex (constM (.str "cells")))))))))) (seqM (setItM 0 (constM (.str "left")) (binM ixD (.ex (binM ixD (.sl 0) (.ex (constM (.str "cells"))))) (.ex (binM ixD (.sl 0) (.ex (constM (.str "at")))))))
    (setItM 0 (constM (.str "at")) (binM addD (.ex (binM ixD (.sl 0) (.ex (constM (.str "at"))))) (.ex (constM (.int 1)))))) nxM)
noncomputable def takeC : M Fl :=
  (seqM (iteM (truB (binM gtD (.ex (binM ixD (.sl 0) (.ex (constM (.str "left"))))) (.ex (constM (.int 0))))) (seqM (setM 2 (binM modD (.ex (unM toInt (.ex (binM ixD (.sl 0) (.ex (constM (.str "left"))))))) (.sl 1)))
    (seqM (setItM 0 (constM (.str "left")) (binM divD (.ex (binM ixD (.sl 0) (.ex (constM (.str "left"))))) (.sl 1)))
    (retM (moveM 2)))) nxM)
    (seqM (setItM 0 (constM (.str "salt")) (binM addD (.ex (binM ixD (.sl 0) (.ex (constM (.str "salt"))))) (.ex (constM (.int 1)))))
    (seqM (setM 3 (binM modD (.ex (unM toInt (.ex (binM addD (.ex (binM mulD (.ex (binM ixD (.sl 0) (.ex (constM (.str "seed"))))) (.ex (constM (.int 48271))))) (.ex (binM mulD (.ex (binM ixD (.sl 0) (.ex (constM (.str "salt"))))) (.ex (constM (.int 69621))))))))) (.ex (constM (.int 2147483647)))))
    (seqM (setM 3 (binM modD (.ex (unM toInt (.ex (binM addD (.ex (binM addD (.ex (binM mulD (.sl 3) (.sl 3))) (.ex (binM mulD (.ex (binM ixD (.sl 0) (.ex (constM (.str "salt"))))) (.ex (constM (.int 40692))))))) (.ex (constM (.int 12345))))))) (.ex (constM (.int 2147483399)))))
    (retM (binM modD (.ex (unM toInt (.sl 3))) (.sl 1)))))))
noncomputable def takeB : M Fl := seqM takeA takeC
/-- the tape as a value -/
def tpD (cs : List D) (at_ left seed salt : Int) : D := .dct [(.inr "cells", .lst cs), (.inr "at", .int at_), (.inr "left", .int left), (.inr "seed", .int seed), (.inr "salt", .int salt)]
section
variable {cs : List D} {a l e t x : Int}
theorem tp_cells : ixD (tpD cs a l e t) (.str "cells") = some (false, .lst cs) := by rfl
theorem tp_at : ixD (tpD cs a l e t) (.str "at") = some (false, .int a) := by rfl
theorem tp_left : ixD (tpD cs a l e t) (.str "left") = some (false, .int l) := by rfl
theorem tp_seed : ixD (tpD cs a l e t) (.str "seed") = some (false, .int e) := by rfl
theorem tp_salt : ixD (tpD cs a l e t) (.str "salt") = some (false, .int t) := by rfl
theorem st_at : setD (tpD cs a l e t) (.str "at") (.int x) = some (tpD cs x l e t) := by rfl
theorem st_left : setD (tpD cs a l e t) (.str "left") (.int x) = some (tpD cs a x e t) := by rfl
theorem st_salt : setD (tpD cs a l e t) (.str "salt") (.int x) = some (tpD cs a l e x) := by rfl
end
end PV

/-! PV: how the terms run: rows for simp. -/
namespace PV
open PySem PySem.Spec L2
/-- a sign of f, so that simp leaves f alone until its turn comes -/
structure Tok {α β : Type} (f : α → S → Res β) : Type where
def Res.bd {α β : Type} (r : Res α) (f : α → S → Res β) (_ : Tok f) : Res β := r.bind f
@[simp ↓] theorem bind_bd {α β : Type} (r : Res α) (f : α → S → Res β) : r.bind f = r.bd f ⟨⟩ := rfl
@[simp] theorem bd_ok {α β : Type} (a : α) (s : S) (f : α → S → Res β) (t : Tok f) : (Res.ok a s).bd f t = f a s := rfl
@[simp] theorem bd_exc {α β : Type} (x : Exn) (s : S) (f : α → S → Res β) (t : Tok f) : (Res.exc x s : Res α).bd f t = .exc x s := rfl
@[simp] theorem bd_stuck {α β : Type} (f : α → S → Res β) (t : Tok f) : (Res.stuck : Res α).bd f t = .stuck := rfl
section
variable {s : S}
@[simp] theorem gd_True : gd True = true := gd_yes trivial
@[simp] theorem gd_False : gd False = false := by
  cases h : gd False with
  | false => rfl
  | true => exact (gd_iff.mp h).elim
@[simp] theorem ev_seq (a b : M Fl) : seqM a b s = (a s).bind fun fl s' => match fl with
  | .nx => b s'
  | fl => .ok fl s' := rfl
@[simp] theorem ev_nx : nxM s = .ok .nx s := rfl
@[simp] theorem ev_bk : bkM s = .ok .bk s := rfl
@[simp] theorem ev_ct : ctM s = .ok .ct s := rfl
@[simp] theorem ev_drop (f : M (Bool × D)) : dropM f s = (f s).bind fun _ s' => .ok .nx s' := rfl
@[simp] theorem ev_ret (f : M (Bool × D)) : retM f s = (f s).bind fun r s' => .ok (.rt r.1 r.2) s' := rfl
@[simp] theorem ev_retN : retN s = .ok (.rt false .non) s := rfl
@[simp] theorem ev_set (i : Nat) (f : M (Bool × D)) : setM i f s = (f s).bind fun r s' => match putS s' i (if r.1 = true then .ow else .sh) r.2 with
  | some s2 => .ok .nx s2
  | none => .stuck := rfl
@[simp] theorem ev_putS (i : Nat) (o : Own) (d : D) : putS s i o d = match s[i]? with
  | some (some (.io, _)) => none
  | some _ => some (s.set i (some (o, d)))
  | none => none := rfl
@[simp] theorem ev_ite {α : Type} (t : M Bool) (a b : M α) : iteM t a b s = (t s).bind fun x s' => if x = true then a s' else b s' := rfl
@[simp] theorem ev_and (a b : M Bool) : andM a b s = (a s).bind fun x s' => if x = true then b s' else .ok false s' := rfl
@[simp] theorem ev_or (a b : M Bool) : orM a b s = (a s).bind fun x s' => if x = true then .ok true s' else b s' := rfl
@[simp] theorem ev_not (a : M Bool) : notM a s = (a s).bind fun b s' => .ok (!b) s' := rfl
@[simp] theorem ev_tru (a : Opd) : truM a s = op1 a (fun x s => match truD x with
  | some b => .ok b s
  | none => .stuck) s := rfl
@[simp] theorem ev_truB (f : M (Bool × D)) : truB f s = (f s).bind fun r s' => match r.2 with
  | .bl b => .ok b s'
  | _ => .stuck := rfl
@[simp] theorem ev_andV (a b : M (Bool × D)) : andV a b s = (a s).bind fun x s' => match truD x.2 with
  | some true => b s'
  | some false => .ok x s'
  | none => .stuck := rfl
@[simp] theorem ev_orV (a b : M (Bool × D)) : orV a b s = (a s).bind fun x s' => match truD x.2 with
  | some true => .ok x s'
  | some false => b s'
  | none => .stuck := rfl
@[simp] theorem ev_notV (a : Opd) : notV a s = op1 a (fun x s => match truD x with
  | some b => .ok (false, .bl (!b)) s
  | none => .stuck) s := rfl
@[simp] theorem ev_const (d : D) : constM d s = .ok (false, d) s := rfl
@[simp] theorem ev_var (i : Nat) : varM i s = match s[i]? with
  | some (some (.sh, d)) => .ok (false, d) s
  | some (some (.ow, d)) => .ok (false, d) (s.set i (some (.sh, d)))
  | _ => .stuck := rfl
@[simp] theorem ev_move (i : Nat) : moveM i s = match s[i]? with
  | some (some (.sh, d)) => .ok (false, d) s
  | some (some (.ow, d)) => .ok (true, d) (s.set i none)
  | _ => .stuck := rfl
@[simp] theorem ev_op1 {α : Type} (a : Opd) (k : D → S → Res α) : op1 a k s = (a.run s).bind fun x s1 => match a.get s1 x with
  | some dx => k dx s1
  | none => .stuck := rfl
@[simp] theorem ev_op2 {α : Type} (a b : Opd) (k : D → D → S → Res α) : op2 a b k s = (a.run s).bind fun x s1 => (b.run s1).bind fun y s2 => match a.get s2 x, b.get s2 y with
  | some dx, some dy => k dx dy s2
  | _, _ => .stuck := rfl
@[simp] theorem ev_runE (f : M (Bool × D)) : (Opd.ex f).run s = (f s).bind fun r s' => .ok (some r.2) s' := rfl
@[simp] theorem ev_runS (i : Nat) : (Opd.sl i).run s = match s[i]? with
    | some (some _) => .ok none s
    | _ => .stuck := rfl
@[simp] theorem ev_getE (f : M (Bool × D)) (x : Option D) : (Opd.ex f).get s x = x := rfl
@[simp] theorem ev_getS (i : Nat) (x : Option D) : (Opd.sl i).get s x = match s[i]? with
    | some (some (_, d)) => some d
    | _ => none := rfl
@[simp] theorem ev_un (g : D → Option (Bool × D)) (a : Opd) : unM g a s = op1 a (fun x s => match g x with
  | some r => .ok r s
  | none => .stuck) s := rfl
@[simp] theorem ev_bin (g : D → D → Option (Bool × D)) (a b : Opd) : binM g a b s = op2 a b (fun x y s => match g x y with
  | some r => .ok r s
  | none => .stuck) s := rfl
@[simp] theorem ev_ops {α : Type} (os : List Opd) (k : List D → S → Res α) : opsM os k s = (runs os s).bind fun xs s1 => match gets s1 os xs with
  | some ds => k ds s1
  | none => .stuck := rfl
@[simp] theorem ev_runs0 : runs [] s = .ok [] s := rfl
@[simp] theorem ev_runs (o : Opd) (os : List Opd) : runs (o :: os) s = (o.run s).bind fun x s1 => (runs os s1).bind fun xs s2 => .ok (x :: xs) s2 := rfl
@[simp] theorem ev_gets0 (xs : List (Option D)) : gets s [] xs = some [] := rfl
@[simp] theorem ev_gets (o : Opd) (os : List Opd) (x : Option D) (xs : List (Option D)) : gets s (o :: os) (x :: xs) = match o.get s x, gets s os xs with
    | some d, some ds => some (d :: ds)
    | _, _ => none := rfl
@[simp] theorem ev_tup (fs : List (M (Bool × D))) : tupM fs s = opsM (fs.map .ex) (fun ds s => if ds.length ≤ sizeLine then .ok (false, .tup ds) s else .stuck) s := rfl
@[simp] theorem ev_lst (fs : List (M (Bool × D))) : lstM fs s = opsM (fs.map .ex) (fun ds s => if ds.length ≤ sizeLine then .ok (true, .lst ds) s else .stuck) s := rfl
@[simp] theorem ev_call (F : FS) (os : List Opd) : callM F os s = opsM os (fun ds s => if decide (ioSlots os).Nodup && (ioSlots os).all (isMut s) then (match F ds with
  | .ret fr d outs => (match wb s (ioSlots os) outs with
    | some s' => .ok (fr, d) s'
    | none => .stuck)
  | .exc x outs => (match wb s (ioSlots os) outs with
    | some s' => .exc x s'
    | none => .stuck)
  | .stuck => .stuck) else .stuck) s := rfl
def boxD : D → Bool
  | .lst _ => true
  | .dct _ => true
  | _ => false
@[simp] theorem ev_box (i : Nat) : isBox s i = match s[i]? with
  | some (some (_, d)) => boxD d
  | _ => false := by
  unfold isBox boxD
  cases s[i]? with
  | none => rfl
  | some x =>
    cases x with
    | none => rfl
    | some x =>
      obtain ⟨o, d⟩ := x
      cases d <;> rfl
@[simp] theorem box_tp {cs : List D} {a l e t : Int} : boxD (tpD cs a l e t) = true := rfl
@[simp] theorem box_l {ds : List D} : boxD (.lst ds) = true := rfl
@[simp] theorem box_d {ds : List (Key × D)} : boxD (.dct ds) = true := rfl
@[simp] theorem ev_setIt (i : Nat) (k f : M (Bool × D)) : setItM i k f s = (f s).bind fun y s1 => if isBox s1 i = true then (k s1).bind fun kk s2 => (match s2[i]? with
  | some (some (o, x)) => if o = .sh then .stuck else (match setD x kk.2 y.2 with
    | some x' => .ok .nx (s2.set i (some (o, x')))
    | none => .stuck)
  | _ => .stuck) else .stuck := rfl
@[simp] theorem ev_disp (ps : List (M (Bool × D) × M (Bool × D))) : dispM ps s = opsM ((flat2 ps).map .ex) (fun ds s => match kpairs ds with
  | some kds => if kds.length ≤ 15 then .ok (true, .dct (kmerge [] kds)) s else .stuck
  | none => .stuck) s := rfl
@[simp] theorem ev_grow (g : List D → D → Option (List D)) (i : Nat) (f : M (Bool × D)) : growM g i f s = if isLst s i = true then (f s).bind fun y s1 => (match s1[i]? with
  | some (some (o, .lst ds)) => if o = .sh then .stuck else (match g ds y.2 with
    | some ds' => .ok (false, .non) (s1.set i (some (o, .lst ds')))
    | none => .stuck)
  | _ => .stuck) else .stuck := rfl
@[simp] theorem ev_isLst (i : Nat) : isLst s i = match s[i]? with
  | some (some (_, .lst _)) => true
  | _ => false := rfl
@[simp] theorem ev_itM (f : M (Bool × D)) : itM f s = (f s).bind fun r s' => match r.2 with
  | .lst ds => .ok ds s'
  | .tup ds => .ok ds s'
  | .fro ds => .ok ds s'
  | .str x => .ok (signs x) s'
  | _ => .stuck := rfl
noncomputable def rngD : D → Option (List D)
  | .int j => if gd (-(2 ^ 62) ≤ j ∧ j < 2 ^ 62) = true then some (intsD 0 j.toNat) else none
  | _ => none
@[simp] theorem ev_rng1 (f : M (Bool × D)) : rng1M f s = (f s).bind fun r s' => match rngD r.2 with
  | some ds => .ok ds s'
  | none => .stuck := by
  unfold rng1M rngD
  congr 1
  funext r s'
  cases r.2 with
  | int j =>
    by_cases h : gd (-(2 ^ 62) ≤ j ∧ j < 2 ^ 62) = true
    · simp only [if_pos h]
    · simp only [if_neg h]
  | _ => rfl
theorem rng_int {i : Int} (h0 : 0 ≤ i) (h : i ≤ 16777216) : rngD (.int i) = some (intsD 0 i.toNat) := by
  unfold rngD
  have h1 : -(2 ^ 62) ≤ i := Int.le_trans (by decide) h0
  have h2 : i < 2 ^ 62 := Int.lt_of_le_of_lt h (by decide)
  simp only [if_pos (gd_yes (And.intro h1 h2))]
theorem rng_nat {n : Nat} (h : n ≤ sizeLine) : rngD (.int n) = some (intsD 0 n) := by
  have e : sizeLine = 16777216 := by decide +kernel
  rw [e] at h
  have := rng_int (i := (n : Int)) (Int.natCast_nonneg _) (by omega)
  rw [this, Int.toNat_natCast]
@[simp] theorem ev_for (it : M (List D)) (t : Tg) (b : M Fl) : forM it t b s = (it s).bind fun ds s1 => forL t b ds s1 := rfl
@[simp] theorem ev_for0 (t : Tg) (b : M Fl) : forL t b [] s = .ok .nx s := rfl
@[simp] theorem ev_for1 (t : Tg) (b : M Fl) (d : D) (ds : List D) : forL t b (d :: ds) s = match t.put d s with
    | none => .stuck
    | some s1 => (b s1).bind fun fl s2 => (match fl with
      | .bk => .ok .nx s2
      | .rt fr d => .ok (.rt fr d) s2
      | _ => forL t b ds s2) := rfl
@[simp] theorem ev_flat0 : flat2 [] = [] := rfl
@[simp] theorem ev_flat1 (k v : M (Bool × D)) (r : List (M (Bool × D) × M (Bool × D))) : flat2 ((k, v) :: r) = k :: v :: flat2 r := rfl
@[simp] theorem ev_kp0 : kpairs [] = some [] := rfl
@[simp] theorem ev_kpS (x : Str) (d : D) (r : List D) : kpairs (.str x :: d :: r) = (kpairs r).map fun ps => (.inr x, d) :: ps := rfl
@[simp] theorem ev_kpI (x : Int) (d : D) (r : List D) : kpairs (.int x :: d :: r) = (kpairs r).map fun ps => (.inl x, d) :: ps := rfl
@[simp] theorem ev_comp (it : M (List D)) (t : Tg) (tt : M Bool) (te : M (Bool × D)) (vs : List Nat) : compM it t tt te vs s = (it s).bind fun ds s1 => (lcL t tt te vs ds [] (killAll s1 vs)).bind fun acc s2 => .ok (true, .lst acc) s2 := rfl
@[simp] theorem ev_yes : yesM s = .ok true s := rfl
@[simp] theorem ev_str (a : Opd) : strM a s = op1 a (fun x s => match x with
  | .str x => .ok (false, .str x) s
  | _ => .stuck) s := rfl
@[simp] theorem ev_meth (g : Str → List D → Option (Bool × D)) (o : Opd) (as : List Opd) : methS g o as s = opsM (.ex (strM o) :: as) (fun ds s => match ds with
  | .str x :: xs => (match g x xs with
    | some r => .ok r s
    | none => .stuck)
  | _ => .stuck) s := rfl
@[simp] theorem ev_int (a : Opd) : intM a s = op1 a (fun x s => match x with
  | .int i => .ok (false, .int i) s
  | _ => .stuck) s := rfl
@[simp] theorem ev_neg (a : Opd) : negM a s = op1 a (fun x s => match x with
  | .int i => .ok (false, .int (-i)) s
  | _ => .stuck) s := rfl
@[simp] theorem ev_putN (i : Nat) (d : D) : (Tg.nm i).put d s = putS s i .sh d := by rw [Tg.put]
end

section
variable {i j : Int} {x y : Str} {b c : Bool} {ds es : List D}
@[simp] theorem v_eqI {n : Bool} : eqS n (.int i) (.int j) = some (false, .bl (if n then !decide (i = j) else decide (i = j))) := rfl
@[simp] theorem v_eqT {n : Bool} : eqS n (.str x) (.str y) = some (false, .bl (if n then !decide (x = y) else decide (x = y))) := rfl
@[simp] theorem v_eqB {n : Bool} : eqS n (.bl b) (.bl c) = some (false, .bl (if n then !decide (b = c) else decide (b = c))) := rfl
@[simp] theorem v_ordI {f : Int → Int → Bool} {g : List Nat → List Nat → Bool} : ordD f g (.int i) (.int j) = some (false, .bl (f i j)) := rfl
@[simp] theorem v_ordS {f : Int → Int → Bool} {g : List Nat → List Nat → Bool} : ordD f g (.str x) (.str y) = some (false, .bl (g x.cps.toList y.cps.toList)) := rfl
@[simp] theorem v_int {C : Int → Int → Bool} {f : Int → Int → Int} : intD C f (.int i) (.int j) = if C i j then some (false, .int (f i j)) else none := rfl
@[simp] theorem v_addI : addD (.int i) (.int j) = some (false, .int (i + j)) := rfl
@[simp] theorem v_addS : addD (.str x) (.str y) = if x.length + y.length ≤ sizeLine then some (false, .str (x ++ y)) else none := rfl
@[simp] theorem v_addL : addD (.lst ds) (.lst es) = if ds.length + es.length ≤ sizeLine then some (true, .lst (ds ++ es)) else none := rfl
@[simp] theorem v_addT : addD (.tup ds) (.tup es) = if ds.length + es.length ≤ sizeLine then some (false, .tup (ds ++ es)) else none := rfl
@[simp] theorem v_lenL : lenD (.lst ds) = some (false, .int ds.length) := rfl
@[simp] theorem v_lenT : lenD (.tup ds) = some (false, .int ds.length) := rfl
@[simp] theorem v_lenF : lenD (.fro ds) = some (false, .int ds.length) := rfl
@[simp] theorem v_lenS : lenD (.str x) = if x.length ≤ sizeLine then some (false, .int x.length) else none := rfl
@[simp] theorem v_toI : toInt (.int i) = some (false, .int i) := rfl
@[simp] theorem v_abs : absD (.int i) = some (false, .int (if i < 0 then -i else i)) := rfl
@[simp] theorem v_truI : truD (.int i) = some (i != 0) := rfl
@[simp] theorem v_truB : truD (.bl b) = some b := rfl
@[simp] theorem v_truN : truD .non = some false := rfl
@[simp] theorem v_truL : truD (.lst ds) = some (!ds.isEmpty) := rfl
@[simp] theorem v_truT : truD (.tup ds) = some (!ds.isEmpty) := rfl
@[simp] theorem v_ixL : ixD (.lst ds) (.int i) = (atI ds i).map fun d => (false, d) := rfl
@[simp] theorem v_ixT : ixD (.tup ds) (.int i) = (atI ds i).map fun d => (false, d) := rfl
@[simp] theorem v_ixF : ixD (.fro ds) (.int i) = (atI ds i).map fun d => (false, d) := rfl
@[simp] theorem v_ixS : ixD (.str x) (.int i) = if x.length ≤ sizeLine then (atI x.cps.toList i).map fun c => (false, .str ⟨#[c]⟩) else none := rfl
@[simp] theorem v_app {d : D} : appD ds d = if ds.length < sizeLine then some (ds ++ [d]) else none := rfl
@[simp] theorem v_isN1 {n : Bool} : isD n .non .non = some (false, .bl (!n)) := rfl
theorem at_nat {α : Type} {xs : List α} {n : Nat} : atI xs (n : Int) = xs[n]? := by
  unfold atI ixN
  rw [if_pos (by omega)]
  by_cases h : n < xs.length
  · rw [if_pos (by omega)]; simp
  · rw [if_neg (by omega)]; simp; omega
theorem at_lt {α : Type} {xs : List α} (h0 : 0 ≤ i) (h : i < xs.length) : atI xs i = some (xs[i.toNat]'(by omega)) := by
  unfold atI ixN
  rw [if_pos h0, if_pos h]
  simp
end
section
variable {cs : List Int} {a l e t m : Int}
theorem g_mul1 {i j : Int} (h : -18446744073709551616 < j ∧ j < 18446744073709551616) : gd ((-(2 ^ 64) < i ∧ i < 2 ^ 64) ∨ (-(2 ^ 64) < j ∧ j < 2 ^ 64)) = true := gd_yes (.inr h)
theorem g_div {m : Int} (h3 : 0 < m) (h4 : m < 1073741824) : gd (0 < m ∧ m < 1073741824) = true := gd_yes ⟨h3, h4⟩
theorem m_all (x : Int) : -18446744073709551616 < x % 2147483647 ∧ x % 2147483647 < 18446744073709551616 := by omega
theorem m_lo (x : Int) : -18446744073709551616 < x % 2147483647 := by omega
theorem m_hi (x : Int) : x % 2147483647 < 18446744073709551616 := by omega
/-- what a draw gives -/
def TkOk (cs : List Int) (e m : Int) (R : Res Fl) : Prop := ∃ (r a l t : Int) (rest : S), 0 ≤ r ∧ r < m ∧ 0 ≤ a ∧ 0 ≤ l ∧ R = .ok (.rt false (.int r)) (some (.io, tpD (cs.map .int) a l e t) :: rest)
theorem take_c (h0 : 0 ≤ a) (hl : 0 ≤ l) (h3 : 0 < m) (h4 : m < 1073741824) : TkOk cs e m (takeC [some (.io, tpD (cs.map .int) a l e t), some (.sh, .int m), none, none]) := by
  unfold takeC
  by_cases h2 : 0 < l
  · simp [tp_left, tp_at, tp_cells, tp_seed, tp_salt, st_at, st_left, st_salt, h2, h3, h4]
    exact ⟨_, _, _, _, _, Int.emod_nonneg _ (by omega), Int.emod_lt_of_pos _ h3, h0, Int.ediv_nonneg hl (by omega), rfl⟩
  · simp [tp_left, tp_at, tp_cells, tp_seed, tp_salt, st_at, st_left, st_salt, h2, h3, h4, m_lo, m_hi]
    exact ⟨_, _, _, _, _, Int.emod_nonneg _ (by omega), Int.emod_lt_of_pos _ h3, h0, hl, rfl⟩
theorem take_ok (h0 : 0 ≤ a) (hl : 0 ≤ l) (hc : ∀ c ∈ cs, 0 ≤ c) (h3 : 0 < m) (h4 : m < 1073741824) : TkOk cs e m (takeB [some (.io, tpD (cs.map .int) a l e t), some (.sh, .int m), none, none]) := by
  unfold takeB
  rw [ev_seq]
  by_cases h1 : l = 0 ∧ a < cs.length
  · obtain ⟨rfl, h2⟩ := h1
    have e1 : atI (cs.map D.int) a = some (.int (cs[a.toNat]'(by omega))) := by rw [at_lt h0 (by simpa using h2)]; simp
    have e2 : takeA [some (.io, tpD (cs.map .int) a 0 e t), some (.sh, .int m), none, none] = .ok .nx [some (.io, tpD (cs.map .int) (a + 1) (cs[a.toNat]'(by omega)) e t), some (.sh, .int m), none, none] := by
      unfold takeA
      simp [tp_left, tp_at, tp_cells, tp_seed, tp_salt, st_at, st_left, st_salt, h2, e1]
    rw [e2]
    exact take_c (by omega) (hc _ (List.getElem_mem _)) h3 h4
  · have e2 : takeA [some (.io, tpD (cs.map .int) a l e t), some (.sh, .int m), none, none] = .ok .nx [some (.io, tpD (cs.map .int) a l e t), some (.sh, .int m), none, none] := by
      unfold takeA
      by_cases h2 : l = 0
      · have h5 : ¬ a < cs.length := fun q => h1 ⟨h2, q⟩
        simp [tp_left, tp_at, tp_cells, tp_seed, tp_salt, st_at, st_left, st_salt, h2, h5]
      · simp [tp_left, tp_at, tp_cells, tp_seed, tp_salt, st_at, st_left, st_salt, h2]
    rw [e2]
    exact take_c h0 hl h3 h4
/-- a tape -/
def Tape (d : D) : Prop := ∃ (cs : List Int) (a l e t : Int), d = tpD (cs.map .int) a l e t ∧ 0 ≤ a ∧ 0 ≤ l ∧ ∀ c ∈ cs, 0 ≤ c
theorem take_run {d : D} (h : Tape d) (h3 : 0 < m) (h4 : m < 1073741824) : ∃ (r : Int) (d' : D), 0 ≤ r ∧ r < m ∧ Tape d' ∧ runF [0] 2 4 takeB [d, .int m] = .ret false (.int r) [d'] := by
  obtain ⟨cs, a, l, e, t, rfl, h0, hl, hc⟩ := h
  obtain ⟨r, a', l', t', rest, r0, r1, r2, r3, eq⟩ := take_ok (e := e) (t := t) h0 hl hc h3 h4
  refine ⟨r, _, r0, r1, ⟨cs, a', l', e, t', rfl, r2, r3, hc⟩, ?_⟩
  have e0 : initS [0] 4 [tpD (cs.map .int) a l e t, .int m] = [some (.io, tpD (cs.map .int) a l e t), some (.sh, .int m), none, none] := rfl
  unfold runF
  simp only [List.length_cons, List.length_nil, e0, eq]
  rfl
theorem cells_run : ∀ (ns : List Int) (acc : List D) (x1 x2 : Slot), acc.length + ns.length ≤ 63 → lcL (.nm 3) yesM (unM absD (.ex (unM toInt (.sl 3)))) [3] (ns.map .int) acc [x1, none, none, none] = .ok (acc ++ ns.map fun i => D.int (if i < 0 then -i else i)) [x1, none, none, none]
  | [], acc, x1, x2, h => by simp [lcL]
  | n :: ns, acc, x1, x2, h => by
    have hz : acc.length < sizeLine := Nat.lt_of_lt_of_le (by simp at h; omega) (show 64 ≤ sizeLine by decide)
    have ih := cells_run ns (acc ++ [D.int (if n < 0 then -n else n)]) x1 x2 (by simp at h ⊢; omega)
    simp [lcL, killAll, nox, hz, ih]
theorem seed_run : ∀ (cs : List Int) (x0 x1 x3 : Slot) (e : Int), (∀ d, x3 ≠ some (.io, d)) → ∃ (e' : Int) (x3' : Slot), forL (.nm 3) (setM 2 (binM modD (.ex (unM toInt (.ex (binM addD (.ex (binM mulD (.sl 2) (.ex (constM (.int 31))))) (.sl 3))))) (.ex (constM (.int 2147483647))))) (cs.map .int) [x0, x1, some (.sh, .int e), x3] = .ok .nx [x0, x1, some (.sh, .int e'), x3']
  | [], x0, x1, x3, e, _ => ⟨e, x3, rfl⟩
  | c :: cs, x0, x1, x3, e, h => by
    obtain ⟨e', x3', ih⟩ := seed_run cs x0 x1 (some (.sh, .int c)) ((e * 31 + c) % 2147483647) (by simp)
    refine ⟨e', x3', ?_⟩
    rw [← ih]
    have ep : (Tg.nm 3).put (.int c) [x0, x1, some (.sh, .int e), x3] = some [x0, x1, some (.sh, .int e), some (.sh, .int c)] := by
      match x3, h with
      | none, _ => rfl
      | some (.sh, _), _ => rfl
      | some (.ow, _), _ => rfl
      | some (.io, d), h => exact absurd rfl (h d)
    rw [List.map_cons, ev_for1, ep]
    simp
theorem tape_run (ns : List Int) (h : ns.length ≤ 63) : ∃ d : D, Tape d ∧ runF [] 1 4 tapeB [.fro (ns.map .int)] = .ret true d [] := by
  have e0 : initS [] 4 [.fro (ns.map .int)] = [some (.sh, .fro (ns.map .int)), none, none, none] := rfl
  obtain ⟨e', x3', hs⟩ := seed_run (ns.map fun i => if i < 0 then -i else i) (some (.sh, .fro (ns.map .int))) (some (.sh, .lst (ns.map fun i => D.int (if i < 0 then -i else i)))) none 7 (by simp)
  have hc := cells_run ns [] (some (.sh, .fro (ns.map .int))) none (by simpa using h)
  have em : (ns.map fun i => if i < 0 then -i else i).map D.int = ns.map fun i => D.int (if i < 0 then -i else i) := by simp [Function.comp_def]
  refine ⟨tpD ((ns.map fun i => if i < 0 then -i else i).map .int) 0 0 e' 0, ⟨_, 0, 0, e', 0, rfl, Int.le_refl 0, Int.le_refl 0, fun c m => ?_⟩, ?_⟩
  · obtain ⟨i, _, rfl⟩ := List.mem_map.mp m
    split <;> omega
  · have ev : tapeB (initS [] 4 [.fro (ns.map .int)]) = .ok (.rt true (tpD ((ns.map fun i => if i < 0 then -i else i).map .int) 0 0 e' 0)) [some (.sh, .fro (ns.map .int)), some (.sh, .lst (ns.map fun i => D.int (if i < 0 then -i else i))), some (.sh, .int e'), x3'] := by
      rw [e0]
      unfold tapeB
      rw [em] at hs ⊢
      simp only [List.nil_append] at hc
      simp [killAll, hc, hs]
      rfl
    unfold runF
    simp only [List.length_cons, List.length_nil, ev]
    rfl
end
end PV

/-! PV: isinstance at each kind; _law_same says True of a value and itself. -/
namespace PV
open PySem PySem.Spec L2
section
variable {b : Bool} {i : Int} {x : Str} {ds : List D} {ks : List (Key × D)}
@[simp] theorem is_non_bool : isiD D.non (.ty "bool") = some (false, .bl false) := Eq.trans (by rfl) rfl
@[simp] theorem is_non_int : isiD D.non (.ty "int") = some (false, .bl false) := Eq.trans (by rfl) rfl
@[simp] theorem is_non_str : isiD D.non (.ty "str") = some (false, .bl false) := Eq.trans (by rfl) rfl
@[simp] theorem is_non_tuple : isiD D.non (.ty "tuple") = some (false, .bl false) := Eq.trans (by rfl) rfl
@[simp] theorem is_non_list : isiD D.non (.ty "list") = some (false, .bl false) := Eq.trans (by rfl) rfl
@[simp] theorem is_non_dict : isiD D.non (.ty "dict") = some (false, .bl false) := Eq.trans (by rfl) rfl
@[simp] theorem is_bl_bool : isiD (D.bl b) (.ty "bool") = some (false, .bl true) := Eq.trans (by rfl) rfl
@[simp] theorem is_bl_int : isiD (D.bl b) (.ty "int") = some (false, .bl true) := Eq.trans (by rfl) rfl
@[simp] theorem is_bl_str : isiD (D.bl b) (.ty "str") = some (false, .bl false) := Eq.trans (by rfl) rfl
@[simp] theorem is_bl_tuple : isiD (D.bl b) (.ty "tuple") = some (false, .bl false) := Eq.trans (by rfl) rfl
@[simp] theorem is_bl_list : isiD (D.bl b) (.ty "list") = some (false, .bl false) := Eq.trans (by rfl) rfl
@[simp] theorem is_bl_dict : isiD (D.bl b) (.ty "dict") = some (false, .bl false) := Eq.trans (by rfl) rfl
@[simp] theorem is_int_bool : isiD (D.int i) (.ty "bool") = some (false, .bl false) := Eq.trans (by rfl) rfl
@[simp] theorem is_int_int : isiD (D.int i) (.ty "int") = some (false, .bl true) := Eq.trans (by rfl) rfl
@[simp] theorem is_int_str : isiD (D.int i) (.ty "str") = some (false, .bl false) := Eq.trans (by rfl) rfl
@[simp] theorem is_int_tuple : isiD (D.int i) (.ty "tuple") = some (false, .bl false) := Eq.trans (by rfl) rfl
@[simp] theorem is_int_list : isiD (D.int i) (.ty "list") = some (false, .bl false) := Eq.trans (by rfl) rfl
@[simp] theorem is_int_dict : isiD (D.int i) (.ty "dict") = some (false, .bl false) := Eq.trans (by rfl) rfl
@[simp] theorem is_str_bool : isiD (D.str x) (.ty "bool") = some (false, .bl false) := Eq.trans (by rfl) rfl
@[simp] theorem is_str_int : isiD (D.str x) (.ty "int") = some (false, .bl false) := Eq.trans (by rfl) rfl
@[simp] theorem is_str_str : isiD (D.str x) (.ty "str") = some (false, .bl true) := Eq.trans (by rfl) rfl
@[simp] theorem is_str_tuple : isiD (D.str x) (.ty "tuple") = some (false, .bl false) := Eq.trans (by rfl) rfl
@[simp] theorem is_str_list : isiD (D.str x) (.ty "list") = some (false, .bl false) := Eq.trans (by rfl) rfl
@[simp] theorem is_str_dict : isiD (D.str x) (.ty "dict") = some (false, .bl false) := Eq.trans (by rfl) rfl
@[simp] theorem is_tup_bool : isiD (D.tup ds) (.ty "bool") = some (false, .bl false) := Eq.trans (by rfl) rfl
@[simp] theorem is_tup_int : isiD (D.tup ds) (.ty "int") = some (false, .bl false) := Eq.trans (by rfl) rfl
@[simp] theorem is_tup_str : isiD (D.tup ds) (.ty "str") = some (false, .bl false) := Eq.trans (by rfl) rfl
@[simp] theorem is_tup_tuple : isiD (D.tup ds) (.ty "tuple") = some (false, .bl true) := Eq.trans (by rfl) rfl
@[simp] theorem is_tup_list : isiD (D.tup ds) (.ty "list") = some (false, .bl false) := Eq.trans (by rfl) rfl
@[simp] theorem is_tup_dict : isiD (D.tup ds) (.ty "dict") = some (false, .bl false) := Eq.trans (by rfl) rfl
@[simp] theorem is_lst_bool : isiD (D.lst ds) (.ty "bool") = some (false, .bl false) := Eq.trans (by rfl) rfl
@[simp] theorem is_lst_int : isiD (D.lst ds) (.ty "int") = some (false, .bl false) := Eq.trans (by rfl) rfl
@[simp] theorem is_lst_str : isiD (D.lst ds) (.ty "str") = some (false, .bl false) := Eq.trans (by rfl) rfl
@[simp] theorem is_lst_tuple : isiD (D.lst ds) (.ty "tuple") = some (false, .bl false) := Eq.trans (by rfl) rfl
@[simp] theorem is_lst_list : isiD (D.lst ds) (.ty "list") = some (false, .bl true) := Eq.trans (by rfl) rfl
@[simp] theorem is_lst_dict : isiD (D.lst ds) (.ty "dict") = some (false, .bl false) := Eq.trans (by rfl) rfl
@[simp] theorem is_fro_bool : isiD (D.fro ds) (.ty "bool") = some (false, .bl false) := Eq.trans (by rfl) rfl
@[simp] theorem is_fro_int : isiD (D.fro ds) (.ty "int") = some (false, .bl false) := Eq.trans (by rfl) rfl
@[simp] theorem is_fro_str : isiD (D.fro ds) (.ty "str") = some (false, .bl false) := Eq.trans (by rfl) rfl
@[simp] theorem is_fro_tuple : isiD (D.fro ds) (.ty "tuple") = some (false, .bl false) := Eq.trans (by rfl) rfl
@[simp] theorem is_fro_list : isiD (D.fro ds) (.ty "list") = some (false, .bl true) := Eq.trans (by rfl) rfl
@[simp] theorem is_fro_dict : isiD (D.fro ds) (.ty "dict") = some (false, .bl false) := Eq.trans (by rfl) rfl
@[simp] theorem is_dct_bool : isiD (D.dct ks) (.ty "bool") = some (false, .bl false) := Eq.trans (by rfl) rfl
@[simp] theorem is_dct_int : isiD (D.dct ks) (.ty "int") = some (false, .bl false) := Eq.trans (by rfl) rfl
@[simp] theorem is_dct_str : isiD (D.dct ks) (.ty "str") = some (false, .bl false) := Eq.trans (by rfl) rfl
@[simp] theorem is_dct_tuple : isiD (D.dct ks) (.ty "tuple") = some (false, .bl false) := Eq.trans (by rfl) rfl
@[simp] theorem is_dct_list : isiD (D.dct ks) (.ty "list") = some (false, .bl false) := Eq.trans (by rfl) rfl
@[simp] theorem is_dct_dict : isiD (D.dct ks) (.ty "dict") = some (false, .bl true) := Eq.trans (by rfl) rfl
@[simp] theorem isN_non {g : Bool} : isD g D.non .non = some (false, .bl (!g)) := Eq.trans (by rfl) rfl
@[simp] theorem isN_bl {g : Bool} : isD g (D.bl b) .non = some (false, .bl g) := Eq.trans (by rfl) rfl
@[simp] theorem isN_int {g : Bool} : isD g (D.int i) .non = some (false, .bl g) := Eq.trans (by rfl) rfl
@[simp] theorem isN_str {g : Bool} : isD g (D.str x) .non = some (false, .bl g) := Eq.trans (by rfl) rfl
@[simp] theorem isN_tup {g : Bool} : isD g (D.tup ds) .non = some (false, .bl g) := Eq.trans (by rfl) rfl
@[simp] theorem isN_lst {g : Bool} : isD g (D.lst ds) .non = some (false, .bl g) := Eq.trans (by rfl) rfl
@[simp] theorem isN_fro {g : Bool} : isD g (D.fro ds) .non = some (false, .bl g) := Eq.trans (by rfl) rfl
@[simp] theorem isN_dct {g : Bool} : isD g (D.dct ks) .non = some (false, .bl g) := Eq.trans (by rfl) rfl
end
theorem runF_rt {ios : List Nat} {n m : Nat} {f : M Fl} {ds : List D} {fr : Bool} {d : D} {s : S} {outs : List D} (e : f (initS ios m ds) = .ok (.rt fr d) s) (hn : ds.length = n) (ho : outsOf s ios = some outs) : runF ios n m f ds = .ret fr d outs := by
  unfold runF
  rw [if_pos hn, e]
  simp only [ho]
theorem runF_nx {ios : List Nat} {n m : Nat} {f : M Fl} {ds : List D} {s : S} {outs : List D} (e : f (initS ios m ds) = .ok .nx s) (hn : ds.length = n) (ho : outsOf s ios = some outs) : runF ios n m f ds = .ret false .non outs := by
  unfold runF
  rw [if_pos hn, e]
  simp only [ho]
noncomputable def isIntB : M Fl :=
  (retM (andV (binM isiD (.sl 0) (.ex (constM (.ty "int")))) (notV (.ex (binM isiD (.sl 0) (.ex (constM (.ty "bool"))))))))
noncomputable def itemsB (sm : FS) : M Fl :=
  (seqM (iteM (truB (binM (eqS true) (.ex (unM lenD (.sl 0))) (.ex (unM lenD (.sl 1))))) (retM (constM (.bl false))) nxM)
    (seqM (forM (rng1M (unM lenD (.sl 1))) (.nm 2) (iteM (notM (truM (.ex (callM sm [.ex (binM ixD (.sl 0) (.sl 2)), .ex (binM ixD (.sl 1) (.sl 2))])))) (retM (constM (.bl false))) nxM))
    (retM (constM (.bl true)))))
noncomputable def sameB (ii it sm : FS) : M Fl :=
  (seqM (iteM (truB (binM (isD false) (.sl 1) (.ex (constM .non)))) (retM (binM (isD false) (.sl 0) (.ex (constM .non)))) nxM)
    (seqM (iteM (truM (.ex (binM isiD (.sl 1) (.ex (constM (.ty "bool")))))) (retM (andV (binM isiD (.sl 0) (.ex (constM (.ty "bool")))) (binM (eqS false) (.sl 0) (.sl 1)))) nxM)
    (seqM (iteM (truM (.ex (binM isiD (.sl 1) (.ex (constM (.ty "int")))))) (retM (andV (callM ii [.ex (varM 0)]) (binM (eqS false) (.sl 0) (.sl 1)))) nxM)
    (seqM (iteM (truM (.ex (binM isiD (.sl 1) (.ex (constM (.ty "str")))))) (retM (andV (binM isiD (.sl 0) (.ex (constM (.ty "str")))) (binM (eqS false) (.sl 0) (.sl 1)))) nxM)
    (seqM (iteM (truM (.ex (binM isiD (.sl 1) (.ex (constM (.ty "tuple")))))) (retM (andV (binM isiD (.sl 0) (.ex (constM (.ty "tuple")))) (callM it [.ex (varM 0), .ex (varM 1)]))) nxM)
    (seqM (iteM (truM (.ex (binM isiD (.sl 1) (.ex (constM (.ty "list")))))) (retM (andV (binM isiD (.sl 0) (.ex (constM (.ty "list")))) (callM it [.ex (varM 0), .ex (varM 1)]))) nxM)
    (seqM (iteM (orM (notM (truM (.ex (binM isiD (.sl 0) (.ex (constM (.ty "dict"))))))) (truB (binM (eqS true) (.ex (unM lenD (.sl 0))) (.ex (unM lenD (.sl 1)))))) (retM (constM (.bl false))) nxM)
    (seqM (forM (itM (varM 1)) (.nm 2) (iteM (orM (truB (binM (inD true) (.sl 2) (.sl 0))) (notM (truM (.ex (callM sm [.ex (binM ixD (.sl 0) (.sl 2)), .ex (binM ixD (.sl 1) (.sl 2))]))))) (retM (constM (.bl false))) nxM))
    (seqM (forM (itM (varM 0)) (.nm 2) (iteM (truM (.ex (binM isiD (.sl 2) (.ex (constM (.ty "bool")))))) (retM (constM (.bl false))) nxM))
    (retM (constM (.bl true))))))))))))
/-- plain values of some depth -/
def pl : Nat → D → Bool
  | 0, _ => false
  | _ + 1, .non => true
  | _ + 1, .bl _ => true
  | _ + 1, .int _ => true
  | _ + 1, .str _ => true
  | n + 1, .tup ds => ds.all (pl n) && decide (ds.length ≤ sizeLine)
  | n + 1, .lst ds => ds.all (pl n) && decide (ds.length ≤ sizeLine)
  | _ + 1, _ => false
theorem isInt_int (i : Int) : runF [] 1 1 isIntB [.int i] = .ret false (.bl true) [] := by
  have e : isIntB (initS [] 1 [.int i]) = .ok (.rt false (.bl true)) [some (.sh, .int i)] := by
    rw [show initS [] 1 [.int i] = [some (.sh, .int i)] from rfl]
    unfold isIntB
    simp
  exact runF_rt e rfl rfl
@[simp] theorem ios_e (f : M (Bool × D)) (os : List Opd) : ioSlots (.ex f :: os) = ioSlots os := rfl
@[simp] theorem ios_s (i : Nat) (os : List Opd) : ioSlots (.sl i :: os) = i :: ioSlots os := rfl
@[simp] theorem ios_0 : ioSlots [] = [] := rfl
@[simp] theorem wb_0 {s : S} : wb s [] [] = some s := rfl
@[simp] theorem wb_1 {s : S} {i : Nat} {is : List Nat} {d : D} {ds : List D} : wb s (i :: is) (d :: ds) = match s[i]? with
    | some (some (o, _)) => wb (s.set i (some (o, d))) is ds
    | _ => none := rfl
@[simp] theorem isMut_0 {s : S} {i : Nat} : isMut s i = match s[i]? with
  | some (some (o, d)) => decide (o ≠ .sh) && ulB d
  | _ => false := rfl
@[simp] theorem ul_lst {ds : List D} : ulB (.lst ds) = true := rfl
@[simp] theorem ul_dct {ds : List (Key × D)} : ulB (.dct ds) = true := rfl
@[simp] theorem ul_tp {cs : List D} {a l e t : Int} : ulB (tpD cs a l e t) = true := rfl
theorem tape_ul {d : D} (h : Tape d) : ulB d = true := by
  obtain ⟨_, _, _, _, _, rfl, _⟩ := h
  rfl
theorem items_loop {sm : FS} {x y : D} {n : Nat} (h : ∀ j : Nat, j < n → ∃ d fr, ixD x (.int j) = some (false, d) ∧ ixD y (.int j) = some (false, d) ∧ sm [d, d] = .ret fr (.bl true) []) :
    ∀ (js : List Nat) (z : Slot), (∀ d, z ≠ some (.io, d)) → (∀ j ∈ js, j < n) → ∃ z' : Slot, forL (.nm 2) (iteM (notM (truM (.ex (callM sm [.ex (binM ixD (.sl 0) (.sl 2)), .ex (binM ixD (.sl 1) (.sl 2))])))) (retM (constM (.bl false))) nxM) (js.map fun i => .int (0 + (i : Nat))) [some (.sh, x), some (.sh, y), z] = .ok .nx [some (.sh, x), some (.sh, y), z']
  | [], z, _, _ => ⟨z, rfl⟩
  | j :: js, z, hz, hj => by
    obtain ⟨z', ih⟩ := items_loop h js (some (.sh, .int j)) (by simp) fun i m => hj i (List.mem_cons_of_mem _ m)
    refine ⟨z', ?_⟩
    rw [← ih]
    obtain ⟨d, fr, e1, e2, e3⟩ := h j (hj j List.mem_cons_self)
    have ep : (Tg.nm 2).put (.int (0 + (j : Nat))) [some (.sh, x), some (.sh, y), z] = some [some (.sh, x), some (.sh, y), some (.sh, .int j)] := by
      rw [Int.zero_add]
      match z, hz with
      | none, _ => rfl
      | some (.sh, _), _ => rfl
      | some (.ow, _), _ => rfl
      | some (.io, d), h => exact absurd rfl (h d)
    rw [List.map_cons, ev_for1, ep]
    simp [e1, e2, e3]
theorem items_run {sm : FS} {x y : D} {n : Nat} (hn : n ≤ sizeLine) (lx : lenD x = some (false, .int n)) (ly : lenD y = some (false, .int n)) (h : ∀ j : Nat, j < n → ∃ d fr, ixD x (.int j) = some (false, d) ∧ ixD y (.int j) = some (false, d) ∧ sm [d, d] = .ret fr (.bl true) []) :
    runF [] 2 3 (itemsB sm) [x, y] = .ret false (.bl true) [] := by
  obtain ⟨z', hl⟩ := items_loop h (List.range n) none (by simp) fun j m => List.mem_range.mp m
  have e : itemsB sm (initS [] 3 [x, y]) = .ok (.rt false (.bl true)) [some (.sh, x), some (.sh, y), z'] := by
    rw [show initS [] 3 [x, y] = [some (.sh, x), some (.sh, y), none] from rfl]
    unfold itemsB
    have hl2 : forL (.nm 2) (iteM (notM (truM (.ex (callM sm [.ex (binM ixD (.sl 0) (.sl 2)), .ex (binM ixD (.sl 1) (.sl 2))])))) (retM (constM (.bl false))) nxM) (intsD 0 n) [some (.sh, x), some (.sh, y), none] = .ok .nx [some (.sh, x), some (.sh, y), z'] := hl
    simp [lx, ly, hl2, rng_nat hn]
  exact runF_rt e rfl rfl
theorem same_refl {sm it ii : Nat → FS} (hs : ∀ k, sm (k + 1) = runF [] 2 3 (sameB (ii k) (it k) (sm k))) (hi : ∀ k, it (k + 1) = runF [] 2 3 (itemsB (sm k))) (hz : ∀ k, ii (k + 1) = runF [] 1 1 isIntB) :
    ∀ (n k : Nat) (d : D), pl n d = true → 2 * n + 1 ≤ k → sm k [d, d] = .ret false (.bl true) [] := by
  intro n
  induction n with
  | zero => intro k d h _; simp [pl] at h
  | succ n ihn =>
    intro k d h hk
    obtain ⟨k, rfl⟩ : ∃ k', k = k' + 2 := ⟨k - 2, by omega⟩
    have ih : ∀ e, pl n e = true → sm k [e, e] = .ret false (.bl true) [] := fun e he => ihn k e he (by omega)
    rw [hs]
    have e0 : initS [] 3 [d, d] = [some (.sh, d), some (.sh, d), none] := rfl
    match d, h with
    | .non, _ =>
      refine runF_rt (s := [some (.sh, .non), some (.sh, .non), none]) ?_ rfl rfl
      rw [e0]; unfold sameB; simp (implicitDefEqProofs := false)
    | .bl b, _ =>
      refine runF_rt (s := [some (.sh, .bl b), some (.sh, .bl b), none]) ?_ rfl rfl
      rw [e0]; unfold sameB; simp (implicitDefEqProofs := false)
    | .int i, _ =>
      refine runF_rt (s := [some (.sh, .int i), some (.sh, .int i), none]) ?_ rfl rfl
      rw [e0]; unfold sameB; simp (implicitDefEqProofs := false) [hz, isInt_int]
    | .str x, _ =>
      refine runF_rt (s := [some (.sh, .str x), some (.sh, .str x), none]) ?_ rfl rfl
      rw [e0]; unfold sameB; simp (implicitDefEqProofs := false)
    | .tup ds, h =>
      rw [pl, Bool.and_eq_true, List.all_eq_true, decide_eq_true_eq] at h
      obtain ⟨h1, h2⟩ := h
      have hit : it (k + 1) [.tup ds, .tup ds] = .ret false (.bl true) [] := by
        rw [hi]
        refine items_run h2 rfl rfl fun j hj => ?_
        have ea : ixD (.tup ds) (.int j) = some (false, ds[j]) := by rw [v_ixT, at_nat, List.getElem?_eq_getElem hj]; rfl
        exact ⟨ds[j], false, ea, ea, ih _ (h1 _ (List.getElem_mem hj))⟩
      refine runF_rt (s := [some (.sh, .tup ds), some (.sh, .tup ds), none]) ?_ rfl rfl
      rw [e0]; unfold sameB; simp (implicitDefEqProofs := false) [hit]
    | .lst ds, h =>
      rw [pl, Bool.and_eq_true, List.all_eq_true, decide_eq_true_eq] at h
      obtain ⟨h1, h2⟩ := h
      have hit : it (k + 1) [.lst ds, .lst ds] = .ret false (.bl true) [] := by
        rw [hi]
        refine items_run h2 rfl rfl fun j hj => ?_
        have ea : ixD (.lst ds) (.int j) = some (false, ds[j]) := by rw [v_ixL, at_nat, List.getElem?_eq_getElem hj]; rfl
        exact ⟨ds[j], false, ea, ea, ih _ (h1 _ (List.getElem_mem hj))⟩
      refine runF_rt (s := [some (.sh, .lst ds), some (.sh, .lst ds), none]) ?_ rfl rfl
      rw [e0]; unfold sameB; simp (implicitDefEqProofs := false) [hit]
    | .fro _, h => simp [pl] at h
    | .dct _, h => simp [pl] at h
    | .ty _, h => simp [pl] at h
end PV

/-! PV: texts: where a sign stands. -/
namespace PV
open PySem PySem.Spec L2 PySem.StrLaws PySem.Builtin.Str
theorem occ_keeps (s sub : Str) (hi : Nat) : ∀ (l : List Nat) (st : Array Nat × Nat), st.fst.size = 1 → (forIn l st (occBody s sub hi 1)).run.fst = st.fst
  | [], st, h => rfl
  | a :: l, st, h => by
    rw [List.forIn_cons]
    unfold occBody
    rw [if_neg (by omega)]
    exact occ_keeps s sub hi l _ h
theorem occ_first (s sub : Str) (hi : Nat) (p : Nat → Bool) (hp : ∀ i, p i = true ↔ (i + sub.length ≤ hi ∧ subAt s sub i = true)) : ∀ (l : List Nat) (free : Nat), (∀ i ∈ l, free ≤ i) →
    (forIn l ((#[] : Array Nat), free) (occBody s sub hi 1)).run.fst.toList = (l.find? p).toList
  | [], free, _ => by simp
  | a :: l, free, hf => by
    rw [List.forIn_cons]
    unfold occBody
    have ha : free ≤ a := hf a List.mem_cons_self
    by_cases hc : a + sub.length ≤ hi ∧ subAt s sub a = true
    · have c1 : ((((#[] : Array Nat), free).fst.size < 1 ∧ ((#[] : Array Nat), free).snd ≤ a) ∧ a + sub.length ≤ hi) ∧ subAt s sub a = true := ⟨⟨⟨by simp, ha⟩, hc.1⟩, hc.2⟩
      rw [if_pos c1, List.find?_cons_of_pos ((hp a).mpr hc)]
      have := occ_keeps s sub hi l ((#[] : Array Nat).push a, a + sub.length) (by simp)
      show (forIn l ((#[] : Array Nat).push a, a + sub.length) (occBody s sub hi 1)).run.fst.toList = _
      rw [this]
      simp
    · have c2 : ¬ (((((#[] : Array Nat), free).fst.size < 1 ∧ ((#[] : Array Nat), free).snd ≤ a) ∧ a + sub.length ≤ hi) ∧ subAt s sub a = true) := fun h => hc ⟨h.1.2, h.2⟩
      rw [if_neg c2, List.find?_cons_of_neg (fun h => hc ((hp a).mp h))]
      exact occ_first s sub hi p hp l free fun i hi' => hf i (List.mem_cons_of_mem _ hi')
/-- where c stands next, from i on; the end if nowhere -/
def nextAt (l : List Nat) (c i : Nat) : Nat := i + ((l.drop i).takeWhile fun z => decide (z ≠ c)).length
theorem nextAt_le {l : List Nat} {c i : Nat} (h : i ≤ l.length) : nextAt l c i ≤ l.length := by
  unfold nextAt
  have := (List.takeWhile_sublist (fun z => decide (z ≠ c)) (l := l.drop i)).length_le
  rw [List.length_drop] at this
  omega
theorem nextAt_hit {l : List Nat} {c i : Nat} (h : l[i]? = some c) : nextAt l c i = i := by
  obtain ⟨h1, h2⟩ := List.getElem?_eq_some_iff.mp h
  unfold nextAt
  rw [List.drop_eq_getElem_cons h1, h2, List.takeWhile_cons_of_neg (by simp)]
  rfl
theorem nextAt_miss {l : List Nat} {c i z : Nat} (h : l[i]? = some z) (hz : z ≠ c) : nextAt l c i = nextAt l c (i + 1) := by
  obtain ⟨h1, h2⟩ := List.getElem?_eq_some_iff.mp h
  unfold nextAt
  rw [List.drop_eq_getElem_cons h1, h2, List.takeWhile_cons_of_pos (by simpa using hz), List.length_cons]
  omega
theorem nextAt_end {l : List Nat} {c i : Nat} (h : l.length ≤ i) : nextAt l c i = i := by
  unfold nextAt
  rw [List.drop_eq_nil_of_le h]
  rfl
theorem find_range (l : List Nat) (c : Nat) : ∀ (n i : Nat), i + n = l.length + 1 → ((List.range' i n).find? fun j => decide (l[j]? = some c)) = if nextAt l c i < l.length then some (nextAt l c i) else none
  | 0, i, h => by
    rw [nextAt_end (by omega), if_neg (by omega)]
    rfl
  | n + 1, i, h => by
    rw [List.range'_succ]
    by_cases hc : l[i]? = some c
    · rw [List.find?_cons_of_pos (by simpa using hc), nextAt_hit hc, if_pos (List.getElem?_eq_some_iff.mp hc).1]
    · rw [List.find?_cons_of_neg (by simpa using hc), find_range l c n (i + 1) (by omega)]
      by_cases hi : i < l.length
      · have e : l[i]? = some l[i] := List.getElem?_eq_getElem hi
        rw [nextAt_miss e fun q => hc (by rw [e, q])]
      · rw [nextAt_end (i := i) (by omega), nextAt_end (i := i + 1) (by omega), if_neg (by omega), if_neg (by omega)]
theorem find_one (x : Str) (c i : Nat) (h : i ≤ x.length) : Txt.find3 x ⟨#[c]⟩ (i : Int) = if nextAt x.cps.toList c i < x.cps.toList.length then ((nextAt x.cps.toList c i : Nat) : Int) else -1 := by
  have hl : x.cps.toList.length = x.length := by simp [Str.length]
  unfold Txt.find3
  have hf : fromIndex x.length (i : Int) = i := by unfold fromIndex; rw [if_neg (by omega)]; omega
  rw [hf, occ_eq]
  have key := occ_first x ⟨#[c]⟩ x.length (fun j => decide (x.cps.toList[j]? = some c)) (fun j => by rw [decide_eq_true_eq, subAt_one]) (List.range' i (x.length + 1 - i)) i (fun j m => (List.mem_range'_1.mp m).1)
  rw [key, find_range _ _ _ _ (by omega)]
  by_cases h5 : nextAt x.cps.toList c i < x.cps.toList.length
  · rw [if_pos h5, if_pos h5]; rfl
  · rw [if_neg h5, if_neg h5]; rfl
end PV

/-! PV: texts by their signs. -/
namespace PV
open PySem PySem.Spec L2
def tx (l : List Nat) : Str := ⟨l.toArray⟩
theorem tx_of (x : Str) : x = tx x.cps.toList := rfl
@[simp] theorem tx_list (l : List Nat) : (tx l).cps.toList = l := rfl
@[simp] theorem tx_len (l : List Nat) : (tx l).length = l.length := by simp [tx, Str.length]
theorem tx_inj {l m : List Nat} : tx l = tx m ↔ l = m := ⟨fun h => by simpa using congrArg (fun z : Str => z.cps.toList) h, fun h => by rw [h]⟩
/-- c stands in y -/
def hasC (y : Str) (c : Nat) : Bool := decide (c ∈ y.cps.toList)
section
variable {s : S} {l m : List Nat} {c i : Nat} {n : Bool}
@[simp] theorem t_len (hs : l.length ≤ sizeLine) : lenD (.str (tx l)) = some (false, .int l.length) := by simp [hs]
@[simp] theorem t_ix (hs : l.length ≤ sizeLine) (h : l[i]? = some c) : ixD (.str (tx l)) (.int i) = some (false, .str (tx [c])) := by
  rw [v_ixS, tx_len, if_pos hs, tx_list, at_nat, h]; rfl
@[simp] theorem t_in {y : Str} : inD n (.str (tx [c])) (.str y) = some (false, .bl (if n then !hasC y c else hasC y c)) := by
  have e : inStr (tx [c]) y = hasC y c := PySem.StrLaws.found_one y c
  unfold inD
  simp only [e]
theorem t_cut {i j : Nat} (h : i ≤ l.length) : cutS (tx l) (some (i : Int)) (some (j : Int)) = tx ((l.drop i).take (j - i)) := by
  unfold cutS
  rw [tx_list, tx_len, HT.sIx_nat, HT.sIx_nat, Nat.min_eq_left h]
  have : (l.drop i).take (min j l.length - i) = (l.drop i).take (j - i) := by
    by_cases hj : j ≤ l.length
    · rw [Nat.min_eq_left hj]
    · rw [Nat.min_eq_right (by omega), List.take_of_length_le (by simp), List.take_of_length_le (by simp; omega)]
  rw [this]
  rfl
theorem t_drop {i : Nat} (h : i ≤ l.length) : cutS (tx l) (some (i : Int)) none = tx (l.drop i) := by
  unfold cutS
  rw [tx_list, tx_len, HT.sIx_nat, HT.sIx_none, Nat.min_eq_left h]
  rw [List.take_of_length_le (by simp)]
  rfl
theorem t_slice {i j : Nat} (hs : l.length ≤ sizeLine) (h : i ≤ l.length) : sliceD (some (i : Int)) (some (j : Int)) (.str (tx l)) = some (false, .str (tx ((l.drop i).take (j - i)))) := by
  show (if (tx l).length ≤ sizeLine then some (false, D.str (cutS (tx l) (some (i : Int)) (some (j : Int)))) else none) = _
  rw [if_pos (by simpa using hs), t_cut h]
theorem t_tail {i : Nat} (hs : l.length ≤ sizeLine) (h : i ≤ l.length) : sliceD (some (i : Int)) none (.str (tx l)) = some (false, .str (tx (l.drop i))) := by
  show (if (tx l).length ≤ sizeLine then some (false, D.str (cutS (tx l) (some (i : Int)) none)) else none) = _
  rw [if_pos (by simpa using hs), t_drop h]
theorem t_signs : signs (tx l) = l.map fun c => .str (tx [c]) := rfl
theorem t_find (h : i ≤ l.length) : findD (tx l) [.str (tx [c]), .int i] = some (false, .int (if nextAt l c i < l.length then ((nextAt l c i : Nat) : Int) else -1)) := by
  unfold findD
  have := find_one (tx l) c i (by simpa using h)
  rw [tx_list] at this
  simp only []
  rw [show (⟨#[c]⟩ : Str) = tx [c] from rfl] at this
  rw [this]
@[simp] theorem ev_chain (g g' : D → D → Option (Bool × D)) (a b c : M (Bool × D)) : chainM g g' a b c s = (a s).bind fun x s1 => (b s1).bind fun y s2 => match g x.2 y.2 with
  | some (_, .bl true) => (c s2).bind fun z s3 => (match g' y.2 z.2 with | some r => .ok r s3 | none => .stuck)
  | some (_, .bl false) => .ok (false, .bl false) s2
  | _ => .stuck := rfl
@[simp] theorem ev_sl_ll (a l h : Opd) : sliceM a (some l) (some h) s = opsM [a, .ex (intM l), .ex (intM h)] (fun ds s => match ds with
    | [x, .int i, .int j] => (match sliceD (some i) (some j) x with | some r => .ok r s | none => .stuck)
    | _ => .stuck) s := rfl
@[simp] theorem ev_sl_l (a l : Opd) : sliceM a (some l) none s = opsM [a, .ex (intM l)] (fun ds s => match ds with
    | [x, .int i] => (match sliceD (some i) none x with | some r => .ok r s | none => .stuck)
    | _ => .stuck) s := rfl
@[simp] theorem ev_aug (g : D → D → Option (Bool × D)) (i : Nat) (f : M (Bool × D)) : augM g i f s = match s[i]? with
  | some (some (.io, _)) => .stuck
  | some (some (_, _)) => (f s).bind fun y s' => (match s'[i]? with
    | some (some (_, dx)) => (match g dx y.2 with
      | some (false, z) => (match putS s' i .sh z with | some s2 => .ok .nx s2 | none => .stuck)
      | _ => .stuck)
    | _ => .stuck)
  | _ => .stuck := rfl
@[simp] theorem v_addI2 {i j : Int} : addI (.int i) (.int j) = some (false, .int (i + j)) := rfl
@[simp] theorem t_le {a b : Nat} : leD (.str (tx [a])) (.str (tx [b])) = some (false, .bl (decide (a ≤ b))) := by
  show some (false, D.bl (!decide ((tx [b]).cps.toList < (tx [a]).cps.toList))) = _
  rw [tx_list, tx_list]
  have : (!decide ([b] < [a])) = decide (a ≤ b) := by
    rw [Bool.eq_iff_iff]
    simp [List.cons_lt_cons_iff]
  rw [this]
@[simp] theorem t_eq {a b : List Nat} : eqS n (.str (tx a)) (.str (tx b)) = some (false, .bl (if n then !decide (a = b) else decide (a = b))) := by
  rw [v_eqT]
  have : decide (tx a = tx b) = decide (a = b) := by
    rw [Bool.eq_iff_iff, decide_eq_true_eq, decide_eq_true_eq]
    exact tx_inj
  rw [this]
/-- the run of signs p from i on ends here -/
def runTo (p : Nat → Bool) (l : List Nat) (i : Nat) : Nat := i + ((l.drop i).takeWhile p).length
theorem runTo_end {p : Nat → Bool} (h : l.length ≤ i) : runTo p l i = i := by
  unfold runTo; rw [List.drop_eq_nil_of_le h]; rfl
theorem runTo_yes {p : Nat → Bool} (h : l[i]? = some c) (hp : p c = true) : runTo p l i = runTo p l (i + 1) := by
  obtain ⟨h1, h2⟩ := List.getElem?_eq_some_iff.mp h
  unfold runTo
  rw [List.drop_eq_getElem_cons h1, h2, List.takeWhile_cons_of_pos hp, List.length_cons]
  omega
theorem runTo_no {p : Nat → Bool} (h : l[i]? = some c) (hp : p c = false) : runTo p l i = i := by
  obtain ⟨h1, h2⟩ := List.getElem?_eq_some_iff.mp h
  unfold runTo
  rw [List.drop_eq_getElem_cons h1, h2, List.takeWhile_cons_of_neg (by simp [hp])]
  rfl
theorem runTo_ge {p : Nat → Bool} : i ≤ runTo p l i := Nat.le_add_right _ _
theorem runTo_le {p : Nat → Bool} (h : i ≤ l.length) : runTo p l i ≤ l.length := by
  unfold runTo
  have := (List.takeWhile_sublist p (l := l.drop i)).length_le
  rw [List.length_drop] at this
  omega
theorem runTo_congr {p q : Nat → Bool} (h : ∀ c, p c = q c) : runTo p l i = runTo q l i := by rw [show p = q from funext h]
end
theorem txts_map : ∀ ys : List Str, txts (ys.map D.str) = some ys
  | [] => rfl
  | y :: ys => by
    have h := txts_map ys
    simp only [List.map_cons]
    unfold txts
    simp [h]
end PV

/-! PV: raise, try. -/
namespace PV
open PySem PySem.Spec L2
/-- C(e, ..) with the fields fn in a row, as what flies -/
def tMkX (C : Addr) (fn : List Str) (ta : TA) : St → Hp → XK → Prop := fun σ H Q => ta σ H fun vs H1 => vs.length = fn.length ∧ ∀ d, H1 d = none → Q (.ref C) (some d) (upd H1 d (.xd (fn.zip vs)))
/-- raise c(e, ..) -/
def raiseM (c : Str) (fn : List Str) (os : List Opd) : M Fl := opsM os fun ds s => if os.all Opd.isEx = true ∧ ds.length = fn.length ∧ fn ≠ [] then .exc ⟨c, fn.zip ds⟩ s else .stuck
theorem zip_fst {α β : Type} : ∀ {xs : List α} {ys : List β}, ys.length = xs.length → (xs.zip ys).map (·.1) = xs
  | [], _, _ => rfl
  | x :: xs, [], h => by simp at h
  | x :: xs, y :: ys, h => by simp [zip_fst (xs := xs) (ys := ys) (by simpa using h)]
theorem zip_snd {α β : Type} : ∀ {xs : List α} {ys : List β}, ys.length = xs.length → (xs.zip ys).map (·.2) = ys
  | [], [], _ => rfl
  | [], _ :: _, h => by simp at h
  | x :: xs, [], h => rfl
  | x :: xs, y :: ys, h => by simp [zip_snd (xs := xs) (ys := ys) (by simpa using h)]
theorem ds_raise {X : Cx} {E : WX} {e : Expr} {c : Str} {fn : List Str} {os : List Opd} {pos : Pos} (hc : X.calm = true) (tk : Takes X E) (he : PMk X e (tMkX (He.ga X.K c) fn (rdOs X.K E os))) : PS X (.Raise (some e) none pos) (tS X.K E (raiseM c fn os)) :=
  (ps_raise hc tk he).imp fun Dn σ H h => by
    obtain ⟨P, B, ia, s, Fs, r, w⟩ := h
    refine rdOps r w (fun x s' q => q.to) fun ds s1 vs H1 Gs Fs1 q ov fr r1 => ?_
    split at q
    · rename_i hh
      obtain ⟨h1, h2, h3⟩ := hh
      obtain ⟨l1, l2⟩ := ov.length
      obtain ⟨G, g1, g2, g3⟩ := ov.reps h1
      have lv : vs.length = fn.length := by rw [← l1, h2]
      refine ⟨lv, fun d hd => ?_⟩
      have f1 : Fr P H1 (upd H1 d (.xd (fn.zip vs))) := Fr.new hd r1.tr
      refine q σ _ _ _ ⟨Fs1, fr.trans f1, r1.new hd, rfl, .inr ⟨d, fn.zip vs, G, rfl, upd_same, by rw [zip_fst lv, zip_fst h2], ?_⟩⟩
      rw [zip_snd lv, zip_snd h2]
      exact Reps.keep f1.i g1 fun a m => upd_ne fun z => g1.tr a m (z ▸ hd)
    · exact q.elim
end PV
namespace PV
open PySem PySem.Spec L2
/-- try: body; except c: suite (that lets nothing out) -/
def tryM (mt : Str → Option Bool) (body suite : M Fl) : M Fl := fun s => match body s with
  | .exc x s' => (match mt x.cls with
    | some true => nox (suite s')
    | some false => .exc x s'
    | none => .stuck)
  | r => r
theorem nox_any {α : Type} {E E' : Exn → S → Prop} {Q : α → S → Prop} {r : Res α} (h : Post E Q (nox r)) : Post E' Q r := by
  cases r with
  | ok a s => exact h
  | exc x s => exact h.elim
  | stuck => exact h
theorem tS_try {K : PySem.W.Frag} {E : WX} {c : Value} {mt : Str → Option Bool} {body suite : M Fl} (hmt : ∀ y b, mt y = some b → PySem.W.exmOne K (.ref (He.ga K y)) c = some b) (D : Ends) (σ : St) (H : Hp) (h : tS K E (tryM mt body suite) D σ H) :
    tS K (wOnly K c (fun _ _ _ => tS K EN suite) E D) body D σ H := by
  obtain ⟨P, B, ia, s, Fs, r, w⟩ := h
  refine ⟨P, B, ia, s, Fs, r, ?_⟩
  unfold tryM at w
  cases hb : body s with
  | stuck => rw [hb] at w; exact w.elim
  | ok fl s' => rw [hb] at w; exact w
  | exc x s' =>
    rw [hb] at w
    dsimp only at w
    intro σ' cls dx H' rx
    obtain ⟨Fs', fr, sr, xr⟩ := rx
    obtain ⟨ec, xr'⟩ := xr
    cases hm : mt x.cls with
    | none => rw [hm] at w; exact w.elim
    | some b =>
      rw [hm] at w
      refine ⟨b, by rw [ec]; exact hmt _ _ hm, fun e a _ => ?_, fun e => ?_⟩
      · subst e
        dsimp only at w
        exact ⟨P, B, ia, s', Fs', sr, (nox_any (E' := XPd K P B ia H EN) w).mono (fun y s2 q => q.step fr) fun fl s2 q => q.step fr⟩
      · subst e
        dsimp only at w
        exact w σ' cls dx H' ⟨Fs', fr, sr, ec, xr'⟩
theorem ds_try {X : Cx} {E : WX} {x : Str} {c : Value} {body suite : List Stmt} {b₀ : Stmt} {np pos pos' : Pos} {mt : Str → Option Bool} {fb fs : M Fl} (hs : X.stack = X.env :: X.outer) (hf : X.env.frame = some X.env.locals) (hc : Names X x c) (tk : Takes X E)
    (hmt : ∀ y b, mt y = some b → PySem.W.exmOne X.K (.ref (He.ga X.K y)) c = some b)
    (hb : ∀ (W : WX) (pn : List (Addr × Obj)) (xe : Value → Shared → Prop), Takes (X.tr pn xe) W → PassesOwn (model X.prog X.w) X.A X.env xe → PSs (X.tr pn xe) body (tS X.K W fb))
    (hsu : ∀ (a : Addr) (oe : Obj) (cls : Value) (d : Option Addr) (pn : List (Addr × Obj)), Zc cls d oe → (∃ vs, oe.data = .fields vs) → PSs (X.suite a ((a, oe) :: pn)) (b₀ :: suite) (tS X.K EN fs)) :
    PS X (.Try body [.ExceptHandler (some (.Name x np)) none (b₀ :: suite) pos'] [] [] pos) (tS X.K E (tryM mt fb fs)) :=
  (ps_try_only (tb := fun W => tS X.K W fb) (ts := fun _ _ _ => tS X.K EN fs) hs hf hc tk hb hsu).imp (tS_try hmt)
end PV
namespace PV
open PySem PySem.Spec L2
/-! ### making an own exception: its __init__ stores one parameter -/
def spIni1 (C : Addr) (f : Str) : Sp := fun vs H Q _ => ∃ (a : Addr) (v : V), vs = [.ref a, v] ∧ H a = some (exo a C none) ∧ ∀ dx, H dx = none → dx ≠ a → Q .non (upd (upd H dx (exd dx [(f, v)])) a (exo a C (some dx)))
section
variable {P : Program} {w : World} {K : PySem.W.Frag} {mg : Str → Option Value} {base : Heap}
theorem ini1_ok {x qual f : Str} {N ps : List Str} {params : Arguments} {body : List Stmt} {scope : Scope} {fI C : Addr} {fd : FuncData} {k : Nat} (F : FunD K x qual params body scope [] [] fI fd) (S : FnScope N ps scope) (hp : ps.length = 2) (hN : N.length = 2) (T : OexC K C) (hno : PySem.W.findIn K (.ref C) f = some none)
    (hbody : ∀ (cdv : Value) (A : Around) (outer : List Env) (s : Shared) (H : Hp) (E : XK), PSs (cxOf (L2.CX P w) P w K mg base N qual scope fI cdv A outer s H E) body (tOst K f (tVar 0) (tVar 1))) :
    FnOk P w K mg base (L2.CX P w) (k + 1) fI fd ps (spIni1 C f) := by
  refine F.ok S (fun vs H Q E h => ?_) fun cdv A outer s H vs Q E hr h => ⟨_, hbody cdv A outer s H E, ?_⟩
  · obtain ⟨a, v, rfl, _⟩ := h
    exact hp.symm
  · obtain ⟨a, v, rfl, ha, q⟩ := h
    have st : L2.start N [.ref a, v] = [some (.ref a), some v] := by
      unfold L2.start
      simp [hN]
    rw [st]
    exact ⟨v, rfl, .ref a, rfl, a, C, rfl, T, hno, .inl ⟨ha, fun dx hd hne => q dx hd hne⟩⟩
end
theorem mk_x1 {X : Cx} {C : Addr} {f : Str} {ta : TA} {e : Expr} (h : PMk X e (tMkO C (spIni1 C f) [] ta)) (hta : ∀ σ H R R', (∀ vs H1, R vs H1 → R' vs H1) → ta σ H R → ta σ H R') : PMk X e (tMkX C [f] ta) := by
  intro pins s σ H Q I w
  refine h pins s σ H Q I (hta σ H _ _ (fun vs H1 q => ?_) w)
  obtain ⟨hl, q⟩ := q
  match vs, hl with
  | [v], _ =>
    refine ⟨by simp, fun a ha => ⟨a, v, rfl, upd_same, fun dx hd hne => ⟨rfl, dx, [(f, v)], upd_same, ?_, ?_, ?_⟩⟩⟩
    · rw [upd_ne hne, upd_same]
    · rw [upd_ne hne] at hd; exact hd
    · rw [upd_ne hne] at hd
      have e : upd (del (upd (upd (upd H1 a (exo a C none)) dx (exd dx [(f, v)])) a (exo a C (some dx))) a) dx (.xd [(f, v)]) = upd H1 dx (.xd [(f, v)]) := by
        funext b
        by_cases h1 : b = dx
        · subst h1; rw [upd_same, upd_same]
        · rw [upd_ne h1, upd_ne h1]
          by_cases h2 : b = a
          · subst h2; rw [del_same, ha]
          · rw [del_ne h2, upd_ne h2, upd_ne h1, upd_ne h2]
      rw [e]
      exact q dx hd
theorem rdOs_up {K : PySem.W.Frag} {E : WX} (os : List Opd) (σ : St) (H : Hp) (R R' : List V → Hp → Prop) (q : ∀ vs H1, R vs H1 → R' vs H1) (h : rdOs K E os σ H R) : rdOs K E os σ H R' := rdOs_mono h q
end PV
namespace PV
open PySem PySem.Spec L2
/-- such a class, looked at -/
def oexO (C : Addr) : Obj → Bool
  | ⟨.type t, _, .cls cd, ⟨[_, _, _, _, some (.builtin n), _]⟩⟩ => decide (t = "type") && (decide (n = "ValueError.__new__") && (cd.hasDict && (!cd.hasDel && (match cd.mro with
    | .ref c :: bm => decide (c = C) && PySem.HandSPX.refsVE bm
    | _ => false))))
  | _ => false
theorem oexO_ok {C : Addr} {o : Obj} (h : oexO C o = true) : ∃ nm q N bs bm sn sub ab col dd k0 k1 k2 k3 k5, o = excClassObj nm q C N bs bm true sn sub ab col dd k0 k1 k2 k3 k5 "ValueError.__new__" ∧ PySem.HandSPX.refsVE bm = true := by
  unfold oexO at h
  split at h
  · rename_i t dd cd k0 k1 k2 k3 n k5
    simp only [Bool.and_eq_true, decide_eq_true_eq] at h
    obtain ⟨rfl, rfl, h1, h2, h3⟩ := h
    obtain ⟨nm, bs, mro, ns, qn, hd, sn, sb, ab, col, del⟩ := cd
    dsimp only at h1 h2 h3
    split at h3
    · rename_i c bm
      simp only [Bool.and_eq_true, decide_eq_true_eq] at h3
      obtain ⟨rfl, h4⟩ := h3
      subst h1
      have e : del = false := by cases del with
        | false => rfl
        | true => cases h2
      subst e
      exact ⟨nm, qn, ns, bs, bm, sn, sb, ab, col, dd, k0, k1, k2, k3, k5, rfl, h4⟩
    · cases h3
  · cases h
def oexB (K : PySem.W.Frag) (x : Str) : Bool := (match K.lookup (He.ga K x) with
  | some o => oexO (He.ga K x) o
  | none => false) && (decide (PySem.W.findIn K (.ref (He.ga K x)) "__setattr__" = some (some (.builtin "object.__setattr__"))) && (decide (PySem.W.subIn K (.ref (He.ga K x)) (.type "BaseException") = some true) && (decide (PySem.W.typeIn K (.ref (He.ga K x)) = some (.type "type")) && PySem.W.keepIn K (.ref (He.ga K x)))))
theorem oexB_ok {K : PySem.W.Frag} {x : Str} (h : oexB K x = true) : OexC K (He.ga K x) := by
  unfold oexB at h
  simp only [Bool.and_eq_true, decide_eq_true_eq] at h
  obtain ⟨h1, h2, h3, h4, h5⟩ := h
  refine ⟨?_, h2, h3, h4, h5⟩
  split at h1
  · rename_i o e
    obtain ⟨nm, q, N, bs, bm, sn, sub, ab, col, dd, k0, k1, k2, k3, k5, r, g⟩ := oexO_ok h1
    exact ⟨nm, q, N, bs, bm, sn, sub, ab, col, dd, k0, k1, k2, k3, k5, by rw [e, r], g⟩
  · cases h1
/-- the own exception c with the one field f, made at level k -/
structure X1 (P : Program) (w : World) (K : PySem.W.Frag) (mg : Str → Option Value) (base : Heap) (k : Nat) (c f : Str) (ps : List Str) : Prop where
  t : OexC K (He.ga K c)
  g : mg c = some (.ref (He.ga K c))
  i : PySem.W.findIn K (.ref (He.ga K c)) "__init__" = some (some (.ref (He.ma K (He.ga K c) "__init__")))
  y : PySem.W.typeIn K (.ref (He.ma K (He.ga K c) "__init__")) = some (.type "function")
  f : ∃ fd : FuncData, FnOk P w K mg base (L2.CX P w) k (He.ma K (He.ga K c) "__init__") fd ps (spIni1 (He.ga K c) f) ∧ Binds K fd ps []
theorem pass_no {X : Cx} {E : XK} (h : ∀ cls d H', ¬ E cls d H') : Passes (L2.CX X.prog X.w) X E := by
  intro pins σ H e s' I c
  first
    | (obtain ⟨_, _, _, _, _, _, _, _, _, _, _, _, z⟩ := c; exact absurd z (h _ _ _))
    | (intro z; obtain ⟨_, _, _, _, _, _, _, _, _, _, _, _, z⟩ := z; exact absurd z (h _ _ _))
theorem ds_raise1 {X : Cx} {E : WX} {k : Nat} {c f : Str} {ps : List Str} {e : Expr} {o : Opd} {p pos pos' : Pos} (R : X1 X.prog X.w X.K X.mg X.base k c f ps) (hr : Room (k + 1) X.A) (hc : X.calm = true) (tk : Takes X E) (ha : PAd X E [e] [o]) (hg : Gl X c := by rfl)
    (hdb : (c == ("__debug__" : Str)) = false := by decide) (he : starEach [e] X.env = (false, eval e X.env) :: starEach [] X.env := by rfl) (hpl : (backTo pos (starEach [] X.env)).any (·.1) = false := by rfl) :
    PS X (.Raise (some (.Call (.Name c p) [e] [] pos)) none pos') (tS X.K E (raiseM c [f] [o])) := by
  obtain ⟨fd, F1, hb⟩ := R.f
  exact ds_raise hc tk (mk_x1 (pmk_oex (ds := []) (dvs := []) R.t R.i R.y F1 hr hb .nil (pass_no fun _ _ _ z => z) hg R.g ha hdb he hpl) fun σ H R R' q h => rdOs_up _ σ H R R' q h)
end PV
namespace PV
open PySem PySem.Spec L2
section
variable {K : PySem.W.Frag} {P B : Addr → Prop} {ia : Nat → Addr} {s : S} {σ : St} {H H' : Hp} {Fs : Nat → List Addr}
/-- what a dead slot's variable holds is nobody's matter -/
theorem SR.dirt (r : SR K P B ia s σ H Fs) {i : Nat} {x : Option V} (hi : s[i]? = some none) : SR K P B ia s (σ.set i x) H Fs := by
  have ne : ∀ {j : Nat} {o : Own} {d : D}, s[j]? = some (some (o, d)) → j ≠ i := fun {j o d} e z => by subst z; rw [hi] at e; cases e
  refine ⟨by rw [List.length_set]; exact r.len, fun j o d e => ?_, fun j o d e n => ?_, fun j d e => ?_, r.dead, r.inB, r.tr, r.nb⟩
  · rw [List.getElem?_set_ne (ne e).symm]; exact r.rep j o d e
  · rw [List.getElem?_set_ne (ne e).symm]; exact r.own j o d e n
  · rw [List.getElem?_set_ne (ne e).symm]; exact r.iov j d e
theorem flat_rep {d : D} {v : V} {F : List Addr} (h : Rep K H d v F) (e : d.flt.isSome = true) : Rep K H d v [] := by
  cases h with
  | non => exact .non
  | bl => exact .bl
  | int => exact .int
  | str => exact .str
  | ty => cases e
  | tup _ _ => cases e
  | lst _ _ => cases e
  | lsz _ _ => cases e
  | dct _ _ => cases e
  | dcl _ _ => cases e
  | dnt _ _ => cases e
theorem fld_at {f : Str} {dv : D} : ∀ {fs : List (Str × D)} {kvs : List (Str × V)} {F : List Addr}, kvs.map (·.1) = fs.map (·.1) → Reps K H (fs.map (·.2)) (kvs.map (·.2)) F → fs.lookup f = some dv → ∃ v G, kvs.lookup f = some v ∧ Rep K H dv v G
  | [], kvs, F, hk, hr, e => by simp at e
  | (g, d) :: fs, [], F, hk, hr, e => by simp at hk
  | (g, d) :: fs, (g', v) :: kvs, F, hk, hr, e => by
    simp only [List.map_cons, List.cons.injEq] at hk
    obtain ⟨rfl, hk⟩ := hk
    simp only [List.map_cons] at hr
    cases hr with
    | cons h1 h2 =>
      rw [List.lookup_cons] at e ⊢
      cases hq : f == g' with
      | true => rw [hq] at e; cases e; exact ⟨v, _, rfl, h1⟩
      | false => rw [hq] at e; exact fld_at hk h2 e
end
/-- try: body; except c as e: return mk(e.f) -/
def tryAsM (c f : Str) (i : Nat) (mt : Str → Option Bool) (mk : D → D) (body : M Fl) : M Fl := fun s => match body s with
  | .exc x s' => (match mt x.cls with
    | some true => if x.cls = c then (match x.fs.lookup f, s'[i]? with
      | some dv, some none => if dv.flt.isSome = true then .ok (.rt false (mk dv)) s' else .stuck
      | _, _ => .stuck) else .stuck
    | some false => .exc x s'
    | none => .stuck)
  | r => r
/-- the suite's reading that goes with mk -/
def MkOk (K : PySem.W.Frag) (c f : Str) (i : Nat) (mk : D → D) (ts : Addr → Value → Option Addr → TS) : Prop :=
  ∀ {P B : Addr → Prop} {ia : Nat → Addr} {s : S} {σ : St} {H H0 : Hp} {Fs : Nat → List Addr} {a dd : Addr} {kvs : List (Str × V)} {dv : D} {v : V} {Dn : Ends}, SR K P B ia s σ H Fs → Fr P H0 H → σ[i]? = some (some (.ref a)) → H dd = some (.xd kvs) → kvs.lookup f = some v → Rep K H dv v [] →
    (∀ w H', RV K P B ia s σ H0 H' false (mk dv) w → Dn.rt w H') → ts a (.ref (He.ga K c)) (some dd) Dn σ H
theorem tS_tryAs {K : PySem.W.Frag} {E : WX} {c f : Str} {i : Nat} {cv : Value} {mt : Str → Option Bool} {mk : D → D} {body : M Fl} {ts : Addr → Value → Option Addr → TS} (hmt : ∀ y b, mt y = some b → PySem.W.exmOne K (.ref (He.ga K y)) cv = some b) (hm : MkOk K c f i mk ts) (D : Ends) (σ : St) (H : Hp) (h : tS K E (tryAsM c f i mt mk body) D σ H) :
    tS K (wAs K cv i ts E D) body D σ H := by
  obtain ⟨P, B, ia, s, Fs, r, w⟩ := h
  refine ⟨P, B, ia, s, Fs, r, ?_⟩
  unfold tryAsM at w
  cases hb : body s with
  | stuck => rw [hb] at w; exact w.elim
  | ok fl s' => rw [hb] at w; exact w
  | exc x s' =>
    rw [hb] at w
    dsimp only at w
    intro σ' cls dx H' rx
    obtain ⟨Fs', fr, sr, xr⟩ := rx
    obtain ⟨ec, xr'⟩ := xr
    cases hq : mt x.cls with
    | none => rw [hq] at w; exact w.elim
    | some b =>
      rw [hq] at w
      refine ⟨b, by rw [ec]; exact hmt _ _ hq, fun e a _ => ?_, fun e => ?_⟩
      · subst e
        dsimp only at w
        split at w
        · rename_i hx
          split at w
          · rename_i dv e1 e2
            split at w
            · rename_i hf
              rcases xr' with ⟨e0, _⟩ | ⟨dd, kvs, F, rfl, h1, h2, h3⟩
              · rw [e0] at e1; cases e1
              · obtain ⟨v, G, g1, g2⟩ := fld_at h2 h3 e1
                have hi : i < σ'.length := by rw [← sr.len]; exact (List.getElem?_eq_some_iff.mp e2).1
                subst ec
                rw [hx]
                exact hm (sr.dirt e2) fr (List.getElem?_set_self hi) h1 g1 (flat_rep g2 hf) fun w' H2 rv => w w' _ H2 rv
            · exact w.elim
          · exact w.elim
        · exact w.elim
      · subst e
        dsimp only at w
        exact w σ' cls dx H' ⟨Fs', fr, sr, ec, xr'⟩
end PV
namespace PV
open PySem PySem.Spec L2
abbrev tsId (K : PySem.W.Frag) (c f : Str) (i : Nat) : Addr → Value → Option Addr → TS := fun a cls d => tRet (tXf a cls d (He.ga K c) f (tVar i))
abbrev tsTag (K : PySem.W.Frag) (c f : Str) (i : Nat) (z : Str) : Addr → Value → Option Addr → TS := fun a cls d => tRet (tTup (tCons (tC (.str z)) (tCons (tXf a cls d (He.ga K c) f (tVar i)) tNil)))
theorem mk_id {K : PySem.W.Frag} {c f : Str} {i : Nat} : MkOk K c f i (fun d => d) (tsId K c f i) := by
  intro P B ia s σ H H0 Fs a dd kvs dv v Dn r fr hs hd hl hr q
  exact ⟨.ref a, hs, rfl, rfl, dd, kvs, v, rfl, hd, hl, q v H (.flat hr fr r)⟩
theorem mk_tag {K : PySem.W.Frag} {c f z : Str} {i : Nat} : MkOk K c f i (fun d => .tup [.str z, d]) (tsTag K c f i z) := by
  intro P B ia s σ H H0 Fs a dd kvs dv v Dn r fr hs hd hl hr q
  refine ⟨.ref a, hs, rfl, rfl, dd, kvs, v, rfl, hd, hl, ?_, fun p np => q _ _ ?_⟩
  · show 2 ≤ sizeLine
    decide
  · have h : Reps K H [.str z, dv] [.str z, v] [] := .cons (F := []) .str (.cons (F := []) hr .nil)
    exact .tup h .nil (fun _ m => nomatch m) fr r np
theorem ds_tryAs {X : Cx} {E : WX} {x n c f : Str} {cv : Value} {i : Nat} {body suite : List Stmt} {b₀ : Stmt} {np pos pos' : Pos} {mt : Str → Option Bool} {mk : D → D} {fb : M Fl} {ts : Addr → Value → Option Addr → TS} (hs : X.stack = X.env :: X.outer) (hf : X.env.frame = some X.env.locals) (hN : X.N.Nodup) (hi : X.N[i]? = some n) (hln : X.env.kindOf n = some .local) (hc : Names X x cv) (tk : Takes X E)
    (hmt : ∀ y b, mt y = some b → PySem.W.exmOne X.K (.ref (He.ga X.K y)) cv = some b) (hm : MkOk X.K c f i mk ts)
    (hb : ∀ (W : WX) (pn : List (Addr × Obj)) (xe : Value → Shared → Prop), Takes (X.tr pn xe) W → PassesOwn (model X.prog X.w) X.A X.env xe → PSs (X.tr pn xe) body (tS X.K W fb))
    (hsu : ∀ (a : Addr) (oe : Obj) (cls : Value) (d : Option Addr) (pn : List (Addr × Obj)), Zc cls d oe → (∃ vs, oe.data = .fields vs) → PSs (X.suite a ((a, oe) :: pn)) (b₀ :: suite) (ts a cls d)) :
    PS X (.Try body [.ExceptHandler (some (.Name x np)) (some n) (b₀ :: suite) pos'] [] [] pos) (tS X.K E (tryAsM c f i mt mk fb)) :=
  (ps_try_as (tb := fun W => tS X.K W fb) (ts := ts) (Wout := E) hs hf hN hi hln hc tk hb hsu).imp (tS_tryAs hmt hm)
end PV
namespace PV
open PySem PySem.Spec L2
/-- all that X1 asks of the class -/
def x1B (K : PySem.W.Frag) (x : Str) : Bool := oexB K x && (decide (PySem.W.findIn K (.ref (He.ga K x)) "__init__" = some (some (.ref (He.ma K (He.ga K x) "__init__")))) && (decide (PySem.W.typeIn K (.ref (He.ma K (He.ga K x) "__init__")) = some (.type "function")) && xfB K (He.ga K x)))
theorem x1B_ok {K : PySem.W.Frag} {x : Str} (h : x1B K x = true) : OexC K (He.ga K x) ∧ PySem.W.findIn K (.ref (He.ga K x)) "__init__" = some (some (.ref (He.ma K (He.ga K x) "__init__"))) ∧ PySem.W.typeIn K (.ref (He.ma K (He.ga K x) "__init__")) = some (.type "function") ∧ XfC K (He.ga K x) := by
  unfold x1B at h
  simp only [Bool.and_eq_true, decide_eq_true_eq] at h
  exact ⟨oexB_ok h.1, h.2.1, h.2.2.1, xfB_ok h.2.2.2⟩
end PV

/-! PV: further walks. -/
namespace PV
open PySem PySem.Spec L2
/-- range(i, j) -/
noncomputable def rng2M (f g : M (Bool × D)) : M (List D) := opsM [.ex f, .ex g] fun ds s => match ds with
  | [.int i, .int j] => if gd (-(2 ^ 62) ≤ i ∧ i < 2 ^ 62 ∧ -(2 ^ 62) ≤ j ∧ j < 2 ^ 62) = true then .ok (intsD i (j - i).toNat) s else .stuck
  | _ => .stuck
theorem di_rng2 {X : Cx} {E : WX} {tg a b : Expr} {f g : M (Bool × D)} {p pos : Pos} (hg : Gl X "range") (hm : X.mg "range" = none) (ha : PAd X E [a, b] [.ex f, .ex g]) (hs : starEach [a, b] X.env = [(false, eval a X.env), (false, eval b X.env)] := by rfl) (hs2 : starEach [b] X.env = [(false, eval b X.env)] := by rfl) :
    PI X tg (.Call (.Name "range" p) [a, b] [] pos) (tI X.K E (rng2M f g)) :=
  (pi_range2 hg hm ha hs hs2).imp fun σ H R h => by
    obtain ⟨P, B, ia, s, Fs, r, w⟩ := h
    refine rdOps r w (fun _ _ q => q) fun ds s1 vs H1 Gs Fs1 q ov fr r1 => ?_
    split at q
    · rename_i i j
      split at q
      · rename_i hj
        have hj := gd_iff.mp hj
        cases ov with
        | cons h1 _ _ ov =>
          cases ov with
          | cons h2 _ _ ov =>
            cases ov with
            | nil => exact ⟨i, j, by rw [h1.int_inv, h2.int_inv], hj, q _ H1 P Fs1 (fun b m => m) fr r1 it_range⟩
      · exact q.elim
    · exact q.elim
end PV

/-! PV: range with a step, zip of a text and a sequence, int of a text, dicts of the module. -/
namespace PV
open PySem PySem.Spec L2

/-! ### range(a, b, c) -/
def stepsD (lo c : Int) (n : Nat) : List D := (List.range n).map fun i => .int (lo + (i : Nat) * c)
theorem it_rangeC {K : PySem.W.Frag} {P B : Addr → Prop} {H : Hp} {lo c : Int} {n : Nat} : ItOK K P B (Itc lo c n) (stepsD lo c n) H := by
  refine ⟨fun _ => True, trivial, fun _ _ _ _ => trivial, fun i H1 _ => ⟨fun d e => ?_, fun hl => ?_⟩⟩
  · unfold stepsD at e
    rw [List.getElem?_map] at e
    obtain ⟨k, e1, e2⟩ := Option.map_eq_some_iff.mp e
    obtain ⟨h1, h2⟩ := List.getElem?_eq_some_iff.mp e1
    simp at h1 h2
    subst h2
    refine ⟨h1, fun v H2 y => ?_⟩
    obtain ⟨rfl, rfl⟩ := y
    subst e2
    exact ⟨.inl rfl, [], .int, nofun, nofun⟩
  · show n ≤ i
    simp [stepsD] at hl; omega
noncomputable def rng3D : D → D → D → Option (List D)
  | .int i, .int j, .int c => if gd (c ≠ 0 ∧ c.natAbs < 1073741824 ∧ Builtin.Range.small i j c = true ∧ 0 ≤ Builtin.Range.rangeSize i j c) = true then some (stepsD i c (Builtin.Range.rangeSize i j c).toNat) else none
  | _, _, _ => none
noncomputable def rng3M (f g h : M (Bool × D)) : M (List D) := opsM [.ex f, .ex g, .ex h] fun ds s => match ds with
  | [a, b, c] => (match rng3D a b c with
    | some ds => .ok ds s
    | none => .stuck)
  | _ => .stuck
@[simp] theorem ev_rng3 (f g h : M (Bool × D)) (s : S) : rng3M f g h s = opsM [.ex f, .ex g, .ex h] (fun ds s => match ds with
  | [a, b, c] => (match rng3D a b c with
    | some ds => .ok ds s
    | none => .stuck)
  | _ => .stuck) s := rfl
theorem rng3_inv {a b c : D} {ds : List D} (h : rng3D a b c = some ds) : ∃ i j k : Int, a = .int i ∧ b = .int j ∧ c = .int k ∧ (k ≠ 0 ∧ k.natAbs < 1073741824 ∧ Builtin.Range.small i j k = true ∧ 0 ≤ Builtin.Range.rangeSize i j k) ∧ ds = stepsD i k (Builtin.Range.rangeSize i j k).toNat := by
  unfold rng3D at h
  split at h
  · split at h
    · rename_i hj
      cases h
      exact ⟨_, _, _, rfl, rfl, rfl, gd_iff.mp hj, rfl⟩
    · cases h
  · cases h
theorem di_rng3 {X : Cx} {E : WX} {tg a b c : Expr} {f g h : M (Bool × D)} {p pos : Pos} (hg : Gl X "range") (hm : X.mg "range" = none) (ha : PAd X E [a, b, c] [.ex f, .ex g, .ex h]) (hs : starEach [a, b, c] X.env = (false, eval a X.env) :: starEach [b, c] X.env := by rfl) (hpl : (backTo pos (starEach [b, c] X.env)).any (·.1) = false := by rfl) :
    PI X tg (.Call (.Name "range" p) [a, b, c] [] pos) (tI X.K E (rng3M f g h)) :=
  (pi_range3 hg hm ha hs hpl).imp fun σ H R h => by
    obtain ⟨P, B, ia, s, Fs, r, w⟩ := h
    refine rdOps r w (fun _ _ q => q) fun ds s1 vs H1 Gs Fs1 q ov fr r1 => ?_
    split at q
    · rename_i a b c
      split at q
      · rename_i ds' e
        obtain ⟨i, j, k, rfl, rfl, rfl, hj, rfl⟩ := rng3_inv e
        cases ov with
        | cons h1 _ _ ov =>
          cases ov with
          | cons h2 _ _ ov =>
            cases ov with
            | cons h3 _ _ ov =>
              cases ov with
              | nil => exact ⟨i, j, k, _, by rw [h1.int_inv, h2.int_inv, h3.int_inv], ⟨hj.1, hj.2.1, hj.2.2.1, (Int.toNat_of_nonneg hj.2.2.2).symm⟩, q _ H1 P Fs1 (fun b m => m) fr r1 it_rangeC⟩
      · exact q.elim
    · exact q.elim

/-! ### int(text) -/
def toIntS (d : D) : Option (Bool × D) := match d with
  | .str x => if x.length ≤ 640 then (PySem.intText? x).map fun n => (false, .int n) else none
  | d => toInt d
theorem opd_toIntS {K : PySem.W.Frag} : OpD1 K toIntS fun x H Q => ((∃ i, [x] = [V.int i] ∧ Q (.int i) H) ∨ ∃ k, [x] = [V.bl k] ∧ Q (.int (if k then 1 else 0)) H) ∨ ∃ a n, [x] = [V.str a] ∧ PySem.intText? a = some n ∧ a.length ≤ 640 ∧ Q (.int n) H := by
  intro P B ia s σ H H0 Fs dx q x F Q R o fr e k
  unfold toIntS at e
  split at e
  · split at e
    · rename_i hz
      obtain ⟨n, e1, e2⟩ := Option.map_eq_some_iff.mp e
      cases e2
      exact .inr ⟨_, n, by rw [o.str_inv], e1, hz, k _ _ (.flat .int fr R)⟩
    · cases e
  · exact .inl (opd_toInt R o fr e k)

/-! ### a dict of the module -/
def tget : List (Str × D) → Str → Option D
  | [], _ => none
  | (k, d) :: r, z => if k = z then some d else tget r z
theorem tget_none {z : Str} : ∀ {kvs : List (Str × D)}, tget kvs z = none → z ∉ kvs.map (·.1)
  | [], _ => by simp
  | (k, d) :: r, h => by
    rw [tget] at h
    split at h
    · cases h
    · rename_i hk
      simp only [List.map_cons, List.mem_cons, not_or]
      exact ⟨fun e => hk e.symm, tget_none h⟩
theorem tget_mem {z : Str} {d : D} : ∀ {kvs : List (Str × D)}, tget kvs z = some d → (z, d) ∈ kvs
  | [], h => by cases h
  | (k, d') :: r, h => by
    rw [tget] at h
    split at h
    · rename_i hk
      cases h
      rw [hk]
      exact List.mem_cons_self
    · exact List.mem_cons_of_mem _ (tget_mem h)
structure Gd (K : PySem.W.Frag) (w : World) (mg : Str → Option Value) (x : Str) (kvs : List (Str × D)) : Prop where
  ex : ∃ (a : Addr) (es : Array DictEntry) (n : Nat), mg x = some (.ref a) ∧ KDict K w a es n ∧ (∀ z d, tget kvs z = some d → ∃ u v, PySem.W.nsIn K a z = some (some u) ∧ RelV v u ∧ ∀ H, Rep K H d v []) ∧ ∀ z, tget kvs z = none → PySem.W.nsIn K a z = some none
/-- flat values as the head tells them -/
def dOf : He.Dv → Option D
  | .int i => some (.int i)
  | .str x => some (.str x)
  | _ => none
theorem nsIn_absent {K : PySem.W.Frag} {a : Addr} {P : Params} {ks : List Str} {z : Str} (h : He.dicW K a = some (He.keysIn P ks)) (hz : z ∉ ks) : PySem.W.nsIn K a z = some none := by
  unfold He.dicW at h
  unfold PySem.W.nsIn
  split at h
  · rename_i c es n sl e
    rw [e]
    split at h
    · have h1 := Option.some.inj h
      have key : ∀ (l : List DictEntry) (ks : List Str), l.map He.keyOf = He.keysIn P ks → z ∉ ks → l.find? (·.key.isStr z) = none ∧ l.any (·.refKey) = false := by
        intro l
        induction l with
        | nil => intro ks _ _; exact ⟨rfl, rfl⟩
        | cons en r ih =>
          intro ks h hz
          cases ks with
          | nil => cases h
          | cons k ks =>
            have h1 : He.keyOf en :: r.map He.keyOf = some (k, PyData.keyHash P k) :: He.keysIn P ks := h
            injection h1 with h2 h3
            obtain ⟨g1, g2⟩ := ih ks h3 fun m => hz (List.mem_cons_of_mem _ m)
            unfold He.keyOf at h2
            split at h2
            · rename_i x t q
              have h4 := Option.some.inj h2
              obtain ⟨h5, h6⟩ := Prod.mk.inj h4
              have hne : x ≠ z := fun e => hz (by rw [← e, h5]; exact List.mem_cons_self)
              constructor
              · rw [List.find?_cons_of_neg (by rw [q]; simpa [Value.isStr] using hne)]
                exact g1
              · rw [List.any_cons, g2]
                simp [DictEntry.refKey, q]
            · cases h2
      obtain ⟨g1, g2⟩ := key es.toList ks h1 hz
      simp only [g1, g2]
      rfl
    · cases h
  · cases h
theorem Gd.of {K : PySem.W.Frag} {w : World} {mg : Str → Option Value} {x : Str} {a : Addr} {kvs : List (Str × He.Dv)} {ds : List (Str × D)} (hm : mg x = some (.ref a)) (h : He.dicW K a = some (He.keysIn w.params (kvs.map (·.1)))) (hv : He.valsB K a kvs = true)
    (hd : kvs.map (fun q => (q.1, dOf q.2)) = ds.map fun q => (q.1, some q.2)) : Gd K w mg x ds := by
  obtain ⟨es, n, D⟩ := He.dicW_ok h
  have ek : kvs.map (·.1) = ds.map (·.1) := by
    have := congrArg (List.map Prod.fst) hd
    simpa [List.map_map, Function.comp_def] using this
  refine ⟨a, es, n, hm, D, fun z d e => ?_, fun z e => ?_⟩
  · have hmem := tget_mem e
    have h1 : (z, some d) ∈ kvs.map (fun q => (q.1, dOf q.2)) := by
      rw [hd]
      exact List.mem_map.mpr ⟨_, hmem, rfl⟩
    obtain ⟨q, hq, e2⟩ := List.mem_map.mp h1
    obtain ⟨e3, e4⟩ := Prod.mk.inj e2
    obtain ⟨u, g1, g2⟩ := He.valsB_ok hv hq
    subst e3
    refine ⟨u, _, g1, g2, fun H => ?_⟩
    cases hq2 : q.2 with
    | int i => rw [hq2] at e4; cases e4; exact .int
    | str y => rw [hq2] at e4; cases e4; exact .str
    | _ => rw [hq2] at e4; cases e4
  · exact nsIn_absent h (by rw [ek]; exact tget_none e)
def kinD (neg : Bool) (kvs : List (Str × D)) : D → Option (Bool × D)
  | .str z => some (false, .bl (if neg then !(tget kvs z).isSome else (tget kvs z).isSome))
  | _ => none
def kixD (kvs : List (Str × D)) : D → Option (Bool × D)
  | .str z => (tget kvs z).map fun d => (false, d)
  | _ => none
section
variable {X : Cx} {E : WX} {x : Str} {kvs : List (Str × D)} {o : Opd} {a : Expr} {p pos : Pos}
theorem rd_kin {neg : Bool} {ad : Addr} (h1 : ∀ z d, tget kvs z = some d → ∃ u v, PySem.W.nsIn X.K ad z = some (some u) ∧ RelV v u ∧ ∀ H, Rep X.K H d v []) (h2 : ∀ z, tget kvs z = none → PySem.W.nsIn X.K ad z = some none) :
    OpD1 X.K (kinD neg kvs) fun x H Q => ∃ (z : Str) (r : Option Value), x = .str z ∧ V.ref ad = .ref ad ∧ PySem.W.nsIn X.K ad z = some r ∧ Q (.bl (if neg then !r.isSome else r.isSome)) H := by
  intro P B ia s σ H H0 Fs dx q x F Q R o fr e k
  unfold kinD at e
  split at e
  · rename_i z
    cases e
    cases q : tget kvs z with
    | none =>
      rw [q] at k
      exact ⟨z, none, o.str_inv, rfl, h2 z q, k _ _ (.flat .bl fr R)⟩
    | some d =>
      obtain ⟨u, v, g1, _⟩ := h1 z d q
      rw [q] at k
      exact ⟨z, some u, o.str_inv, rfl, g1, k _ _ (.flat .bl fr R)⟩
  · cases e
theorem rd_kix {ad : Addr} (h1 : ∀ z d, tget kvs z = some d → ∃ u v, PySem.W.nsIn X.K ad z = some (some u) ∧ RelV v u ∧ ∀ H, Rep X.K H d v []) {es : Array DictEntry} {n : Nat} (D : KDict X.K X.w ad es n) :
    OpD1 X.K (kixD kvs) fun x H Q => rIxD X.K X.w (.ref ad) x H Q := by
  intro P B ia s σ H H0 Fs dx q x F Q R o fr e k
  unfold kixD at e
  split at e
  · rename_i z
    obtain ⟨d, e1, e2⟩ := Option.map_eq_some_iff.mp e
    cases e2
    obtain ⟨u, v, g1, g2, g3⟩ := h1 z d e1
    exact ⟨ad, z, v, rfl, o.str_inv, ⟨es, n, u, D.at_, D.lit, g1, g2⟩, k _ _ (.flat (g3 _) fr R)⟩
  · cases e
theorem de_kin (G : Gd X.K X.w X.mg x kvs) (ha : PE X a (rdO X.K E o)) (hg : Gl X x := by rfl) (hd : (x == ("__debug__" : Str)) = false := by decide) (hm : behindInMarks .In (.Name x p) = false := by with_unfolding_all rfl) : PE X (.Compare a [.In] [.Name x p] pos) (tD X.K E (unM (kinD false kvs) o)) := by
  obtain ⟨ad, es, n, e1, D, h1, h2⟩ := G.ex
  exact (pe_cmpR (op_in_kd D) ha (pe_glob hg e1 (v := .ref ad) rfl hd) hm).imp (tD_un (rd_kin (neg := false) h1 h2))
theorem de_knot (G : Gd X.K X.w X.mg x kvs) (ha : PE X a (rdO X.K E o)) (hg : Gl X x := by rfl) (hd : (x == ("__debug__" : Str)) = false := by decide) (hm : behindInMarks .NotIn (.Name x p) = false := by with_unfolding_all rfl) : PE X (.Compare a [.NotIn] [.Name x p] pos) (tD X.K E (unM (kinD true kvs) o)) := by
  obtain ⟨ad, es, n, e1, D, h1, h2⟩ := G.ex
  exact (pe_cmpR (op_notIn_kd D) ha (pe_glob hg e1 (v := .ref ad) rfl hd) hm).imp (tD_un (rd_kin (neg := true) h1 h2))
theorem dt_kin (G : Gd X.K X.w X.mg x kvs) (ha : PE X a (rdO X.K E o)) (hg : Gl X x := by rfl) (hd : (x == ("__debug__" : Str)) = false := by decide) (hm : behindInMarks .In (.Name x p) = false := by with_unfolding_all rfl) : PT X (.Compare a [.In] [.Name x p] pos) (tT X.K E (truB (unM (kinD false kvs) o))) := by
  obtain ⟨ad, es, n, e1, D, h1, h2⟩ := G.ex
  exact (pt_cmpR (op_in_kd D) ha (pe_glob hg e1 (v := .ref ad) rfl hd) hm).imp (tTest_of (tD_un (rd_kin (neg := false) h1 h2)))
theorem dt_knot (G : Gd X.K X.w X.mg x kvs) (ha : PE X a (rdO X.K E o)) (hg : Gl X x := by rfl) (hd : (x == ("__debug__" : Str)) = false := by decide) (hm : behindInMarks .NotIn (.Name x p) = false := by with_unfolding_all rfl) : PT X (.Compare a [.NotIn] [.Name x p] pos) (tT X.K E (truB (unM (kinD true kvs) o))) := by
  obtain ⟨ad, es, n, e1, D, h1, h2⟩ := G.ex
  exact (pt_cmpR (op_notIn_kd D) ha (pe_glob hg e1 (v := .ref ad) rfl hd) hm).imp (tTest_of (tD_un (rd_kin (neg := true) h1 h2)))
theorem de_kix (G : Gd X.K X.w X.mg x kvs) (ha : PE X a (rdO X.K E o)) (hg : Gl X x := by rfl) (hd : (x == ("__debug__" : Str)) = false := by decide) (hs : PlainIx a := by exact fun _ _ => rfl) : PE X (.Subscript (.Name x p) a pos) (tD X.K E (unM (kixD kvs) o)) := by
  obtain ⟨ad, es, n, e1, D, h1, h2⟩ := G.ex
  exact (pe_ix ix_kdict (pe_glob hg e1 (v := .ref ad) rfl hd) ha hs).imp (tD_un (rd_kix h1 D))
end
theorem tabW {fa : List He.Fa} {fn : List He.DefD} {ts : List He.Tab} {w : World} {K : PySem.W.Frag} (c : He.SaysT fa fn ts w K) (i : Nat) {t : He.Tab} (h : ts[i]? = some t := by rfl) : He.dicW K (t.1 K) = some (He.keysIn w.params t.2) := by
  have e : ts.map (fun t => He.dicW K (t.1 K)) = ts.map fun t => some (He.keysIn w.params t.2) := congrArg (fun z : He.AlT => z.2) c
  have e2 : (ts.map fun t => He.dicW K (t.1 K))[i]? = (ts.map fun t => some (He.keysIn w.params t.2))[i]? := by rw [e]
  rw [List.getElem?_map, List.getElem?_map, h] at e2
  exact Option.some.inj e2
end PV

/-! PV: zip(text, list), zip(text, tuple). -/
namespace PV
open PySem PySem.Spec L2 PyProof.Rows

/-- the signs of x and what stands in b at each turn, in new pairs -/
def ItzS (Sq : Hp → List V → Prop) (x : Str) : It :=
  ⟨fun i H => ∃ (ys : List V) (y : V) (c : Nat), Sq H ys ∧ x.cps[i]? = some c ∧ ys[i]? = some y,
    fun i H v H' => ∃ T c y, v = .ref T ∧ H T = none ∧ H' = upd H T (.tup [.str ⟨#[c]⟩, y]) ∧ x.cps[i]? = some c ∧ ∀ ys, Sq H ys → ys[i]? = some y,
    fun i H => ∃ ys : List V, Sq H ys ∧ i ≤ x.cps.size ∧ i ≤ ys.length ∧ (i = x.cps.size ∨ i = ys.length)⟩
structure Src2 (K : PySem.W.Frag) (b i2 : Addr) (Sq : Hp → List V → Prop) (Src : Array Value → Heap → Prop) (It2 : Nat → Heap → Prop) : Prop where
  src : ∀ {X : Cx} {pins : List (Addr × Obj)} {σ : L2.St} {H : Hp} {s : Shared} {ys : List V}, X.K = K → Inv X pins σ H s → Sq H ys → ∃ its : List Value, Vals ys its ∧ Src its.toArray s.heap
  inj : ∀ {X : Cx} {pins : List (Addr × Obj)} {σ : L2.St} {H : Hp} {s : Shared} {ys zs : List V}, X.K = K → Inv X pins σ H s → Sq H ys → Sq H zs → ys = zs
  drw : ∀ (prog : Program) (w : World) (A : Around), A.handled = none → ∀ items : Array Value, Draws prog w A i2 [i2, b] items.size (fun i v => items[i]? = some v) (fun i h => It2 i h ∧ Src items h)
  keep : ∀ i h h', It2 i h → (∀ o, h.get? i2 = some o → h'.get? i2 = some o) → It2 i h'
  obj : ∀ i h, It2 i h → ∃ o, h.get? i2 = some o ∧ ∀ v, o.data ≠ .cell v
theorem src_list {K : PySem.W.Frag} {b i2 : Addr} (hne : b ≠ i2) : Src2 K b i2 (fun H ys => SqL K H b ys) (fun items h => h.IsList b items) (fun i h => h.IsListIter i2 b i) where
  src := fun e I h => by subst e; obtain ⟨its, r, p, _⟩ := I.list h; exact ⟨its, r, p.isList⟩
  inj := fun e I h h' => by subst e; exact I.list_inj h h'
  drw := fun prog w A hh items => .list hh i2 b hne items
  keep := fun i h h' st k => st.at k
  obj := fun i h st => by obtain ⟨o, e, _, d⟩ := st; exact ⟨o, e, fun v q => by rw [d] at q; cases q⟩
theorem src_tup {K : PySem.W.Frag} {b i2 : Addr} (hne : b ≠ i2) : Src2 K b i2 (fun H ys => SqT K H b ys) (fun items h => h.IsTuple b items) (fun i h => h.IsTupleIter i2 b i) where
  src := fun e I h => by subst e; obtain ⟨its, r, p, _⟩ := I.tuple h; exact ⟨its, r, p⟩
  inj := fun e I h h' => by subst e; exact I.tuple_inj h h'
  drw := fun prog w A hh items => .tuple hh i2 b hne items
  keep := fun i h h' st k => st.at k
  obj := fun i h st => by obtain ⟨o, e, _, d⟩ := st; exact ⟨o, e, fun v q => by rw [d] at q; cases q⟩

theorem turn_zipS {P : Program} {w : World} {K : PySem.W.Frag} {elts : List Expr} {kk : Nat} {tpos : Pos} {x : Str} {t : PySem.Tok} {b z TI TO i1 i2 : Addr} {Sq : Hp → List V → Prop} {Src : Array Value → Heap → Prop} {It2 : Nat → Heap → Prop} (S2 : Src2 K b i2 Sq Src It2) (S : ZipSep2 z TI TO i1 i2 [i1] [i2, b]) :
    Turn P w K (.Tuple elts kk tpos) (ItzS Sq x) [z, TI, TO, i1, i2] z (fun i h => IsZip h z TI TO .none ∧ IsTupOf2 h TI (.ref i1) (.ref i2) ∧ (∃ a1 a2, IsTupOf2 h TO a1 a2) ∧ h.IsStrIter i1 (strIterType x) x t i ∧ It2 i h) where
  mem := by simp
  obj := fun i h st c hc => by
    obtain ⟨hz, hTI, ⟨a1, a2, hTO⟩, ⟨o1, e1, _, d1⟩, h2⟩ := st
    have e' : c = z ∨ c = TI ∨ c = TO ∨ c = i1 ∨ c = i2 := by simpa using hc
    rcases e' with q | q | q | q | q
    · rw [q]; exact ⟨_, hz, fun v q => nomatch q⟩
    · rw [q]; exact ⟨_, hTI, fun v q => nomatch q⟩
    · rw [q]; exact ⟨_, hTO, fun v q => nomatch q⟩
    · rw [q]; exact ⟨o1, e1, fun v q => by rw [d1] at q; cases q⟩
    · rw [q]; exact S2.obj i h h2
  keep := fun i h h' st k => by
    obtain ⟨hz, hTI, ⟨a1, a2, hTO⟩, ⟨o1, e1, r1⟩, h2⟩ := st
    exact ⟨k z (by simp) _ hz, k TI (by simp) _ hTI, ⟨a1, a2, k TO (by simp) _ hTO⟩, ⟨o1, k i1 (by simp) _ e1, r1⟩, S2.keep i h h' h2 fun o q => k i2 (by simp) o q⟩
  item := by
    intro X hP hw hK hc i pins s σ H E I hf st hg
    subst hP hw
    obtain ⟨hz, hTI, ⟨a1, a2, hTO⟩, h1, h2⟩ := st
    obtain ⟨ys, y, c, hq, hx, hy⟩ := hg
    obtain ⟨its, rv, hsrc⟩ := S2.src hK I hq
    obtain ⟨u2, hu2, ru2⟩ := rv.get hy
    have hzl : z < s.heap.objs.size := Heap.lt_size hz
    have hl1 : i < x.cps.size := (Array.getElem?_eq_some_iff.mp hx).1
    have hl2 : i < its.toArray.size := by
      have := (List.getElem?_eq_some_iff.mp hu2).1
      simpa using this
    refine wpAny_pyNext_zipD2_item S (Draws.text (show X.A.in1.handled = none from I.ok.hd hc) i1 x t) (S2.drw _ _ _ (show X.A.in1.handled = none from I.ok.hd hc) its.toArray) hz hTI hTO h1 ⟨h2, hsrc⟩ hl1 hl2 fun x1 x2 h' tk p1 p2 z' TO' h1' h2' hT hsz hk => ?_
    obtain ⟨c', ut, hc', rfl⟩ := p1
    rw [hx] at hc'; cases hc'
    have ex2 : x2 = u2 := by
      have p2' : its.toArray[i]? = some x2 := p2
      rw [List.getElem?_toArray] at p2'
      rw [hu2] at p2'; cases p2'; rfl
    subst ex2
    refine ⟨_, rfl, wpAny_letOwnedTupleGo_zip (s := { s with heap := h', toks := tk }) z' fun h'' z'' sb => ?_⟩
    have hT2 : h''.get? s.heap.objs.size = some { cls := .type "tuple", data := .seq #[.str ⟨#[c]⟩ ut, x2] } := (sb.2 _ (Nat.ne_of_gt hzl)).trans hT
    have new : ObjOk X.prog X.w (upd H s.heap.objs.size (.tup [.str ⟨#[c]⟩, y])) h'' s.heap.objs.size (.tup [.str ⟨#[c]⟩, y]) :=
      ⟨by show 2 ≤ sizeLine; decide, [.str ⟨#[c]⟩ ut, x2], .cons ⟨ut, rfl⟩ (.cons ru2 .nil), ⟨_, hT2, rfl, _, rfl⟩⟩
    have I1 : Inv X pins σ (upd H s.heap.objs.size (.tup [.str ⟨#[c]⟩, y])) { s with heap := h'', toks := tk } :=
      I.turnedNew (t' := tk) (ch := [z, TI, TO, i1, i2]) (fun c o hb q => (sb.2 c (fun q' => hb (by simp [q']))).trans (hk c o (fun q' => hb (by simp [q'])) (fun q' => hb (by simp [q'])) (fun q' => hb (by simp [q'])) (fun q' => hb (by simp [q'])) q)) hf (Nat.le_refl _) new
    refine ⟨.ref s.heap.objs.size, _, I1, rfl, ⟨_, c, y, rfl, I.hok.fresh (Nat.le_refl _), rfl, hx, fun l hl => by rw [S2.inj hK I hl hq]; exact hy⟩, ⟨z'', ?_, ⟨.str ⟨#[c]⟩ ut, x2, ?_⟩, ?_, ?_⟩, fun c hcm => ?_⟩
    · exact (sb.2 _ S.TIz).trans (hk _ _ S.TIz S.TITO S.TIi1 S.TIi2 hTI)
    · exact (sb.2 _ S.TOz).trans TO'
    · obtain ⟨o1, e1, r1⟩ := h1'
      exact ⟨o1, (sb.2 _ S.zi1.symm).trans e1, r1⟩
    · exact S2.keep _ _ _ h2'.1 fun o q => (sb.2 _ S.zi2.symm).trans q
    · have hlt : c < s.heap.objs.size := by
        have e' : c = z ∨ c = TI ∨ c = TO ∨ c = i1 ∨ c = i2 := by simpa using hcm
        rcases e' with q | q | q | q | q
        · rw [q]; exact hzl
        · rw [q]; exact Heap.lt_size hTI
        · rw [q]; exact Heap.lt_size hTO
        · rw [q]; obtain ⟨_, e1, _⟩ := h1; exact Heap.lt_size e1
        · rw [q]; obtain ⟨_, e2, _⟩ := S2.obj _ _ h2; exact Heap.lt_size e2
      rw [upd_ne (Nat.ne_of_lt hlt)]
      exact (hf c hcm).1
  done := by
    intro X hP hw hK hc i pins s σ H E I hf st hg
    subst hP hw
    obtain ⟨hz, hTI, ⟨a1, a2, hTO⟩, h1, h2⟩ := st
    obtain ⟨ys, hq, hi1, hi2, hend⟩ := hg
    obtain ⟨its, rv, hsrc⟩ := S2.src hK I hq
    have l2 : its.toArray.size = ys.length := by rw [List.size_toArray, rv.length]
    exact wpAny_pyNext_zipD2_end S (Draws.text (show X.A.in1.handled = none from I.ok.hd hc) i1 x t) (S2.drw _ _ _ (show X.A.in1.handled = none from I.ok.hd hc) its.toArray) hz hTI hTO h1 ⟨h2, hsrc⟩ hi1 (by rw [l2]; exact hi2) (by rw [l2]; exact hend) fun h' tk hk => ⟨rfl, I.turnedL (t' := tk) (ch := [z, TI, TO, i1, i2]) (fun c o hb q =>
      hk c o (fun q' => hb (by simp [q'])) (fun q' => hb (by simp [q'])) (fun q' => hb (by simp [q'])) (fun q' => hb (by simp [q'])) q) hf⟩
  self := fun A i s Q E st h => wpAny_pyIter_zip st.1 h

def iZipS (K : PySem.W.Frag) (ta : TA) : TI := fun σ H R => ta σ H fun vs H1 => ∃ (x : Str) (b : Addr) (ys : List V), vs = [.str x, .ref b] ∧ ((SqL K H1 b ys ∧ R (ItzS (fun H ys => SqL K H b ys) x) H1) ∨ (SqT K H1 b ys ∧ R (ItzS (fun H ys => SqT K H b ys) x) H1))
theorem pi_zipS {X : Cx} {e e2 : Expr} {ta : TA} {p pos tpos : Pos} {elts : List Expr} {kk : Nat} (hg : Gl X "zip") (hm : X.mg "zip" = none) (ha : PA X [e, e2] ta)
    (hs : starEach [e, e2] X.env = (false, eval e X.env) :: starEach [e2] X.env := by rfl) (hpl : (backTo pos (starEach [e2] X.env)).any (·.1) = false := by rfl) :
    PI X (.Tuple elts kk tpos) (.Call (.Name "zip" p) [e, e2] [] pos) (iZipS X.K ta) := by
  refine ⟨fun pins s σ H R I h => ?_⟩
  refine Call_ (ld_blt I hg hm PyProof.Rows.boot_zip (PyProof.Rows.callWith_type1 (thn (ha.run pos pins s σ H _ I h) fun us s1 ⟨vs, H1, I1, r1, q1⟩ => ?_) hs hpl))
  obtain ⟨x, b, ys, ex, q1⟩ := q1
  subst ex
  cases r1 with
  | cons r rr =>
    cases rr with
    | cons r' rr =>
      cases rr
      obtain ⟨t, rfl⟩ := r
      cases r'
      have fresh5 : ∀ c, c ∈ [s1.heap.objs.size + 4, s1.heap.objs.size + 2, s1.heap.objs.size + 3, s1.heap.objs.size, s1.heap.objs.size + 1] → FpOk X pins H1 c := fun c hcm => by
        have e' : c = s1.heap.objs.size + 4 ∨ c = s1.heap.objs.size + 2 ∨ c = s1.heap.objs.size + 3 ∨ c = s1.heap.objs.size ∨ c = s1.heap.objs.size + 1 := by simpa using hcm
        have hle : s1.heap.objs.size ≤ c := by
          rcases e' with z | z | z | z | z
          · rw [z]; exact Nat.le_add_right _ _
          · rw [z]; exact Nat.le_add_right _ _
          · rw [z]; exact Nat.le_add_right _ _
          · rw [z]; exact Nat.le_refl _
          · rw [z]; exact Nat.le_add_right _ _
        exact I1.fpOk hle (I1.hok.fresh hle)
      have sep : b < s1.heap.objs.size → ZipSep2 (s1.heap.objs.size + 4) (s1.heap.objs.size + 2) (s1.heap.objs.size + 3) s1.heap.objs.size (s1.heap.objs.size + 1) [s1.heap.objs.size] [s1.heap.objs.size + 1, b] := fun hb => by
        have D := PySem.W.ktu_apart s1.heap.objs.size b b hb hb
        have mm : ∀ {a c d : Addr}, a ≠ c → a ≠ d → a ∉ [c, d] := fun h1 h2 m => (List.mem_cons.mp m).elim h1 fun m => h2 (List.mem_singleton.mp m)
        exact ⟨D.TIz, D.TOz, D.TITO, D.TIi1, List.mem_cons_self, fun m => D.i1z (List.mem_singleton.mp m).symm, fun m => D.TOi1 (List.mem_singleton.mp m), D.TIi2, List.mem_cons_self, mm D.i2z.symm D.l2z.symm, mm D.TOi2 D.l2TO.symm, mm D.i12 D.l2i1.symm, fun m => D.i12 (List.mem_singleton.mp m).symm⟩
      rcases q1 with ⟨hq, q⟩ | ⟨hq, q⟩
      · obtain ⟨its, rv, p1, _⟩ := I1.list hq
        refine zip_begins2 (begins_text x t) (begins_list b its.toArray) trivial p1.isList fun h' hz hTI hTO h1 h2 hsz hk => wpAny_pyIter_zip hz ?_
        have I2 : Inv X pins σ H1 { s1 with heap := h' } := I1.kept (t' := s1.toks) hk
        exact ⟨s1.heap.objs.size + 4, [s1.heap.objs.size + 4, s1.heap.objs.size + 2, s1.heap.objs.size + 3, s1.heap.objs.size, s1.heap.objs.size + 1], _, _, H1, rfl, I2, turn_zipS (t := t) (src_list (Nat.ne_of_lt (Nat.lt_succ_of_lt p1.lt))) (sep p1.lt), ⟨hz, hTI, ⟨_, _, hTO⟩, ⟨_, h1, rfl, rfl⟩, ⟨_, h2, rfl, rfl⟩⟩, fresh5, q⟩
      · obtain ⟨its, rv, p1, _⟩ := I1.tuple hq
        obtain ⟨o1, ho1, _⟩ := id p1
        have hlt := Heap.lt_size ho1
        refine zip_begins2 (begins_text x t) (begins_tuple b its.toArray) trivial p1 fun h' hz hTI hTO h1 h2 hsz hk => wpAny_pyIter_zip hz ?_
        have I2 : Inv X pins σ H1 { s1 with heap := h' } := I1.kept (t' := s1.toks) hk
        exact ⟨s1.heap.objs.size + 4, [s1.heap.objs.size + 4, s1.heap.objs.size + 2, s1.heap.objs.size + 3, s1.heap.objs.size, s1.heap.objs.size + 1], _, _, H1, rfl, I2, turn_zipS (t := t) (src_tup (Nat.ne_of_lt (Nat.lt_succ_of_lt hlt))) (sep hlt), ⟨hz, hTI, ⟨_, _, hTO⟩, ⟨_, h1, rfl, rfl⟩, ⟨_, h2, rfl, rfl⟩⟩, fresh5, q⟩

/-! ### by values -/
def zipD (x : Str) (ds : List D) : List D := (x.cps.toList.zip ds).map fun q => .tup [.str ⟨#[q.1]⟩, q.2]
theorem zipD_len {x : Str} {ds : List D} : (zipD x ds).length = min x.cps.size ds.length := by simp [zipD]
theorem zipD_get {x : Str} {ds : List D} {i : Nat} {d : D} (e : (zipD x ds)[i]? = some d) : ∃ c y, x.cps[i]? = some c ∧ ds[i]? = some y ∧ d = .tup [.str ⟨#[c]⟩, y] := by
  unfold zipD at e
  rw [List.getElem?_map] at e
  obtain ⟨q, e1, e2⟩ := Option.map_eq_some_iff.mp e
  rw [List.getElem?_zip_eq_some] at e1
  exact ⟨q.1, q.2, by simpa using e1.1, e1.2, e2.symm⟩
theorem it_zipS {K : PySem.W.Frag} {P B : Addr → Prop} {H : Hp} {x : Str} {Sq : Hp → List V → Prop} {ds : List D} {vs : List V} {F : List Addr} (inv : Hp → Prop) (i0 : inv H) (keep : ∀ H1 H2, inv H1 → Fr P H1 H2 → inv H2) (hs : ∀ H, inv H → Sq H vs ∧ Reps K H ds vs F)
    (hp : ∀ a, a ∈ F → P a) (hb : ∀ a, a ∈ F → B a) : ItOK K P B (ItzS Sq x) (zipD x ds) H := by
  refine ⟨inv, i0, keep, fun i H1 q => ⟨fun d e => ?_, fun hl => ?_⟩⟩
  · obtain ⟨c, y, e1, e2, rfl⟩ := zipD_get e
    obtain ⟨h1, h2⟩ := hs H1 q
    obtain ⟨v, G, g1, g2, g3⟩ := h2.get e2
    refine ⟨⟨vs, v, c, h1, e1, g1⟩, fun u H2 w => ?_⟩
    obtain ⟨T, c', y', rfl, hT, rfl, k1, k2⟩ := w
    rw [e1] at k1; cases k1
    have := k2 vs h1
    rw [g1] at this; cases this
    refine ⟨.inr ⟨T, _, hT, rfl⟩, G, .tup (SqT.of upd_same) ?_, fun a m => hp a (g3 a m), fun a m => hb a (g3 a m)⟩
    have := Reps.cons (Rep.str (K := K) (H := upd H1 T (.tup [.str ⟨#[c]⟩, v])) (x := ⟨#[c]⟩)) (Reps.one (g2.keep (H' := upd H1 T (.tup [.str ⟨#[c]⟩, v])) (fun b u h _ => by rw [upd_ne (ne_of_none h hT)]; exact h) fun a m => upd_ne fun e => g2.tr a m (e ▸ hT)))
    exact this
  · obtain ⟨h1, h2⟩ := hs H1 q
    rw [zipD_len, h2.length] at hl
    exact ⟨vs, h1, by omega, by omega, by omega⟩
def zipM (f g : M (Bool × D)) : M (List D) := opsM [.ex f, .ex g] fun ds s => match ds with
  | [.str x, .lst ys] => .ok (zipD x ys) s
  | [.str x, .tup ys] => .ok (zipD x ys) s
  | _ => .stuck
@[simp] theorem ev_zip (f g : M (Bool × D)) (s : S) : zipM f g s = opsM [.ex f, .ex g] (fun ds s => match ds with
  | [.str x, .lst ys] => .ok (zipD x ys) s
  | [.str x, .tup ys] => .ok (zipD x ys) s
  | _ => .stuck) s := rfl
theorem di_zip {X : Cx} {E : WX} {a b : Expr} {f g : M (Bool × D)} {p pos tpos : Pos} {elts : List Expr} {kk : Nat} (hg : Gl X "zip") (hm : X.mg "zip" = none) (ha : PAd X E [a, b] [.ex f, .ex g]) (hs : starEach [a, b] X.env = (false, eval a X.env) :: starEach [b] X.env := by rfl) (hpl : (backTo pos (starEach [b] X.env)).any (·.1) = false := by rfl) :
    PI X (.Tuple elts kk tpos) (.Call (.Name "zip" p) [a, b] [] pos) (tI X.K E (zipM f g)) :=
  (pi_zipS hg hm ha hs hpl).imp fun σ H R h => by
    obtain ⟨P, B, ia, s, Fs, r, w⟩ := h
    refine rdOps r w (fun _ _ q => q) fun ds s1 vs H1 Gs Fs1 q ov fr r1 => ?_
    split at q
    · rename_i x ys
      cases ov with
      | cons h1 _ _ ov =>
        cases ov with
        | cons h2 n2 _ ov =>
          cases ov with
          | nil =>
            rw [h1.str_inv]
            have rp := h2.rep
            have pr := r1.prot rp.tr (n2 rfl)
            have hb := h2.inB
            cases rp with
            | @lst a _ ws G g1 g2 =>
              exact ⟨x, a, ws, rfl, .inl ⟨SqL.of g1, q _ H1 _ Fs1 (fun b m => .inl m) fr pr (it_zipS (fun H' => H' a = some (.lst ws) ∧ Reps X.K H' ys ws G) ⟨g1, g2⟩ (fun H1 H2 q fr => ⟨(fr.p a (.inr List.mem_cons_self)).trans q.1, Reps.keep fr.i q.2 fun b m => fr.p b (.inr (List.mem_cons_of_mem _ m))⟩)
                (fun H q => ⟨SqL.of q.1, q.2⟩) (fun b m => .inr (List.mem_cons_of_mem _ m)) fun b m => hb b (List.mem_cons_of_mem _ m))⟩⟩
    · rename_i x ys
      cases ov with
      | cons h1 _ _ ov =>
        cases ov with
        | cons h2 n2 _ ov =>
          cases ov with
          | nil =>
            rw [h1.str_inv]
            have rp := h2.rep
            have pr := r1.prot rp.tr (n2 rfl)
            have hb := h2.inB
            cases rp with
            | @tup a _ ws _ g1 g2 =>
              exact ⟨x, a, ws, rfl, .inr ⟨g1, q _ H1 _ Fs1 (fun b m => .inl m) fr pr (it_zipS (fun H' => SqT X.K H' a ws ∧ Reps X.K H' ys ws _) ⟨g1, g2⟩ (fun H1 H2 q fr => ⟨sqT_keep q.1 fr.i, Reps.keep fr.i q.2 fun b m => fr.p b (.inr m)⟩)
                (fun H q => q) (fun b m => .inr m) hb)⟩⟩
    · exact q.elim
end PV

/-! PV: a dict while a statement walks it. -/
namespace PV
open PySem PySem.Spec L2
section
variable {K : PySem.W.Frag} {P B : Addr → Prop} {ia : Nat → Addr} {s s' : S} {σ σ' : St} {H H' : Hp} {Fs Fs' : Nat → List Addr} {E : WX}
theorem sqT_unlock {a : Addr} {od : Obj} {kvs : List (Key × V)} (h : H a = some (.frz od (.dK kvs))) (b : Addr) (vs : List V) (q : SqT K H b vs) : SqT K (upd H a (.dK kvs)) b vs := by
  rcases q with (q | ⟨o, q⟩) | q
  · exact .inl (.inl (by rw [upd_ne fun e => by subst e; rw [h] at q; cases q]; exact q))
  · exact .inl (.inr ⟨o, by rw [upd_ne fun e => by subst e; rw [h] at q; cases q]; exact q⟩)
  · exact .inr q
theorem fz_unlock {a : Addr} {od : Obj} {kvs : List (Key × V)} (h : H a = some (.frz od (.dK kvs))) (b : Addr) (vs : List V) (q : Fz K H b vs) : Fz K (upd H a (.dK kvs)) b vs := by
  rcases q with ⟨o, q⟩ | q
  · exact .inl ⟨o, by rw [upd_ne fun e => by subst e; rw [h] at q; cases q]; exact q⟩
  · exact .inr q
def iaAt (ia : Nat → Addr) (i : Nat) (a : Addr) : Nat → Addr := fun j => if j = i then a else ia j
/-- the dict of slot i is locked -/
theorem SR.lock (r : SR K P B ia s σ H Fs) {i : Nat} {o : Own} {kds : List (Key × D)} (e : s[i]? = some (some (o, .dct kds))) (n : o ≠ Own.sh) :
    ∃ a kvs, σ[i]? = some (some (.ref a)) ∧ H a = some (.dK kvs) ∧ ¬ P a ∧ (o = Own.io → ia i = a) ∧ ∀ od, SR K P B (iaAt ia i a) (s.set i (some (.io, .dcl kds))) σ (upd H a (.frz od (.dK kvs))) Fs := by
  obtain ⟨a, F, h1, h2, h3, h4, h5, h6⟩ := r.own i o _ e n
  cases h3 with
  | @dct _ _ kvs _ m1 m2 =>
    refine ⟨a, kvs, h1, m1, h5, fun ho => by subst ho; have := r.iov i _ e; rw [h1] at this; cases this; rfl, fun od => ?_⟩
    have im : ∀ b u, H b = some u → Im u → upd H a (.frz od (.dK kvs)) b = some u := fun b u hb hi => by rw [upd_ne fun e => by subst e; rw [m1] at hb; cases hb; exact hi]; exact hb
    have keepF : ∀ j, j ≠ i → ∀ b, b ∈ Fs j → upd H a (.frz od (.dK kvs)) b = H b := fun j hj b m => upd_ne fun e => h6 j hj (e ▸ m)
    have rK : RepK K (upd H a (.frz od (.dK kvs))) kds kvs F := RepK.keep im m2 fun b m => upd_ne fun e => h4 (e ▸ m)
    refine ⟨by simp [r.len], fun j o' d q => ?_, fun j o' d q n' => ?_, fun j d q => ?_, fun j q => ?_, r.inB, fun b q => ?_, fun b q => ?_⟩
    · by_cases hj : j = i
      · subst hj
        rw [get_set_eq e] at q; cases q
        exact ⟨.ref a, h1, by rw [h2]; exact .dcl ⟨od, upd_same⟩ rK⟩
      · rw [get_set_ne hj] at q
        obtain ⟨v, g1, g2⟩ := r.rep j o' d q
        exact ⟨v, g1, g2.keep im fun b m => keepF j hj b m⟩
    · by_cases hj : j = i
      · subst hj
        rw [get_set_eq e] at q; cases q
        exact ⟨a, F, h1, h2, .dcl ⟨od, upd_same⟩ rK, h4, h5, h6⟩
      · rw [get_set_ne hj] at q
        obtain ⟨b, G, g1, g2, g3, g4, g5, g6⟩ := r.own j o' d q n'
        exact ⟨b, G, g1, g2, g3.keep im fun c m => keepF j hj c (by rw [g2]; exact m), g4, g5, g6⟩
    · by_cases hj : j = i
      · subst hj
        unfold iaAt
        rw [if_pos rfl]; exact h1
      · rw [get_set_ne hj] at q
        unfold iaAt
        rw [if_neg hj]; exact r.iov j d q
    · by_cases hj : j = i
      · subst hj
        exact absurd (get_set_eq e) (q _ _)
      · exact r.dead j fun o' d' z => q o' d' (by rw [get_set_ne hj]; exact z)
    · by_cases hba : b = a
      · subst hba; rw [upd_same]; simp
      · rw [upd_ne hba]; exact r.tr b q
    · by_cases hba : b = a
      · subst hba; rw [upd_same] at q; cases q
      · rw [upd_ne hba] at q; exact r.nb b q
theorem SR.unlock {a : Addr} {od : Obj} {kvs : List (Key × V)} {i : Nat} {o : Own} {kds : List (Key × D)} (r : SR K P B (iaAt ia i a) s' σ' H' Fs') (e : s'[i]? = some (some (.io, .dcl kds))) (h : H' a = some (.frz od (.dK kvs))) (hia : o = Own.io → ia i = a) (n : o ≠ Own.sh) :
    SR K P B ia (s'.set i (some (o, .dct kds))) σ' (upd H' a (.dK kvs)) Fs' := by
  have hv := r.iov i _ e
  unfold iaAt at hv
  rw [if_pos rfl] at hv
  obtain ⟨a', F, h1, h2, h3, h4, h5, h6⟩ := r.own i _ _ e (by decide)
  rw [hv] at h1; cases h1
  cases h3 with
  | @dcl _ _ kvs' _ m1 m2 =>
    obtain ⟨od', m1⟩ := m1
    rw [h] at m1; cases m1
    have it := sqT_unlock (K := K) h
    have il := fz_unlock (K := K) h
    have keepF : ∀ j, j ≠ i → ∀ b, b ∈ Fs' j → upd H' a (.dK kvs) b = H' b := fun j hj b m => upd_ne fun e => h6 j hj (e ▸ m)
    have rK : RepK K (upd H' a (.dK kvs)) kds kvs F := RepK.keepG it il m2 fun b m => upd_ne fun e => h4 (e ▸ m)
    refine ⟨by simp [r.len], fun j o' d q => ?_, fun j o' d q n' => ?_, fun j d q => ?_, fun j q => ?_, r.inB, fun b q => ?_, fun b q => ?_⟩
    · by_cases hj : j = i
      · subst hj
        rw [get_set_eq e] at q; cases q
        exact ⟨.ref a, hv, by rw [h2]; exact .dct upd_same rK⟩
      · rw [get_set_ne hj] at q
        obtain ⟨v, g1, g2⟩ := r.rep j o' d q
        exact ⟨v, g1, g2.keepG it il fun b m => keepF j hj b m⟩
    · by_cases hj : j = i
      · subst hj
        rw [get_set_eq e] at q; cases q
        exact ⟨a, F, hv, h2, .dct upd_same rK, h4, h5, h6⟩
      · rw [get_set_ne hj] at q
        obtain ⟨b, G, g1, g2, g3, g4, g5, g6⟩ := r.own j o' d q n'
        refine ⟨b, G, g1, g2, ?_, g4, g5, g6⟩
        have fb : ∀ c, c ∈ b :: G → upd H' a (.dK kvs) c = H' c := fun c m => keepF j hj c (by rw [g2]; exact m)
        cases g3 with
        | lst p1 p2 => exact .lst ((fb _ List.mem_cons_self).trans p1) (Reps.keepG it il p2 fun c m => fb c (List.mem_cons_of_mem _ m))
        | dct p1 p2 => exact .dct ((fb _ List.mem_cons_self).trans p1) (RepK.keepG it il p2 fun c m => fb c (List.mem_cons_of_mem _ m))
        | dcl p1 p2 => exact .dcl (let ⟨u, w⟩ := p1; ⟨u, (fb _ List.mem_cons_self).trans w⟩) (RepK.keepG it il p2 fun c m => fb c (List.mem_cons_of_mem _ m))
        | dnt p1 p2 => exact .dnt ((fb _ List.mem_cons_self).trans p1) (Paired.mapP p2 fun a b z => ⟨z.1, z.2.1, z.2.2.1, z.2.2.2.keepG it⟩)
    · by_cases hj : j = i
      · subst hj
        rw [get_set_eq e] at q
        cases q
        rw [hia rfl]; exact hv
      · rw [get_set_ne hj] at q
        have := r.iov j d q
        unfold iaAt at this
        rw [if_neg hj] at this; exact this
    · by_cases hj : j = i
      · subst hj
        exact absurd (get_set_eq e) (q _ _)
      · exact r.dead j fun o' d' z => q o' d' (by rw [get_set_ne hj]; exact z)
    · by_cases hba : b = a
      · subst hba; rw [upd_same]; simp
      · rw [upd_ne hba]; exact r.tr b q
    · by_cases hba : b = a
      · subst hba; rw [upd_same] at q; cases q
      · rw [upd_ne hba] at q; exact r.nb b q
/-- a statement that walks the dict of slot i -/
def lockM (i : Nat) (m : M Fl) : M Fl := fun s => match s[i]? with
  | some (some (o, .dct kds)) => if o = .sh then .stuck else (match m (s.set i (some (.io, .dcl kds))) with
    | .ok fl s' => (match s'[i]? with
      | some (some (.io, .dcl kds')) => .ok fl (s'.set i (some (o, .dct kds')))
      | _ => .stuck)
    | _ => .stuck)
  | _ => .stuck
theorem tS_lock {i : Nat} {m : M Fl} (Dn : Ends) (σ : St) (H : Hp) (h : tS K E (lockM i m) Dn σ H) : tLock (tS K E m) Dn σ H := by
  obtain ⟨P, B, ia, s, Fs, r, w⟩ := h
  unfold lockM at w
  split at w
  · rename_i o kds e
    split at w
    · exact w.elim
    · rename_i n
      obtain ⟨a, kvs, hv, ha, hp, hia, lk⟩ := r.lock e n
      refine ⟨a, .dK kvs, ha, trivial, fun od => ⟨P, B, iaAt ia i a, _, Fs, lk od, ?_⟩⟩
      have frH : ∀ H', Fr P (upd H a (.frz od (.dK kvs))) H' → H' a = some (.frz od (.dK kvs)) ∧ Fr P H (upd H' a (.dK kvs)) := fun H' fr => by
        refine ⟨fr.i _ _ upd_same trivial, fun b hb => ?_, fun b u hb hi => ?_⟩
        · have hba : b ≠ a := fun q => hp (q ▸ hb)
          rw [upd_ne hba, fr.p b hb, upd_ne hba]
        · have hba : b ≠ a := fun q => by subst q; rw [ha] at hb; cases hb; exact hi
          rw [upd_ne hba]
          exact fr.i b u (by rw [upd_ne hba]; exact hb) hi
      cases em : m (s.set i (some (.io, .dcl kds))) with
      | stuck => rw [em] at w; exact w.elim
      | exc x s' => rw [em] at w; exact w.elim
      | ok fl s' =>
        rw [em] at w
        dsimp only at w
        split at w
        · rename_i kds' e'
          cases fl with
          | nx => exact fun σ' H' Fs' fr r' => let q := frH H' fr; ⟨q.1, w σ' _ Fs' q.2 (r'.unlock e' q.1 hia n)⟩
          | bk => exact fun σ' H' Fs' fr r' => let q := frH H' fr; ⟨q.1, w σ' _ Fs' q.2 (r'.unlock e' q.1 hia n)⟩
          | ct => exact fun σ' H' Fs' fr r' => let q := frH H' fr; ⟨q.1, w σ' _ Fs' q.2 (r'.unlock e' q.1 hia n)⟩
          | rt f d =>
            intro v σ' H' rv
            obtain ⟨F, Fs2, k1, k2, k3, k4, k5⟩ := rv
            have q := frH H' k2
            refine ⟨q.1, w v σ' _ ⟨F, Fs2, ?_, q.2, k3, k4.unlock e' q.1 hia n, fun hf => ?_⟩⟩
            · obtain ⟨a', F', g1, g2, g3, g4, g5, g6⟩ := k4.own i _ _ e' (by decide)
              have hv' := k4.iov i _ e'
              unfold iaAt at hv'
              rw [if_pos rfl] at hv'
              rw [hv'] at g1; cases g1
              exact k1.keepG (sqT_unlock q.1) (fz_unlock q.1) fun b mb => upd_ne fun z => g5 (.inr (z ▸ mb))
            · obtain ⟨b, G, g1, g2, g3, g4, g5, g6⟩ := k5 hf
              obtain ⟨a', F', j1, j2, j3, j4, j5, j6⟩ := k4.own i _ _ e' (by decide)
              have hv' := k4.iov i _ e'
              unfold iaAt at hv'
              rw [if_pos rfl] at hv'
              rw [hv'] at j1; cases j1
              have fb : ∀ c, c ∈ b :: G → upd H' a (.dK kvs) c = H' c := fun c mc => upd_ne fun z => j5 (.inr (by rw [g2]; exact z ▸ mc))
              refine ⟨b, G, g1, g2, ?_, g4, g5, g6⟩
              cases g3 with
              | lst p1 p2 => exact .lst ((fb _ List.mem_cons_self).trans p1) (Reps.keepG (sqT_unlock q.1) (fz_unlock q.1) p2 fun c m => fb c (List.mem_cons_of_mem _ m))
              | dct p1 p2 => exact .dct ((fb _ List.mem_cons_self).trans p1) (RepK.keepG (sqT_unlock q.1) (fz_unlock q.1) p2 fun c m => fb c (List.mem_cons_of_mem _ m))
              | dcl p1 p2 => exact .dcl (let ⟨u, w⟩ := p1; ⟨u, (fb _ List.mem_cons_self).trans w⟩) (RepK.keepG (sqT_unlock q.1) (fz_unlock q.1) p2 fun c m => fb c (List.mem_cons_of_mem _ m))
              | dnt p1 p2 => exact .dnt ((fb _ List.mem_cons_self).trans p1) (Paired.mapP p2 fun a b z => ⟨z.1, z.2.1, z.2.2.1, z.2.2.2.keepG (sqT_unlock q.1)⟩)
        · exact w.elim
  · exact w.elim
end
theorem ds_lock {X : Cx} {E : WX} {st : Stmt} {i : Nat} {m : M Fl} (h : PS X st (tS X.K E m)) : PS X st (tS X.K E (lockM i m)) := (ps_lock h).imp tS_lock
/-- a key as a value -/
def keyD : Key → D
  | .inl i => .int i
  | .inr x => .str x
theorem keyD_rep {K : PySem.W.Frag} {H : Hp} : ∀ k : Key, Rep K H (keyD k) (kV k) []
  | .inl i => .int
  | .inr x => .str
theorem RepK.keys {K : PySem.W.Frag} {H : Hp} : ∀ {kds : List (Key × D)} {kvs : List (Key × V)} {F : List Addr}, RepK K H kds kvs F → kds.map (·.1) = kvs.map (·.1)
  | [], _, _, h => by cases h; rfl
  | (k, d) :: ds, _, _, h => by
    cases h with
    | cons h1 h2 => simp [RepK.keys h2]
/-- for k in d, d locked at slot i -/
def keysM (i : Nat) : M (List D) := fun s => match s[i]? with
  | some (some (_, .dcl kds)) => .ok (kds.map fun q => keyD q.1) s
  | _ => .stuck
theorem it_keys {K : PySem.W.Frag} {P B : Addr → Prop} {H : Hp} {a : Addr} {od : Obj} {kds : List (Key × D)} {kvs : List (Key × V)} (h : H a = some (.frz od (.dK kvs))) (hk : kds.map (·.1) = kvs.map (·.1)) : ItOK K P B (Itk a od kvs) (kds.map fun q => keyD q.1) H := by
  refine ⟨fun H' => H' a = some (.frz od (.dK kvs)), h, fun H1 H2 q fr => fr.i _ _ q trivial, fun i H1 q => ⟨fun d e => ?_, fun hl => ⟨q, ?_⟩⟩⟩
  · have e' : (kds.map (·.1)).map keyD = kds.map fun q => keyD q.1 := by rw [List.map_map]; rfl
    rw [← e', hk, List.getElem?_map, List.getElem?_map] at e
    obtain ⟨k0, e1, e2⟩ := Option.map_eq_some_iff.mp e
    obtain ⟨⟨k, v⟩, e3, e4⟩ := Option.map_eq_some_iff.mp e1
    dsimp only at e4
    subst e4 e2
    refine ⟨⟨q, (List.getElem?_eq_some_iff.mp e3).1⟩, fun x H2 y => ?_⟩
    obtain ⟨rfl, k', v', e5, rfl⟩ := y
    rw [e3] at e5; cases e5
    exact ⟨.inl rfl, [], keyD_rep k, nofun, nofun⟩
  · have := congrArg List.length hk
    simp at this hl
    omega
theorem di_keys {X : Cx} {E : WX} {tg e : Expr} {i : Nat} (he : PE X e (tVar i)) : PI X tg e (tI X.K E (keysM i)) := (pi_keys he).imp fun σ H R h => by
  obtain ⟨P, B, ia, s, Fs, r, w⟩ := h
  unfold keysM at w
  split at w
  · rename_i o kds e
    obtain ⟨v, F, hv, ov⟩ := r.opd e
    obtain ⟨a, kvs, G, rfl, ⟨od, h1⟩, h2, no, ib⟩ := ov.dcl_inv
    exact ⟨.ref a, hv, a, od, rfl, .inl ⟨kvs, h1, w _ H P Fs (fun b m => m) Fr.refl r (it_keys h1 h2.keys)⟩⟩
  · exact w.elim
end PV

/-! PV: dict comprehensions. -/
namespace PV
open PySem PySem.Spec L2
def dcL (t : Tg) (tt : M Bool) (tk tv : M (Bool × D)) (vs : List Nat) : List D → List (Key × D) → S → Res (List (Key × D))
  | [], acc, s => .ok acc s
  | d :: ds, acc, s => match t.put d s with
    | none => .stuck
    | some s1 => (nox (tt s1)).bind fun b s2 => if b = true then (nox (tk s2)).bind fun k s3 => (nox (tv s3)).bind fun y s4 => (match k.2.key with
        | some kk => if acc.length < sizeLine then dcL t tt tk tv vs ds (kput acc kk y.2) (killAll s4 vs) else .stuck
        | none => .stuck)
      else dcL t tt tk tv vs ds acc (killAll s2 vs)
/-- {tk: tv for t in it if tt} -/
def dcM (it : M (List D)) (t : Tg) (tt : M Bool) (tk tv : M (Bool × D)) (vs : List Nat) : M (Bool × D) := fun s => (it s).bind fun ds s1 => (dcL t tt tk tv vs ds [] (killAll s1 vs)).bind fun acc s2 => .ok (true, .dct acc) s2
theorem tD_dc {K : PySem.W.Frag} {E : WX} {it : M (List D)} {t : Tg} {tt : M Bool} {tk tv : M (Bool × D)} {vs : List Nat} (hs : ∀ i, i ∈ t.slots → i ∈ vs) (σ : St) (H : Hp) (Q : VK) (h : tD K E (dcM it t tt tk tv vs) σ H Q) : tDc (tI K E it) (gT K t) (tT K EN tt) (tD K EN tk) (tD K EN tv) vs σ H Q := by
  obtain ⟨P, B, ia, s, Fs, r, w⟩ := h
  refine ⟨P, B, ia, s, Fs, r, (Post.bind w).mono (fun _ _ q => q) fun ds s1 q J H1 P' Fs1 hP fr1 r1 ok p np => ?_⟩
  obtain ⟨inv, i0, keep, turn⟩ := ok
  have q := Post.bind q
  have npP : ¬ P' p := fun h => r1.tr p h np
  have Pne : ∀ {b}, P' b → b ≠ p := fun h e => npP (e ▸ h)
  let QX : Exn → S → Prop := fun x s' => ∀ cls dx H', RX K P B ia s' σ H H' x cls dx → E cls dx σ H'
  let QF : List (Key × D) → S → Prop := fun acc s2 => ∀ v H', RV K P B ia s2 σ H H' true (.dct acc) v → Q v H'
  let W : Nat → Nat → Hp → Prop := fun i m H' => m + i = ds.length ∧ ∃ st Fs acc vacc F, (∀ i, i ∈ vs → ∀ x, st[i]? ≠ some (some x)) ∧ inv H' ∧ Fr P H H' ∧ H' p = some (.dK vacc) ∧ RepK K H' acc vacc F ∧ (∀ a, a ∈ F → B a ∧ a ≠ p) ∧
    SR K (fun b => (P' b ∨ b = p) ∨ b ∈ F) (fun b => B b ∧ b ≠ p) ia st (wipe σ vs) H' Fs ∧ Post QX QF (dcL t tt tk tv vs (ds.drop i) acc st)
  have toWipe : ∀ {P0 B0 : Addr → Prop} {st : S} {σ0 : St} {H0 : Hp} {F0 : Nat → List Addr}, (∀ i, i ∈ vs → ∀ x, st[i]? ≠ some (some x)) → SR K P0 B0 ia st σ0 H0 F0 → SR K P0 B0 ia st (wipe σ0 vs) H0 F0 := fun hd r0 =>
    r0.cong (wipe_length _ _) fun i o d e => wipe_out fun m => hd i m _ e
  refine ⟨W, ⟨ds.length, by simp, ?_⟩, ?_⟩
  · obtain ⟨Fs2, r2, sub⟩ := r1.killAll vs
    have hd : ∀ i, i ∈ vs → ∀ x, (killAll s1 vs)[i]? ≠ some (some x) := fun i m x => killAll_in m x
    have fr2 : Fr P' H1 (upd H1 p (.dK [])) := Fr.new np r1.tr
    refine ⟨killAll s1 vs, Fs2, [], [], [], hd, keep _ _ i0 fr2, fr1.trans (fr2.mono hP), upd_same, .nil, fun a m => (by cases m), ?_, by simpa using q⟩
    have r3 := toWipe hd (r2.new np (o := .dK []))
    have r4 := r3.prot (F := [p]) (fun a m => by rw [List.mem_singleton.mp m, upd_same]; simp) (fun i o d a e n x m => by
      rw [List.mem_singleton.mp m] at x
      have hi : i ∉ vs := fun m => hd i m _ e
      rw [wipe_out hi] at x
      exact r2.ownTr e n x np)
    exact ⟨r4.len, r4.rep, fun i o d e n => let ⟨a, F, h1, h2, h3, h4, h5, h6⟩ := r4.own i o d e n; ⟨a, F, h1, h2, h3, h4, fun q => h5 (q.elim (fun q => q.imp (fun q => q) fun q => by rw [q]; exact List.mem_cons_self) fun m => by cases m), h6⟩,
      r4.iov, r4.dead, fun j a m => ⟨r4.inB j a m, fun e => r2.trF m (e ▸ np)⟩, fun b q => r4.tr b (q.elim (fun q => q.imp (fun q => q) fun q => by rw [q]; exact List.mem_cons_self) fun m => by cases m), fun b q => ⟨r4.nb b q, fun e => by rw [e, upd_same] at q; cases q⟩⟩
  · rintro i m H2 ⟨em, st, Fs2, acc, vacc, F, hd, i2, fr2, hp, hr, hb, r2, w2⟩
    obtain ⟨go, stop⟩ := turn i H2 i2
    cases e : ds[i]? with
    | none =>
      have hl : ds.length ≤ i := List.getElem?_eq_none_iff.mp e
      rw [List.drop_eq_nil_of_le hl, dcL] at w2
      refine .inl ⟨stop (by omega), w2 (.ref p) H2 ?_⟩
      have r3 : SR K (fun b => (P' b ∨ b = p) ∨ b ∈ F) (fun b => B b ∧ b ≠ p) ia st σ H2 Fs2 := r2.cong (by rw [wipe_length]) fun i o d e => (wipe_out fun m => hd i m _ e).symm
      refine ⟨p :: F, Fs2, .dct hp hr, fr2, fun a m => ?_, ?_, fun _ => ⟨p, F, rfl, rfl, .dct hp hr, fun m => (hb p m).2 rfl, fun q => npP (hP p q), fun j m => (r3.inB j p m).2 rfl⟩⟩
      · rcases List.mem_cons.mp m with rfl | m
        · exact r1.nb _ np
        · exact (hb a m).1
      · have r4 := r3.weak (P' := fun b => P b ∨ b ∈ p :: F) fun b q => q.elim (fun q => .inl (.inl (hP b q))) fun m => (List.mem_cons.mp m).elim (fun e => .inl (.inr e)) .inr
        exact ⟨r4.len, r4.rep, r4.own, r4.iov, r4.dead, fun j a m => (r4.inB j a m).1, r4.tr, fun b q => (r4.nb b q).1⟩
    | some d =>
      obtain ⟨g1, g2⟩ := go d e
      have hi : i < ds.length := (List.getElem?_eq_some_iff.mp e).1
      have ed : ds.drop i = d :: ds.drop (i + 1) := by
        rw [List.drop_eq_getElem_cons hi, (List.getElem?_eq_some_iff.mp e).2]
      rw [ed, dcL] at w2
      refine .inr ⟨g1, fun H' => W (i + 1) (m - 1) H', fun H' hN => ⟨m - 1, by omega, hN⟩, fun x H3 y => ?_⟩
      obtain ⟨hH, Fd, rep, hpd, hbd⟩ := g2 x H3 y
      have fr3 : Fr (fun b => (P' b ∨ b = p) ∨ b ∈ F) H2 H3 := by
        rcases hH with e | ⟨p', o, np', e⟩
        · subst e; exact Fr.refl
        · subst e; exact Fr.new np' r2.tr
      have r3 : SR K (fun b => (P' b ∨ b = p) ∨ b ∈ F) (fun b => B b ∧ b ≠ p) ia st (wipe σ vs) H3 Fs2 := by
        rcases hH with e | ⟨p', o, np', e⟩
        · subst e; exact r2
        · subst e; exact r2.new np'
      split at w2
      · exact w2.elim
      · rename_i s3 e3
        refine put_ok2 e3 r3 rep (fun a m => .inl (.inl (hpd a m))) (fun a m => ⟨hbd a m, Pne (hpd a m)⟩) fun σ4 Fs4 r4 l4 f4 => ?_
        have hw : wipe σ4 vs = wipe σ vs := by
          refine wipe_ext (by rw [l4, wipe_length]) fun j hj => ?_
          rw [f4 j fun m => hj (hs j m), wipe_out hj]
        refine ⟨hw, _, _, ia, s3, Fs4, r4, (nox_post w2).mono (fun _ _ q => q.elim) fun b s5 q5 H5 Fs5 fr5 r5 => ?_⟩
        have fr25 : Fr P H H5 := fr2.trans ((fr3.trans fr5).mono fun b h => .inl (.inl (hP b h)))
        have i5 : inv H5 := keep _ _ i2 ((fr3.trans fr5).mono fun b h => .inl (.inl h))
        have hp5 : H5 p = some (.dK vacc) := ((fr3.trans fr5).p p (.inl (.inr rfl))).trans hp
        have hr5 : RepK K H5 acc vacc F := RepK.keep (fr3.trans fr5).i hr fun a m => (fr3.trans fr5).p a (.inr m)
        cases b with
        | false =>
          rw [if_neg (by decide)] at q5
          refine iteF ?_
          obtain ⟨Fs6, r6, sub⟩ := r5.killAll vs
          have hd6 : ∀ i, i ∈ vs → ∀ x, (killAll s5 vs)[i]? ≠ some (some x) := fun i m x => killAll_in m x
          exact ⟨by omega, killAll s5 vs, Fs6, acc, vacc, F, hd6, i5, fr25, hp5, hr5, hb, by rw [← hw]; exact toWipe hd6 r6, q5⟩
        | true =>
          rw [if_pos rfl] at q5
          refine iteT ⟨_, _, ia, s5, Fs5, r5, (nox_post q5).mono (fun _ _ q => q.elim) fun kk s5' q5' ky H5' rv0 => ?_⟩
          obtain ⟨G0, Fs5', j1, j2, j3, j4, j5⟩ := rv0
          refine ⟨_, _, ia, s5', Fs5', j4, (nox_post q5').mono (fun _ _ q => q.elim) fun y s6 q6 yv H6 rv => ?_⟩
          obtain ⟨G, Fs6, k1, k2', k3, k4', k5⟩ := rv
          have k2 : Fr (fun b => (P' b ∨ b = p) ∨ b ∈ F) H5 H6 := j2.trans (k2'.mono fun b h => .inl h)
          have k4 : SR K (fun b => ((P' b ∨ b = p) ∨ b ∈ F) ∨ b ∈ G) (fun b => B b ∧ b ≠ p) ia s6 σ4 H6 Fs6 := k4'.weak fun b h => h.elim (fun h => .inl (.inl h)) .inr
          split at q6
          · rename_i kq hkq
            split at q6
            · rename_i hz
              have hp6 : H6 p = some (.dK vacc) := (k2.p p (.inl (.inr rfl))).trans hp5
              have hr6 : RepK K H6 acc vacc F := RepK.keep k2.i hr5 fun a m => k2.p a (.inr m)
              refine ⟨vacc, kq, j1.key hkq, hp6, by rw [← hr6.length]; exact hz, ?_⟩
              obtain ⟨Fs7, r7, sub⟩ := k4.killAll vs
              have hd7 : ∀ i, i ∈ vs → ∀ x, (killAll s6 vs)[i]? ≠ some (some x) := fun i m x => killAll_in m x
              have r8 := toWipe hd7 r7
              rw [hw] at r8
              have im : ∀ b o, H6 b = some o → Im o → upd H6 p (.dK (putK vacc kq yv)) b = some o := fun b o hx hi => by rw [upd_ne fun e => by subst e; rw [hp6] at hx; cases hx; exact hi]; exact hx
              obtain ⟨F', g1', g2'⟩ := RepK.put (k := kq) k1 hr6
              have npF : ∀ a, a ∈ F' → a ≠ p := fun a m => (g2' a m).elim (fun m => (hb a m).2) fun m => (k3 a m).2
              have hr7 : RepK K (upd H6 p (.dK (putK vacc kq yv))) (kput acc kq y.2) (putK vacc kq yv) F' := RepK.keep im g1' fun a m => upd_ne (npF a m)
              have fr6 : Fr P' H5 (upd H6 p (.dK (putK vacc kq yv))) := ⟨fun b hb => by rw [upd_ne (Pne hb)]; exact k2.p b (.inl (.inl hb)), fun b o hb hi => im b o (k2.i b o hb hi) hi⟩
              refine ⟨by omega, killAll s6 vs, Fs7, kput acc kq y.2, putK vacc kq yv, F', hd7, keep _ _ i5 fr6, fr25.trans (fr6.mono hP), upd_same, hr7, fun a m => (g2' a m).elim (hb a) (k3 a), ?_, q6⟩
              have r9 : SR K (fun b => (P' b ∨ b = p) ∨ b ∈ F') (fun b => B b ∧ b ≠ p) ia (killAll s6 vs) (wipe σ vs) H6 Fs7 := r8.weak fun b q => q.elim (fun q => .inl (.inl q)) fun m => (g2' b m).elim (fun m => .inl (.inr m)) .inr
              have npS : ∀ j a, a ∈ Fs7 j → a ≠ p := fun j a m => (r9.inB j a m).2
              refine ⟨r9.len, fun j o d e => let ⟨v, h1, h2⟩ := r9.rep j o d e; ⟨v, h1, h2.keep im fun a m => upd_ne (npS j a m)⟩,
                fun j o d e n => let ⟨a, F, h1, h2, h3, h4, h5, h6⟩ := r9.own j o d e n; ⟨a, F, h1, h2, h3.keep im fun b m => upd_ne (npS j b (by rw [h2]; exact m)), h4, h5, h6⟩, r9.iov, r9.dead, r9.inB, fun b q => ?_, fun b q => ?_⟩
              · by_cases hbp : b = p
                · subst hbp; rw [upd_same]; simp
                · rw [upd_ne hbp]; exact r9.tr b q
              · by_cases hbp : b = p
                · subst hbp; rw [upd_same] at q; cases q
                · rw [upd_ne hbp] at q; exact r9.nb b q
            · exact q6.elim
          · exact q6.elim
/-- a dict comprehension; h: pe_dc .. -/
theorem dm_dc {X : Cx} {E : WX} {e : Expr} {it : M (List D)} {t : Tg} {tt : M Bool} {tk tv : M (Bool × D)} {vs : List Nat} (h : PE X e (tDc (tI X.K E it) (gT X.K t) (tT X.K EN tt) (tD X.K EN tk) (tD X.K EN tv) vs)) (hs : t.slots.all (fun i => vs.contains i) = true := by rfl) : PE X e (tD X.K E (dcM it t tt tk tv vs)) :=
  h.imp (tD_dc fun i m => by simpa using List.all_eq_true.mp hs i m)
@[simp] theorem ev_dc (it : M (List D)) (t : Tg) (tt : M Bool) (tk tv : M (Bool × D)) (vs : List Nat) (s : S) : dcM it t tt tk tv vs s = (it s).bind fun ds s1 => (dcL t tt tk tv vs ds [] (killAll s1 vs)).bind fun acc s2 => .ok (true, .dct acc) s2 := rfl
@[simp] theorem ev_keys (i : Nat) (s : S) : keysM i s = match s[i]? with
  | some (some (_, .dcl kds)) => .ok (kds.map fun q => keyD q.1) s
  | _ => .stuck := rfl
@[simp] theorem ev_lock (i : Nat) (m : M Fl) (s : S) : lockM i m s = match s[i]? with
  | some (some (o, .dct kds)) => if o = .sh then .stuck else (match m (s.set i (some (.io, .dcl kds))) with
    | .ok fl s' => (match s'[i]? with
      | some (some (.io, .dcl kds')) => .ok fl (s'.set i (some (o, .dct kds')))
      | _ => .stuck)
    | _ => .stuck)
  | _ => .stuck := rfl
end PV

/-! PV: sets of texts: set(xs) of a list of texts, sorted of it. -/
namespace PVS
open PySem PySem.Spec PyProof.Rows L2
def keyT (e : Int × Value) : Str := match e.2 with | .str k _ => k | _ => Str.empty
def GoodT (P : Program) (w : World) (e : Int × Value) : Prop := ∃ k tk, e.2 = Value.str k tk ∧ e.1 = (PySem.strKind P w).hash k
/-- the set of texts at a: S its members, n their number; its table rises and can be walked -/
def SetT (P : Program) (w : World) (h : Heap) (a : Addr) (S : Str → Bool) (n : Nat) : Prop :=
  ∃ o es ep t, h.get? a = some o ∧ o.ExactSet ∧ o.data = .set es ep t ∧ (∀ e ∈ es.toList, GoodT P w e) ∧ (es.toList.map keyT).Nodup ∧ (∀ k, S k = true ↔ k ∈ es.toList.map keyT) ∧
    es.size < scanBound ∧ t.fits es.size = true ∧ es.size = n ∧ Ris t.place.toList ∧ (w.params.followText "set-order" = true ∨ t.led = true)
section
variable {P : Program} {w : World} {h h' : Heap} {a : Addr} {S : Str → Bool} {n : Nat}
theorem SetT.at (R : SetT P w h a S n) (k : ∀ o, h.get? a = some o → h'.get? a = some o) : SetT P w h' a S n := by
  obtain ⟨o, es, ep, t, ho, r⟩ := R
  exact ⟨o, es, ep, t, k o ho, r⟩
theorem SetT.congr {S' : Str → Bool} (R : SetT P w h a S n) (e : ∀ k, S' k = S k) : SetT P w h a S' n := by
  have q : S' = S := funext e
  rw [q]; exact R
theorem goodT_elems {l : List (Int × Value)} (g : ∀ e ∈ l, GoodT P w e) : ElemsOf (PySem.strKind P w) l := fun e he => by
  obtain ⟨k, tk, h1, h2⟩ := g e he
  exact ⟨⟨k, by rw [h1]; exact strKind_is P w k tk, h2⟩, by rw [h1] <;> rfl⟩
theorem goodT_is {e : Int × Value} (g : GoodT P w e) (k : Str) : (PySem.strKind P w).is k e.2 = true ↔ keyT e = k := by
  obtain ⟨k0, tk, h1, _⟩ := g
  unfold keyT
  rw [h1]
  show ((k0 == k) = true) ↔ k0 = k
  exact beq_iff_eq
theorem goodT_mem {l : List (Int × Value)} (g : ∀ e ∈ l, GoodT P w e) (k : Str) : k ∈ l.map keyT ↔ ∃ e ∈ l, (PySem.strKind P w).is k e.2 = true := by
  rw [List.mem_map]
  constructor
  · rintro ⟨e, he, q⟩
    exact ⟨e, he, (goodT_is (g e he) k).2 q⟩
  · rintro ⟨e, he, q⟩
    exact ⟨e, he, (goodT_is (g e he) k).1 q⟩
end
section
variable {P : Program} {w : World} {A : Around} {E : Value → Shared → Prop} {s : Shared} {a : Addr} {S : Str → Bool} {n : Nat}
theorem setT_add_tail {g : Bool → Sem Unit} (hg : ∀ (b : Bool) (s₁ : Shared) (Q' : Unit → Shared → Prop), Q' () s₁ → wpAny (model P w) A (g b) Q' E s₁)
    {o : Obj} {es : Array (Int × Value)} {ep : Nat} {t : SetTable} (ho : s.heap.get? a = some o) (hex : o.ExactSet) (hd : o.data = .set es ep t)
    {es1 : Array (Int × Value)} {t2 : SetTable} {S' : Str → Bool} (g1 : ∀ e ∈ es1.toList, GoodT P w e) (nd1 : (es1.toList.map keyT).Nodup) (m1 : ∀ k, S' k = true ↔ k ∈ es1.toList.map keyT)
    (hb1 : es1.size < scanBound) (hf2 : t2.fits es1.size = true) (hr : Ris t2.place.toList) (hl : w.params.followText "set-order" = true ∨ t2.led = true) {wasDummy : Bool} {R : Option Bool → Shared → Prop}
    (hR : ∀ h', Heap.SameBut a s.heap h' → SetT P w h' a S' es1.size → R (some true) { s with heap := h' }) :
    wpAny (model P w) A (do
        storeSet a es1 t2
        if (!wasDummy && t2.tooFull) = true then do
            g (relayAll t2 es1 (SetTable.grown es1.size)).2.2
            storeSet a (relayAll t2 es1 (SetTable.grown es1.size)).1 (relayAll t2 es1 (SetTable.grown es1.size)).2.1
            pure (some true)
          else pure (some true)) R E s := by
  refine wpAny_bind (wpAny_storeSet_of ho hd ?_ (fits_of_scanBound hb1))
  have ho1 := store_at (es' := es1) (t' := t2) ho hd
  have sb1 := Heap.SameBut.update s.heap a (Obj.putSet es1 t2)
  split
  · have pm := relayAll_perm t2 es1 (SetTable.grown es1.size)
    have hf3 := relayAll_fits t2 es1 (SetTable.grown es1.size)
    have hr3 := relayAll_ris t2 es1 (SetTable.grown es1.size)
    have hl3 := relayAll_led t2 es1 (SetTable.grown es1.size)
    generalize relayAll t2 es1 (SetTable.grown es1.size) = Z at pm hf3 hr3 hl3 ⊢
    obtain ⟨es2, t3, gave⟩ := Z
    dsimp only at pm hf3 hr3 hl3 ⊢
    have hsz : es2.size = es1.size := by rw [← Array.length_toList, pm.length_eq, Array.length_toList]
    have hb2 : es2.size < scanBound := by rw [hsz]; exact hb1
    refine wpAny_bind (hg _ _ _ ?_)
    refine wpAny_bind (wpAny_storeSet_of ho1 rfl ?_ (fits_of_scanBound hb2))
    have ho2 := store_at (es' := es2) (t' := t3) ho1 rfl
    refine wpAny_pure (hR _ (sb1.trans (Heap.SameBut.update _ a _)) ?_)
    exact ⟨_, es2, _, t3, ho2, hex, rfl, fun e he => g1 e (pm.mem_iff.mp he), (pm.map keyT).nodup_iff.mpr nd1, fun k => (m1 k).trans (pm.map keyT).mem_iff.symm, hb2, hf3, hsz, hr3,
      hl.imp id fun z => by rw [hl3]; exact z⟩
  · exact wpAny_pure (hR _ sb1 ⟨_, es1, _, t2, ho1, hex, rfl, g1, nd1, m1, hb1, hf2, rfl, hr, hl⟩)
theorem setT_add_hashed {k : Str} {tk : PySem.Tok} {Q : Bool → Shared → Prop} (R : SetT P w s.heap a S n) (room : n + 1 < scanBound)
    (hQ : ∀ h', Heap.SameBut a s.heap h' → SetT P w h' a (fun j => S j || decide (j = k)) (if S k = true then n else n + 1) → Q (!S k) { s with heap := h' }) :
    wpAny (model P w) A (setAddHashed a (.str k tk) ((PySem.strKind P w).hash k)) Q E s := by
  obtain ⟨o, es, ep, t, ho, hex, hd, g, nd, hm, hb, hf, hn, hr, hl⟩ := R
  have hkey : (PySem.strKind P w).is k (.str k tk) = true := strKind_is P w k tk
  have hsc : (Value.str k tk).scannable = true := rfl
  have hel : ElemsOf (PySem.strKind P w) es.toList := goodT_elems g
  unfold setAddHashed setAddHashedIn
  refine wpAny_holding (wpAny_bind (wpAny_setState_of ho hd hf ?_))
  dsimp only
  rw [byScan_of hsc hb hel]
  simp only [↓reduceIte]
  unfold setAddByScan
  refine wpAny_bind ?_
  refine wpAny_bind (wpAny_rule ?_)
  refine wpAny_bind (wpAny_setScan_of hkey ho hd hf hel ?_)
  cases hfi : List.findIdx? (fun e => (PySem.strKind P w).is k e.2) es.toList with
  | some j =>
    dsimp only
    obtain ⟨hj, pj, _⟩ := List.findIdx?_eq_some_iff_getElem.mp hfi
    have hSk : S k = true := (hm k).2 ((goodT_mem (P := P) (w := w) g k).2 ⟨es.toList[j], List.getElem_mem hj, pj⟩)
    refine wpAny_pure (wpAny_pure ?_)
    have q := hQ s.heap (Heap.SameBut.refl a s.heap) ⟨o, es, ep, t, ho, hex, hd, g, nd, fun i => by
      rw [Bool.or_eq_true, decide_eq_true_eq, ← hm i]
      exact ⟨fun z => z.elim id (fun e => e ▸ hSk), .inl⟩, hb, hf, by rw [if_pos hSk]; exact hn, hr, hl⟩
    rw [hSk] at q
    exact q
  | none =>
    dsimp only
    have hnk : k ∉ es.toList.map keyT := fun z => by
      obtain ⟨e, he, q⟩ := (goodT_mem (P := P) (w := w) g k).1 z
      have c := List.findIdx?_eq_none_iff.mp hfi e he
      rw [q] at c
      cases c
    have hSk : S k = false := by
      cases q : S k with
      | false => rfl
      | true => exact absurd ((hm k).1 q) hnk
    have hgw : ∀ (b : Bool) {s₁ : Shared} {Q' : Unit → Shared → Prop}, Q' () s₁ → wpAny (model P w) A (match b with | true => rule "set.scan.the-table-gave-way" | false => pure ()) Q' E s₁ :=
      fun b s₁ Q' q => by cases b <;> first | exact wpAny_pure q | exact wpAny_rule q
    have pm := layNew_perm t es ((PySem.strKind P w).hash k) (.str k tk)
    have hf1 := layNew_fits t es ((PySem.strKind P w).hash k) (.str k tk)
    have hr1 := layNew_ris t es ((PySem.strKind P w).hash k) (.str k tk) hr
    have hl1 := layNew_led t es ((PySem.strKind P w).hash k) (.str k tk)
    generalize layNew t es ((PySem.strKind P w).hash k) (.str k tk) = Z at pm hf1 hr1 hl1 ⊢
    obtain ⟨es1, t1, wasDummy, gave⟩ := Z
    dsimp only at pm hf1 hr1 hl1 ⊢
    rw [Array.toList_push] at pm
    have pc : es1.toList.Perm (((PySem.strKind P w).hash k, Value.str k tk) :: es.toList) := pm.trans (List.perm_append_singleton _ _)
    have pk : (es1.toList.map keyT).Perm (k :: es.toList.map keyT) := pc.map keyT
    have g1 : ∀ e ∈ es1.toList, GoodT P w e := fun e he => by
      rcases List.mem_cons.mp (pc.mem_iff.mp he) with z | z
      · rw [z]; exact ⟨k, tk, rfl, rfl⟩
      · exact g e z
    have nd1 : (es1.toList.map keyT).Nodup := pk.nodup_iff.mpr (List.nodup_cons.mpr ⟨hnk, nd⟩)
    have m1 : ∀ i, (S i || decide (i = k)) = true ↔ i ∈ es1.toList.map keyT := fun i => by
      rw [Bool.or_eq_true, decide_eq_true_eq, hm i, pk.mem_iff, List.mem_cons]
      exact Or.comm
    have hsz : es1.size = n + 1 := by rw [← Array.length_toList, pc.length_eq, List.length_cons, Array.length_toList, hn]
    have hb1 : es1.size < scanBound := by rw [hsz]; exact room
    have hled : w.params.followText "set-order" = true ∨ t1.led = true := hl.imp id fun z => by rw [hl1]; exact z
    have fin : ∀ h', Heap.SameBut a s.heap h' → SetT P w h' a (fun j => S j || decide (j = k)) es1.size → Q true { s with heap := h' } := fun h' sb r => by
      have q := hQ h' sb
      rw [hSk] at q
      rw [hsz] at r
      exact q r
    refine wpAny_bind (hgw _ ?_)
    split
    · refine wpAny_bind ?_
      rw [hashByValue_scannable 8 hsc]
      refine wpAny_pure ?_
      refine setT_add_tail ?_ ho hex hd g1 nd1 m1 hb1 ?_ ?_ ?_ ?_
      · intro b s₁ Q' q; cases b <;> first | exact wpAny_pure q | exact wpAny_rule q
      · first | (split <;> first | exact hf1 | exact SetTable.fits_plain_off hf1) | exact hf1
      · first | (split <;> exact hr1) | exact hr1
      · first | (split <;> exact hled) | exact hled
      · intro h' sb r; dsimp only; exact wpAny_pure (fin h' sb r)
    · refine wpAny_bind (wpAny_pure ?_)
      simp only [↓reduceIte]
      refine setT_add_tail ?_ ho hex hd g1 nd1 m1 hb1 hf1 hr1 hled ?_
      · intro b s₁ Q' q; cases b <;> first | exact wpAny_pure q | exact wpAny_rule q
      · intro h' sb r; dsimp only; exact wpAny_pure (fin h' sb r)
theorem setT_fresh {h : Heap} (P : Program) (w : World) : SetT P w (h.push { cls := .type "set", dict := none, data := .set #[] 0 (.fresh 0 0 (!w.params.followText "set-order")) }) h.objs.size (fun _ => false) 0 :=
  ⟨_, #[], 0, _, Heap.get?_push_size _ rfl, ⟨rfl, rfl, rfl⟩, rfl, (fun e he => by simp at he), (by simp), (fun k => by simp), (by decide), (by rfl), rfl, List.Pairwise.nil, by
    show _ ∨ (!w.params.followText "set-order") = true
    cases w.params.followText "set-order"
    · exact .inr rfl
    · exact .inl rfl⟩
theorem code_set_led1 (a : Value) {Q₁ : Value → Shared → Prop}
    (h : Q₁ (.ref s.heap.objs.size) { s with heap := s.heap.push { cls := .type "set", dict := none, data := .set #[] 0 (.fresh 0 0 (!w.params.followText "set-order")) } }) :
    codeAny (model P w) A (.call (.builtin "set.__new__") ⟨[.type "set", a], []⟩) (wants Q₁ E) s := by
  refine codeAny_of_tree ?_
  show wpAny _ A.in1 (do checkBuiltinCall "set.__new__" ⟨[.type "set", a], []⟩; again (.builtin "set.__new__" ⟨[.type "set", a], []⟩)) _ _ s
  refine wpAny_bind (wpAny_of_eq (PySem.F.newCall_set_1 a) (wpAny_pure ⟨plainId_quiet PySem.F.plain_set_new _, codeAny_builtin PySem.F.entry_set_new ?_⟩))
  rw [Around.under_plainId PySem.F.plain_set_new _]
  unfold Builtin.«set.__new__» Builtin.Frozenset.newClass
  have hsub := sub_set_self
  obtain ⟨hp, g, d, tk, os⟩ := s
  dsimp only
  wp_walk
  refine wpAny_askSetting (wpAny_pure ?_)
  dsimp only
  simp only [newObj]
  refine wpAny_bind (wpAny_alloc (wpAny_pure ?_))
  exact wpAny_pure h
end
end PVS

/-! PV: sorted(set(xs)) of a list of texts. -/
namespace PVS
open PySem PySem.Spec PyProof.Rows L2
section
variable {prog : Program} {w : World} {A : Around} {R : Result → Shared → Prop} {I : Addr} {fp wr : List Addr} {G : Array GenState → Array GenState → Prop} {n : Nat} {P : Nat → Value → Prop} {St : Nat → Shared → Prop}
theorem any_snoc (xs : List Str) (i : Nat) (hi : i < xs.length) (k' : Str) : ((xs.take i).any (· == k') || decide (k' = xs.getD i Str.empty)) = (xs.take (i + 1)).any (· == k') := by
  have e1 : xs.getD i Str.empty = xs[i] := by
    rw [List.getD_eq_getElem?_getD, List.getElem?_eq_getElem hi]; rfl
  rw [e1, List.take_add_one, List.getElem?_eq_getElem hi, List.any_append]
  congr 1
  rw [Bool.eq_iff_iff, decide_eq_true_iff]
  simp
  exact eq_comm
theorem loopT (W : WalksS prog w A.in1 I fp wr G n P St) (S : Addr) (hSf : S ∉ fp) (xs : List Str) (hsz : xs.length = n) (hn1 : n + 1 < scanBound)
    (hval : ∀ i v, P i v → ∃ t, v = .str (xs.getD i Str.empty) t) :
    ∀ (k i c : Nat) (s : Shared), n - i = k → i ≤ n → c ≤ i → St i s →
      SetT prog w s.heap S (fun k' => (xs.take i).any (· == k')) c →
      (∀ s' c', c' ≤ n → Moved (S :: wr) G s s' → SetT prog w s'.heap S (fun k' => (xs.take n).any (· == k')) c' → R (.ok (.ret .none)) s') →
      codeAny (model prog w) A (.builtin "set.update.loop" ⟨[.ref S, .ref I], []⟩) R s := by
  have hSw : S ∉ wr := fun h => hSf (W.sub _ h)
  have hsub : ∀ b ∈ wr, b ∈ S :: wr := fun b hb => List.mem_cons_of_mem _ hb
  intro k
  induction k with
  | zero =>
    intro i c s hk hi hc hst hS hR
    have hin : i = n := by omega
    subst hin
    refine codeAny_builtin PyProof.Rows.F.entry_set_update_loop ?_
    rw [Around.under_plainId PyProof.Rows.F.plain_set_update_loop _]
    show wpAny _ A.in1 (pyNext (.ref I) >>= _) _ _ s
    refine wpAny_bind (W.done s _ _ hst fun s' hm => ?_)
    show wpAny _ A.in1 (ret Value.none) _ _ s'
    exact wpAny_pure (hR s' c hc (hm.mono hsub) (hS.at fun o ho => hm.heap S _ hSw ho))
  | succ k ih =>
    intro i c s hk hi hc hst hS hR
    have hlt : i < n := by omega
    refine codeAny_builtin PyProof.Rows.F.entry_set_update_loop ?_
    rw [Around.under_plainId PyProof.Rows.F.plain_set_update_loop _]
    show wpAny _ A.in1 (pyNext (.ref I) >>= _) _ _ s
    refine wpAny_bind (W.item i s _ _ hlt hst fun v s' hP hst' hm => ?_)
    obtain ⟨t, rfl⟩ := hval i v hP
    have hS' : SetT prog w s'.heap S (fun k' => (xs.take i).any (· == k')) c := hS.at fun o ho => hm.heap S _ hSw ho
    show wpAny _ A.in1 (holding [Value.str (xs.getD i Str.empty) t] (setAdd S (.str (xs.getD i Str.empty) t)) >>= _) _ _ s'
    refine wpAny_bind (wpAny_holding ?_)
    unfold setAdd
    refine wpAny_holding ?_
    refine wpAny_bind ((PySem.strKind prog w).pyHash (k := xs.getD i Str.empty) (strKind_is _ _ _ _) ?_)
    refine setT_add_hashed (s := { s' with toks := s'.toks + 1 }) hS' (by omega) fun h' hsb hS2 => ?_
    have hSi := hS2.congr (S' := fun k' => (xs.take (i + 1)).any (· == k')) fun k' => (any_snoc xs i (by omega) k').symm
    refine wpAny_pure ⟨plainId_quiet PyProof.Rows.F.plain_set_update_loop _, ih (i + 1) _ _ (by omega) hlt (by split <;> omega) (W.frame _ s' _ _ hst' (Nat.le_succ _) fun b hb o e => ?_) hSi fun s'' c'' hc'' hm'' hS'' => ?_⟩
    · rw [hsb.2 b (fun h : b = S => hSf (by rw [← h]; exact hb))]; exact e
    · refine hR s'' c'' hc'' (Moved.trans W.gtrans ((hm.mono hsub).then_heap (Nat.le_succ _) fun b o hb e => ?_) hm'') hS''
      rw [hsb.2 b (fun h : b = S => hb (by rw [h]; exact List.mem_cons_self))]; exact e
end
section
variable {prog : Program} {w : World} {A : Around} {E : Value → Shared → Prop} {s : Shared}
theorem call_set_listT {l : Addr} {items : Array Value} {xs : List Str} {Q : Value → Shared → Prop}
    (hh : A.handled = none) (hl : s.heap.IsList l items) (hi : PyProof.Rows.StrsAre items.toList xs) (hn1 : xs.length + 1 < scanBound)
    (h : ∀ (h' : Heap) (tk c : Nat), c ≤ xs.length → SetT prog w h' s.heap.objs.size (fun k' => xs.any (· == k')) c →
      (∀ b o, b < s.heap.objs.size → s.heap.get? b = some o → h'.get? b = some o) → Q (.ref s.heap.objs.size) { s with heap := h', toks := tk }) :
    wpAny (model prog w) A (call (.type "set") [.ref l]) Q E s := by
  obtain ⟨c, tl, hmro⟩ := PySem.F.called_set.mro
  have hmade := PySem.F.called_set.made
  have hsub := PySem.F.called_set.sub
  refine wpAny_call (codeAny_of_tree ?_)
  show wpAny _ _ (callAny (.type "set") _) _ _ _
  refine wpAny_pure ⟨Code.quiet_builtin _ (by decide +kernel), codeAny_builtin PySem.F.entry_type_call ?_⟩
  rw [Around.under_plain (weight_type_call_type "set" [.ref l] []) rfl]
  have h1 := PySem.F.called_set.notType
  have h2 := PySem.F.called_set.canCreate
  have hct := PySem.F.typeCall_set_1 (.ref l)
  repeat (any_goals (first | assumption | wp_step))
  refine codeAny_mono (code_set_led1 (.ref l) (E := E) (Q₁ := fun obj s₁ => obj = .ref s.heap.objs.size ∧ s₁ = { s with heap := s.heap.push { cls := .type "set", dict := none, data := .set #[] 0 (.fresh 0 0 (!w.params.followText "set-order")) } }) ⟨rfl, rfl⟩) fun r s₁ hr => ?_
  cases r with
  | error e => exact hr
  | ok fl =>
    cases fl with
    | ret obj =>
      obtain ⟨rfl, rfl⟩ := hr
      have hS : (s.heap.push { cls := .type "set", dict := none, data := .set #[] 0 (.fresh 0 0 (!w.params.followText "set-order")) }).get? s.heap.objs.size = some { cls := .type "set", dict := none, data := .set #[] 0 (.fresh 0 0 (!w.params.followText "set-order")) } := Heap.get?_push_size _ rfl
      have hT : Shared.TypeIs { s with heap := s.heap.push { cls := .type "set", dict := none, data := .set #[] 0 (.fresh 0 0 (!w.params.followText "set-order")) } } (.ref s.heap.objs.size) "set" := ⟨_, hS, rfl⟩
      have hli := PySem.F.called_set.init.lookup
      have hbi := PySem.F.called_set.init.bind (.ref s.heap.objs.size)
      have hfr := setT_fresh (h := s.heap) prog w
      generalize (!w.params.followText "set-order") = led at *
      repeat (any_goals (first | assumption | wp_step))
      refine codeAny_mono (codeAny_call_builtin (R := wants (fun r s₂ => r = .none ∧ ∃ h' tk c, s₂ = { s with heap := h', toks := tk } ∧ c ≤ xs.length ∧
          SetT prog w h' s.heap.objs.size (fun k' => xs.any (· == k')) c ∧
          (∀ b o, b < s.heap.objs.size → s.heap.get? b = some o → h'.get? b = some o)) E) PySem.F.called_set.init.plain PySem.F.entry_set_init (check_set_init_1 hT ?_)) fun r₂ s₂ hr₂ => ?_
      · obtain ⟨ol, hol, hcl, nl, hdl⟩ := hl
        obtain ⟨ocls, odict, odata, oslots⟩ := ol
        simp only at hcl hdl
        subst hcl; subst hdl
        have hol' : (s.heap.push { cls := .type "set", dict := none, data := .set #[] 0 (.fresh 0 0 led) }).get? l = some { cls := .type "list", dict := odict, data := .seq items nl, slots := oslots } := Heap.get?_push_of_some _ hol
        have hsls := PySem.F.sub_list_set
        have hslf := PySem.F.sub_list_frozenset
        have hne : (Value.type "list" == Value.type "dict") = false := by decide
        have hl1 : (s.heap.push { cls := .type "set", dict := none, data := .set #[] 0 (.fresh 0 0 led) }).IsList l items := ⟨_, hol', rfl, nl, rfl⟩
        unfold Builtin.«set.__init__» noKeywords Builtin.Frozenset.updateFrom
        generalize hPI : pyIter = PI
        wp_walk
        subst hPI
        refine wpAny_pyIter_list hl1 ?_
        refine wpAny_bind (wpAny_runValue ?_)
        have hlS : l < s.heap.objs.size := Heap.lt_size hol
        have hh3 : A.in1.in1.in1.handled = none := by simp [hh]
        have hneI : l ≠ (s.heap.push { cls := .type "set", dict := none, data := .set #[] 0 (.fresh 0 0 led) }).objs.size := by
          rw [Heap.size_push]; exact Nat.ne_of_lt (Nat.lt_succ_of_lt hlS)
        have hSf : s.heap.objs.size ∉ [(s.heap.push { cls := .type "set", dict := none, data := .set #[] 0 (.fresh 0 0 led) }).objs.size, l] := by
          rw [Heap.size_push]; simp only [List.mem_cons, List.mem_singleton, List.not_mem_nil, or_false, not_or]
          exact ⟨Nat.ne_of_lt (Nat.lt_succ_self _), Nat.ne_of_gt hlS⟩
        have hsz : xs.length = items.size := by rw [← StrsAre.len_eq hi, Array.length_toList]
        have hval : ∀ (i : Nat) (v : Value), items[i]? = some v → ∃ t, v = .str (xs.getD i Str.empty) t := fun i v hv => SS.strs_at hi i v (by rw [Array.getElem?_toList]; exact hv)
        refine loopT ((Walks.list hh3 _ l hneI items).toS) s.heap.objs.size
          hSf xs hsz (by rw [← hsz]; exact hn1) hval (items.size - 0) 0 0 _ (by omega) (Nat.zero_le _) (Nat.le_refl _)
          ⟨⟨_, Heap.get?_push_size _ rfl, rfl, rfl⟩, (hl1.push _)⟩ ?hS0 ?hR
        case hS0 =>
          exact (hfr.at fun o e => Heap.get?_push_of_some _ e).congr fun _ => rfl
        case hR =>
          intro s' c' hc' hm hS'
          obtain ⟨h', g', d', tk', os'⟩ := s'
          have eg : g' = s.gens := hm.gens
          have ed : d' = s.drawn := hm.drawn
          have eo : os' = s.os := hm.os
          subst eg; subst ed; subst eo
          show wpAny _ _ _ _ _ _
          refine wpAny_pure ?_
          show wpAny _ _ (ret Value.none) _ _ _
          refine wpAny_pure ⟨rfl, h', tk', c', rfl, by rw [hsz]; exact hc', hS'.congr (fun k' => by rw [← hsz, List.take_length]), fun b o hb e => ?_⟩
          have hb1 : b ≠ s.heap.objs.size := Nat.ne_of_lt hb
          have hb2 : b ≠ (s.heap.push { cls := .type "set", dict := none, data := .set #[] 0 (.fresh 0 0 led) }).objs.size := by
            rw [Heap.size_push]; exact Nat.ne_of_lt (Nat.lt_succ_of_lt hb)
          exact hm.heap b o (by simp only [List.mem_cons, List.mem_singleton, List.not_mem_nil, or_false, not_or]; exact ⟨hb1, hb2⟩) (Heap.get?_push_of_some _ (Heap.get?_push_of_some _ e))
      · cases r₂ with
        | error e => exact hr₂
        | ok fl₂ =>
          cases fl₂ with
          | ret r =>
            obtain ⟨rfl, h', tk, c', rfl, hc', hS', hk'⟩ := hr₂
            repeat (any_goals (first | assumption | wp_step))
            exact h _ _ c' hc' hS' hk'
          | _ => exact hr₂.elim
    | _ => exact hr.elim
theorem strs_of : ∀ (l : List Value), (∀ v ∈ l, ∃ k tk, v = Value.str k tk) → StrsAre l (l.map fun v => match v with | .str k _ => k | _ => Str.empty)
  | [], _ => .nil
  | v :: l, h => by
    obtain ⟨k, tk, rfl⟩ := h v List.mem_cons_self
    exact .cons k tk (strs_of l fun u hu => h u (List.mem_cons_of_mem _ hu))
theorem sorted_setT {a : Addr} {S : Str → Bool} {n : Nat} {Q : Value → Shared → Prop} (R : SetT prog w s.heap a S n) (hh : A.handled = none) (h64 : n < 64)
    (hQ : ∀ s' p (out : Array Value) (c : Nat) (ys : List Str), (∀ b o, s.heap.get? b = some o → s'.heap.get? b = some o) → s'.gens = s.gens → s'.os = s.os → s.heap.objs.size ≤ p →
      s'.heap.get? p = some (seqObj "list" out c) → StrsAre out.toList ys → sortedS ys = true → ys.Nodup → (∀ k, k ∈ ys ↔ S k = true) → ys.length = n → Q (.ref p) s') :
    wpAny (model prog w) A (call (.builtin "sorted") [.ref a]) Q E s := by
  obtain ⟨o, es, ep, t, ho, hex, hd, g, nd, hm, hb, hf, hn, hr, hl⟩ := R
  refine Calls.call_function_entry kind_sorted plain_sorted entry_sorted (args_sorted1 _) ?_
  unfold Builtin.«sorted»
  refine wpAny_bind (m := checkCount "sorted" 1 1 _) (wpAny_pure ?_)
  refine wpAny_bind (collect_set (A := A.in1) hh ⟨o, ho, hex.1, hd⟩ hf hb hr hl fun s1 vs k1 hz g1 o1 pm => ?_)
  have hvl : vs.length = n := by rw [pm.length_eq, List.length_map, Array.length_toList]; exact hn
  have hI := strs_of vs fun v hv => by
    obtain ⟨e, he, q⟩ := List.mem_map.mp (pm.mem_iff.mp hv)
    obtain ⟨k, tk, h1, _⟩ := g e he
    exact ⟨k, tk, by rw [← q]; exact h1⟩
  have pk : (vs.map fun v => match v with | .str k _ => k | _ => Str.empty).Perm (es.toList.map keyT) := by
    have q := pm.map (fun v => match v with | .str k _ => k | _ => Str.empty)
    rw [List.map_map] at q
    exact q
  generalize (vs.map fun v => match v with | .str k _ => k | _ => Str.empty) = ss at hI pk
  refine wpAny_bind (wpAny_newList ?_ (by rw [hvl, sizeLine_eq]; omega))
  have hoL : (s1.heap.push (seqObj "list" vs.toArray 0)).get? s1.heap.objs.size = some (seqObj "list" vs.toArray 0) := Heap.get?_push_size _ rfl
  refine wpAny_bind (wpAny_holding (wpAny_call_entry slot_list_sort ⟨_, hoL, rfl⟩ entry_list_sort (list_sort_treeK strKind_oneLt hoL hI.keysOf (fun v₁ v₂ rest e => keyKind_strs (by rw [← e]; exact hI)) (by rw [hvl]; exact h64) fun st' hp hs => ?_) (args_list_sort _)))
  obtain ⟨ys, h1, h2, h3⟩ := sorted_out_str hI hp hs
  refine ⟨_, rfl, ?_⟩
  obtain ⟨c, hc⟩ := sortedHeap_at (vs := vs) (out := (arrOf st').map (·.2)) hoL
  have pn : ys.Perm (es.toList.map keyT) := h2.trans pk
  refine wpAny_pure ⟨_, rfl, hQ _ s1.heap.objs.size _ c ys (fun b u e => ?_) g1 o1 hz hc h1 h3 (pn.nodup_iff.mpr nd) (fun k => by rw [pn.mem_iff, ← hm k]) ?_⟩
  · have q := k1 b u e
    have hlt := Heap.lt_size q
    show (sortedHeap (s1.heap.push (seqObj "list" vs.toArray 0)) s1.heap.objs.size vs _).get? b = some u
    rw [sortedHeap_old (Nat.ne_of_lt hlt) (by rw [size_push']; exact Nat.lt_succ_of_lt hlt)]
    exact Heap.get?_push_of_some _ q
  · rw [pn.length_eq, List.length_map, Array.length_toList]; exact hn
end
end PVS

/-! PV: sorted(set(xs)), len(set(xs)), sorted(xs) of texts by values. -/
namespace PV
open PySem PySem.Spec PyProof.Rows L2 PVS
def tSortSet (K : PySem.W.Frag) (ta : TE) : TE := fun σ H Q => ta σ H fun x H1 => ∃ (l : Addr) (xs : List Str), x = .ref l ∧ SqL K H1 l (xs.map V.str) ∧ xs.length < 63 ∧
  ∀ (ys : List Str) (p : Addr), sortedS ys = true → ys.Nodup → (∀ k, k ∈ ys ↔ k ∈ xs) → H1 p = none → Q (.ref p) (upd H1 p (.lst (ys.map V.str)))
theorem sorted_inv {X : Cx} {pins : List (Addr × Obj)} {s : Shared} {σ : L2.St} {H : Hp} {Q : VK} {a : Addr} {S : Str → Bool} {n : Nat} (hc : X.calm = true) (I : Inv X pins σ H s) (hS : SetT X.prog X.w s.heap a S n) (h64 : n < 64)
    (q : ∀ (ys : List Str) (p : Addr), sortedS ys = true → ys.Nodup → (∀ k, k ∈ ys ↔ S k = true) → ys.length = n → H p = none → Q (.ref p) (upd H p (.lst (ys.map V.str)))) :
    wpAny (model X.prog X.w) X.A (call (.builtin "sorted") [.ref a]) (EP X pins σ Q) X.xe s := by
  refine sorted_setT hS (I.ok.hd hc) h64 fun s' p out c' ys k g o hp hg sa ss nd mem len => ?_
  have hlen : (ys.map V.str).length ≤ sizeLine := by rw [List.length_map, len, sizeLine_eq]; omega
  have hn : H p = none := I.hok.fresh hp
  have J : Inv X pins σ (upd H p (.lst (ys.map V.str))) { s with heap := s'.heap, gens := s'.gens, drawn := s'.drawn, toks := s'.toks } :=
    I.call (ch := []) (Un.laid k hp hn) (I.hok.laid k hp ⟨hlen, out.toList, c', vals_of_strs sa, hg⟩) (by rw [g]; exact I.bare) (fun _ z => nomatch z)
  have e : s' = { s with heap := s'.heap, gens := s'.gens, drawn := s'.drawn, toks := s'.toks } := by
    cases s'
    cases s
    cases o
    rfl
  rw [e]
  exact ⟨.ref p, _, J, rfl, q ys p ss nd mem len hn⟩
theorem pe_sortSet {X : Cx} {a : Expr} {ta : TE} {p p2 q pos : Pos} (hc : X.calm = true) (hg : Gl X "sorted") (hm : X.mg "sorted" = none) (hg2 : Gl X "set") (hm2 : X.mg "set" = none) (ha : PE X a ta)
    (na : starEach [a] X.env = (false, eval a X.env) :: starEach [] X.env := by rfl) : PE X (.Call (.Name "sorted" p) [.Call (.Name "set" p2) [a] [] q] [] pos) (tSortSet X.K ta) := by
  refine ⟨fun pins s σ H Q I h => ?_⟩
  refine Call_ (ld_blt I hg hm (u := .builtin "sorted") rfl ?_)
  refine PyProof.Rows.callWith_builtin1 (PyProof.Rows.args_cons ?_ rfl) rfl rfl
  refine Call_ (ld_blt I hg2 hm2 boot_set ?_)
  refine PyProof.Rows.callWith_type1 (PyProof.Rows.args_cons (thn (ha.run pins s σ H _ I h) fun v s1 ⟨x, H1, I1, r1, q1⟩ => PyProof.Rows.args_nil ?_) na) na rfl
  obtain ⟨l, xs, rfl, hq, h1, q1⟩ := q1
  cases r1
  obtain ⟨its, r, pl, hz⟩ := I1.list hq
  refine call_set_listT (I1.ok.hd hc) pl.isList (by simpa using strsAre_of r) (by unfold scanBound; omega) fun h' tk c hcl hS hk => ?_
  refine PyProof.Rows.args_nil ?_
  have I2 : Inv X pins σ H1 { s1 with heap := h', toks := tk } := I1.kept fun b o e => hk b o (Heap.lt_size e) e
  exact sorted_inv hc I2 hS (by omega) fun ys p ss nd mem len hn => q1 ys p ss nd (fun k => by rw [mem k]; simp) hn
/-- sorted xs of texts -/
def sortU (xs : List Str) (ys : List Str) : Prop := sortedS ys = true ∧ ys.Nodup ∧ ∀ k, k ∈ ys ↔ k ∈ xs
end PV

/-! PV: sorted texts. -/
namespace PV
open PySem PySem.Spec PyProof.Rows L2 PVS
def leS (a b : Str) : Prop := a.cps.toList ≤ b.cps.toList
theorem leS_trans {a b c : Str} (h : leS a b) (h' : leS b c) : leS a c := List.le_trans h h'
theorem leS_total (a b : Str) : leS a b ∨ leS b a := List.le_total _ _
theorem leS_anti {a b : Str} (h : leS a b) (h' : leS b a) : a = b := by
  have := List.le_antisymm h h'
  rw [tx_of a, tx_of b, this]
theorem ltC_iff {a b : Str} : ltCps b.cps.toList a.cps.toList = false ↔ leS a b := by
  rw [ltCps_eq, decide_eq_false_iff_not]
  exact List.not_lt
theorem sortedS_iff : ∀ l : List Str, sortedS l = true ↔ l.Pairwise leS := by
  have rise : ∀ (l : List Str) (p : Str), risingS p l = true → (∀ x ∈ l, leS p x) ∧ l.Pairwise leS := by
    intro l
    induction l with
    | nil => intro p _; exact ⟨by simp, List.Pairwise.nil⟩
    | cons x r ih =>
      intro p h
      have h : (!ltCps x.cps.toList p.cps.toList && risingS x r) = true := h
      rw [Bool.and_eq_true, Bool.not_eq_true'] at h
      obtain ⟨h1, h2⟩ := ih x h.2
      have h3 := ltC_iff.mp h.1
      refine ⟨fun y m => ?_, List.pairwise_cons.mpr ⟨h1, h2⟩⟩
      rcases List.mem_cons.mp m with rfl | m
      · exact h3
      · exact leS_trans h3 (h1 y m)
  intro l
  constructor
  · intro h
    cases l with
    | nil => exact List.Pairwise.nil
    | cons x r => exact List.pairwise_cons.mpr (rise r x h)
  · intro h
    exact sortedS_of_pairwise l (h.imp fun {a b} q => ltC_iff.mpr q)
theorem sorted_unique {xs ys : List Str} (h1 : sortedS xs = true) (h2 : sortedS ys = true) (p : xs.Perm ys) : xs = ys :=
  List.Perm.eq_of_pairwise (le := leS) (fun a b _ _ q q' => leS_anti q q') ((sortedS_iff xs).mp h1) ((sortedS_iff ys).mp h2) p
def srtL (xs : List Str) : List Str := xs.mergeSort fun a b => decide (a.cps.toList ≤ b.cps.toList)
theorem srtL_sorted (xs : List Str) : sortedS (srtL xs) = true := by
  rw [sortedS_iff]
  have h := List.pairwise_mergeSort (le := fun a b : Str => decide (a.cps.toList ≤ b.cps.toList)) (fun a b c h1 h2 => by
    rw [decide_eq_true_iff] at h1 h2 ⊢
    exact List.le_trans h1 h2) (fun a b => by
    rw [Bool.or_eq_true, decide_eq_true_iff, decide_eq_true_iff]
    exact List.le_total _ _) xs
  exact h.imp fun {a b} q => of_decide_eq_true q
theorem srtL_perm (xs : List Str) : (srtL xs).Perm xs := List.mergeSort_perm _ _
def dd : List Str → List Str
  | [] => []
  | x :: r => if x ∈ r then dd r else x :: dd r
theorem mem_dd {y : Str} : ∀ {xs : List Str}, y ∈ dd xs ↔ y ∈ xs
  | [] => Iff.rfl
  | x :: r => by
    have ih := mem_dd (y := y) (xs := r)
    rw [dd]
    split
    · rename_i h
      rw [ih, List.mem_cons]
      exact ⟨.inr, fun q => q.elim (fun e => e ▸ h) id⟩
    · rw [List.mem_cons, List.mem_cons, ih]
theorem nodup_dd : ∀ xs : List Str, (dd xs).Nodup
  | [] => List.Pairwise.nil
  | x :: r => by
    rw [dd]
    split
    · exact nodup_dd r
    · rename_i h
      exact List.nodup_cons.mpr ⟨fun m => h (mem_dd.mp m), nodup_dd r⟩
theorem dd_of_nodup : ∀ {xs : List Str}, xs.Nodup → dd xs = xs
  | [], _ => rfl
  | x :: r, h => by
    obtain ⟨h1, h2⟩ := List.nodup_cons.mp h
    rw [dd, if_neg h1, dd_of_nodup h2]
def srtSet (xs : List Str) : List Str := srtL (dd xs)
theorem srtSet_unique {xs ys : List Str} (h1 : sortedS ys = true) (h2 : ys.Nodup) (h3 : ∀ k, k ∈ ys ↔ k ∈ xs) : ys = srtSet xs := by
  refine sorted_unique h1 (srtL_sorted _) ?_
  have p : (srtL (dd xs)).Perm (dd xs) := srtL_perm _
  refine List.Perm.trans ?_ p.symm
  exact (List.perm_ext_iff_of_nodup h2 (nodup_dd xs)).mpr fun k => by rw [h3, mem_dd]
theorem srtSet_eq (xs : List Str) : xs = srtSet xs ↔ sortedS xs = true ∧ xs.Nodup := by
  constructor
  · intro h
    rw [h]
    exact ⟨srtL_sorted _, (srtL_perm _).nodup_iff.mpr (nodup_dd xs)⟩
  · rintro ⟨h1, h2⟩
    exact srtSet_unique h1 h2 fun k => Iff.rfl
theorem srtL_eq (xs : List Str) : xs = srtL xs ↔ sortedS xs = true := by
  constructor
  · intro h
    rw [h]
    exact srtL_sorted _
  · intro h
    exact sorted_unique h (srtL_sorted _) (srtL_perm _).symm
/-! ### by values -/
def srtD (g : List Str → List Str) : D → Option (Bool × D)
  | .lst ds => (txts ds).bind fun xs => if xs.length < 63 then some (true, .lst ((g xs).map D.str)) else none
  | _ => none
theorem opd_sorted {K : PySem.W.Frag} : OpD1 K (srtD srtL) fun x H Q => rSortedS K [x] H Q := by
  intro P B ia s σ H H0 Fs dx q x F Q R o fr e k
  unfold srtD at e
  split at e
  · obtain ⟨xs, e1, e2⟩ := Option.bind_eq_some_iff.mp e
    split at e2
    · rename_i hz
      cases e2
      obtain ⟨a, vs, G, rfl, h1, h2, no, ib⟩ := o.lst_inv
      obtain ⟨rfl, _⟩ := h2.txts e1
      refine ⟨a, xs, rfl, SqL.of h1, by omega, fun ys p perm srt np => ?_⟩
      have : ys = srtL xs := sorted_unique srt (srtL_sorted _) (perm.trans (srtL_perm xs).symm)
      subst this
      exact k _ _ (.lst (reps_txts _) .nil (fun _ m => nomatch m) fr R np)
    · cases e2
  · cases e
theorem opd_sortSet {K : PySem.W.Frag} : OpD1 K (srtD srtSet) fun x H1 Q => ∃ (l : Addr) (xs : List Str), x = .ref l ∧ SqL K H1 l (xs.map V.str) ∧ xs.length < 63 ∧
    ∀ (ys : List Str) (p : Addr), sortedS ys = true → ys.Nodup → (∀ k, k ∈ ys ↔ k ∈ xs) → H1 p = none → Q (.ref p) (upd H1 p (.lst (ys.map V.str))) := by
  intro P B ia s σ H H0 Fs dx q x F Q R o fr e k
  unfold srtD at e
  split at e
  · obtain ⟨xs, e1, e2⟩ := Option.bind_eq_some_iff.mp e
    split at e2
    · rename_i hz
      cases e2
      obtain ⟨a, vs, G, rfl, h1, h2, no, ib⟩ := o.lst_inv
      obtain ⟨rfl, _⟩ := h2.txts e1
      refine ⟨a, xs, rfl, SqL.of h1, hz, fun ys p srt nd mem np => ?_⟩
      have : ys = srtSet xs := srtSet_unique srt nd mem
      subst this
      exact k _ _ (.lst (reps_txts _) .nil (fun _ m => nomatch m) fr R np)
    · cases e2
  · cases e
theorem de_sortSet {X : Cx} {E : WX} {a : Expr} {o : Opd} {p p2 q pos : Pos} (hm : X.mg "sorted" = none) (hm2 : X.mg "set" = none) (ha : PE X a (rdO X.K E o)) (hc : X.calm = true := by rfl) (hg : Gl X "sorted" := by rfl) (hg2 : Gl X "set" := by rfl)
    (na : starEach [a] X.env = (false, eval a X.env) :: starEach [] X.env := by rfl) : PE X (.Call (.Name "sorted" p) [.Call (.Name "set" p2) [a] [] q] [] pos) (tD X.K E (unM (srtD srtSet) o)) :=
  (pe_sortSet hc hg hm hg2 hm2 ha na).imp (tD_un opd_sortSet)
end PV

/-! PV: get and pop of dicts, get of a dict of the module, is of bools, a tuple backwards. -/
namespace PV
open PySem PySem.Spec L2
/-! ### d.get(k) -/
def dget1M (i : Nat) (k : M (Bool × D)) : M (Bool × D) := fun s => if isDct s i = true then opsM [.ex k] (fun ds s1 => match s1[i]?, ds with
  | some (some (_, .dct kds)), [kk] => (match kk.key with
    | some key => .ok (false, (kget kds key).getD .non) s1
    | none => .stuck)
  | _, _ => .stuck) s else .stuck
@[simp] theorem ev_dget1 (i : Nat) (k : M (Bool × D)) (s : S) : dget1M i k s = if isDct s i = true then opsM [.ex k] (fun ds s1 => match s1[i]?, ds with
  | some (some (_, .dct kds)), [kk] => (match kk.key with
    | some key => .ok (false, (kget kds key).getD .non) s1
    | none => .stuck)
  | _, _ => .stuck) s else .stuck := rfl
theorem tD_dget1 {K : PySem.W.Frag} {E : WX} {i : Nat} {k : M (Bool × D)} (σ : St) (H : Hp) (Q : VK) (h : tD K E (dget1M i k) σ H Q) : tDGet1 (tVar i) (tD K E k) σ H Q := by
  obtain ⟨P, B, ia, s, Fs, R, w⟩ := h
  unfold dget1M at w
  split at w
  · rename_i hd
    unfold isDct at hd
    split at hd
    · rename_i o kds e
      obtain ⟨v, F0, hv, ov⟩ := R.opd e
      obtain ⟨a, kvs, G0, rfl, h1, _⟩ := ov.dct_inv
      refine ⟨.ref a, hv, a, rfl, .inl ⟨kvs, .inl h1⟩, ?_⟩
      have key : rdOs K E [.ex k] σ H (fun vs H' => match vs with | [y] => ∃ o, DGet H' a y o ∧ Q (o.getD .non) H' | _ => False) := by
        refine rdOps R w (fun _ _ q => q) fun ds s' vs H' Gs Fs' q ovs fr r' => ?_
        split at q
        · rename_i o' kds' kk e1
          split at q
          · rename_i key ek
            cases ovs with
            | cons o1 n1 _ t =>
              cases t
              obtain ⟨v', F1, hv', ov'⟩ := r'.opd e1
              rw [hv] at hv'; cases hv'
              obtain ⟨a', kvs', G1, ea, h1', h2', no, ib⟩ := ov'.dct_inv
              cases ea
              refine ⟨valV kvs' key, .inl ⟨kvs', key, .inl h1', o1.rep.key ek, rfl⟩, ?_⟩
              rcases h2'.get key with ⟨q1, q2⟩ | ⟨d', w', G2, q1, q2, q3, q4⟩
              · rw [q1] at q; rw [q2]
                exact q _ _ (.flat .non fr r')
              · rw [q1] at q; rw [q2]
                exact q _ _ (.part q3 (no.sub q4) (fun b m => ib b (q4 b m)) fr r')
          · exact q.elim
        · exact q.elim
      exact key
    · cases hd
  · exact w.elim
theorem dm_dget1 {X : Cx} {E : WX} {e : Expr} {i : Nat} {k : M (Bool × D)} (h : PE X e (tDGet1 (tVar i) (tD X.K E k))) : PE X e (tD X.K E (dget1M i k)) := h.imp tD_dget1
/-! ### d.pop(k) -/
theorem RepK.drop {K : PySem.W.Frag} {H : Hp} (k : Key) : ∀ {kds : List (Key × D)} {kvs : List (Key × V)} {F : List Addr}, RepK K H kds kvs F → ∃ F', RepK K H (kds.filter fun q => decide (q.1 ≠ k)) (dropK kvs k) F' ∧ ∀ b, b ∈ F' → b ∈ F
  | [], _, _, h => by cases h; exact ⟨[], .nil, fun _ m => m⟩
  | (k', d) :: ds, _, _, h => by
    cases h with
    | @cons _ _ w F1 _ vs F2 h1 h2 =>
      obtain ⟨F', e1, e2⟩ := RepK.drop k h2
      unfold dropK at e1 ⊢
      by_cases hk : k' = k
      · exact ⟨F', by simpa [hk] using e1, fun b m => List.mem_append_right _ (e2 b m)⟩
      · refine ⟨F1 ++ F', by simpa [hk] using RepK.cons (k := k') h1 e1, fun b m => ?_⟩
        rcases List.mem_append.mp m with m | m
        · exact List.mem_append_left _ m
        · exact List.mem_append_right _ (e2 b m)
def dpopM (i : Nat) (k : M (Bool × D)) : M (Bool × D) := fun s => if isDct s i = true then opsM [.ex k] (fun ds s1 => match s1[i]?, ds with
  | some (some (o, .dct kds)), [kk] => if o = .sh then .stuck else (match kk.key with
    | some key => (match kget kds key with
      | some d => .ok (false, d) (s1.set i (some (o, .dct (kds.filter fun q => decide (q.1 ≠ key)))))
      | none => .stuck)
    | none => .stuck)
  | _, _ => .stuck) s else .stuck
@[simp] theorem ev_dpop (i : Nat) (k : M (Bool × D)) (s : S) : dpopM i k s = if isDct s i = true then opsM [.ex k] (fun ds s1 => match s1[i]?, ds with
  | some (some (o, .dct kds)), [kk] => if o = .sh then .stuck else (match kk.key with
    | some key => (match kget kds key with
      | some d => .ok (false, d) (s1.set i (some (o, .dct (kds.filter fun q => decide (q.1 ≠ key)))))
      | none => .stuck)
    | none => .stuck)
  | _, _ => .stuck) s else .stuck := rfl
theorem tD_dpop {K : PySem.W.Frag} {E : WX} {i : Nat} {k : M (Bool × D)} (σ : St) (H : Hp) (Q : VK) (h : tD K E (dpopM i k) σ H Q) : tDPop1 (tVar i) (tD K E k) σ H Q := by
  obtain ⟨P, B, ia, s, Fs, R, w⟩ := h
  unfold dpopM at w
  split at w
  · rename_i hd
    unfold isDct at hd
    split at hd
    · rename_i o kds e
      obtain ⟨v, F0, hv, ov⟩ := R.opd e
      obtain ⟨a, kvs, G0, rfl, h1, _⟩ := ov.dct_inv
      refine ⟨.ref a, hv, a, rfl, .inl ⟨kvs, .inl h1⟩, ?_⟩
      have key : rdOs K E [.ex k] σ H (fun vs H' => match vs with | [y] => ∃ kvs k v, H' a = some (.dK kvs) ∧ y = kV k ∧ valV kvs k = some v ∧ Q v (upd H' a (.dK (dropK kvs k))) | _ => False) := by
        refine rdOps R w (fun _ _ q => q) fun ds s' vs H' Gs Fs' q ovs fr r' => ?_
        split at q
        · rename_i o' kds' kk e1
          split at q
          · exact q.elim
          · rename_i ho
            split at q
            · rename_i key ek
              split at q
              · rename_i d' ed
                cases ovs with
                | cons o1 n1 _ t =>
                  cases t
                  obtain ⟨a', F, k1, k2, k3, k4, k5, k6⟩ := r'.own i o' _ e1 ho
                  rw [hv] at k1; cases k1
                  cases k3 with
                  | @dct _ _ kvs' _ m1 m2 =>
                    rcases m2.get key with ⟨q1, q2⟩ | ⟨d2, w', G2, q1, q2, q3, q4⟩
                    · rw [ed] at q1; cases q1
                    · rw [ed] at q1; cases q1
                      obtain ⟨F', f1, f2⟩ := m2.drop key
                      exact ⟨kvs', key, w', m1, o1.rep.key ek, q2, q w' _ (r'.less fr e1 ho hv k2 (fun H' i f ha => .dct ha (RepK.keep i f1 fun b m => f b fun z => k4 (by rw [← z]; exact f2 b m))) f2 q3 q4)⟩
              · exact q.elim
            · exact q.elim
        · exact q.elim
      exact key
    · cases hd
  · exact w.elim
theorem dm_dpop {X : Cx} {E : WX} {e : Expr} {i : Nat} {k : M (Bool × D)} (h : PE X e (tDPop1 (tVar i) (tD X.K E k))) : PE X e (tD X.K E (dpopM i k)) := h.imp tD_dpop
/-! ### get of a dict of the module -/
def kgetM (kvs : List (Str × D)) (k x : M (Bool × D)) : M (Bool × D) := opsM [.ex k, .ex x] fun ds s => match ds with
  | [.str z, y] => .ok (false, (tget kvs z).getD y) s
  | _ => .stuck
@[simp] theorem ev_kget (kvs : List (Str × D)) (k x : M (Bool × D)) (s : S) : kgetM kvs k x s = opsM [.ex k, .ex x] (fun ds s => match ds with
  | [.str z, y] => .ok (false, (tget kvs z).getD y) s
  | _ => .stuck) s := rfl
def tKGet (K : PySem.W.Frag) (ad : Addr) (ty tx : TE) : TE := fun σ H Q => ty σ H fun y H2 => tx σ H2 fun z H3 => ∃ (k : Str) (r : Option Value), y = .str k ∧ PySem.W.nsIn K ad k = some r ∧ ((r = none ∧ Q z H3) ∨ ∃ u v, r = some u ∧ RelV v u ∧ Q v H3)
theorem pe_kget {X : Cx} {x : Str} {d : Addr} {es : Array DictEntry} {n : Nat} {e f : Expr} {p apos cpos : Pos} {ty tx : TE} (D : KDict X.K X.w d es n) (ho : PE X (.Name x p) (tC (.ref d))) (he : PE X e ty) (hf : PE X f tx) (m : M2 X (.Name x p) "get" apos e f cpos) :
    PE X (.Call (.Attribute (.Name x p) "get" apos) [e, f] [] cpos) (tKGet X.K d ty tx) := by
  refine ⟨fun pins s σ H Q I h => ?_⟩
  refine wpAny_Call_method m.base m.few m.line PySem.F.plainAttrs_dict PySem.F.slot_dict_get PySem.F.type_dict_get (thn (ho.run pins s σ H (fun x H1 => x = .ref d ∧ H1 = H) I ⟨rfl, rfl⟩) fun u s1 ⟨x, H1, I1, rx, ex, eH⟩ => ?_)
  subst ex eH
  obtain rfl : u = Value.ref d := rx
  have hm := PySem.W.mapOf_K (prog := X.prog) (w := X.w) I1.kIn D.at_ D.lit
  refine ⟨hm.typeIs, fun b q => ?_, ?_⟩
  · cases q
    exact ⟨_, I1.kIn _ _ D.at_, rfl⟩
  rw [m.trees]
  refine wpAny_dict_get2 (knd := strKind X.prog X.w) D.low (thn (he.run pins s1 σ H1 _ I1 h) fun iv s2 ⟨y, H2, I2, ry, q2⟩ => thn (hf.run pins s2 σ H2 _ I2 q2) fun fv s3 ⟨z, H3, I3, rz, q3⟩ => ?_)
  obtain ⟨k, r, rfl, hr, q3⟩ := q3
  obtain ⟨t, rfl⟩ := ry
  refine ⟨k, _, PySem.strKind_is X.prog X.w k t, PySem.W.mapOf_K (prog := X.prog) (w := X.w) I3.kIn D.at_ D.lit, ?_⟩
  rw [PySem.W.find_K D.at_ hr]
  rcases q3 with ⟨rfl, q3⟩ | ⟨u, v, rfl, rv, q3⟩
  · exact ⟨z, H3, I3.tok _, rz, q3⟩
  · exact ⟨v, H3, I3.tok _, rv, q3⟩
theorem de_kget {X : Cx} {E : WX} {x : Str} {kvs : List (Str × D)} {e f : Expr} {fk fx : M (Bool × D)} {p apos cpos : Pos} (G : Gd X.K X.w X.mg x kvs) (he : PE X e (tD X.K E fk)) (hf : PE X f (tD X.K E fx)) (m : M2 X (.Name x p) "get" apos e f cpos) (hg : Gl X x := by rfl) (hd : (x == ("__debug__" : Str)) = false := by decide) :
    PE X (.Call (.Attribute (.Name x p) "get" apos) [e, f] [] cpos) (tD X.K E (kgetM kvs fk fx)) := by
  obtain ⟨ad, es, n, e1, D, h1, h2⟩ := G.ex
  refine (pe_kget D (pe_glob hg e1 (v := .ref ad) rfl hd) he hf m).imp fun σ H Q h => ?_
  obtain ⟨P, B, ia, s, Fs, R, w⟩ := h
  have key : rdOs X.K E [.ex fk, .ex fx] σ H (fun vs H' => match vs with | [y, z] => ∃ (k : Str) (r : Option Value), y = .str k ∧ PySem.W.nsIn X.K ad k = some r ∧ ((r = none ∧ Q z H') ∨ ∃ u v, r = some u ∧ RelV v u ∧ Q v H') | _ => False) := by
    refine rdOps R w (fun _ _ q => q) fun ds s' vs H' Gs Fs' q ovs fr r' => ?_
    split at q
    · rename_i z y
      cases ovs with
      | cons o1 n1 _ t =>
        cases t with
        | cons o2 n2 _ t =>
          cases t
          cases q0 : tget kvs z with
          | none =>
            rw [q0] at q
            exact ⟨z, none, o1.str_inv, h2 z q0, .inl ⟨rfl, q _ _ (.part o2.rep (n2 rfl) o2.inB fr r')⟩⟩
          | some d =>
            rw [q0] at q
            obtain ⟨u, v, g1, g2, g3⟩ := h1 z d q0
            exact ⟨z, some u, o1.str_inv, g1, .inr ⟨u, v, rfl, g2, q _ _ (.flat (g3 _) fr r')⟩⟩
    · exact q.elim
  exact key
/-! ### is of bools -/
def isBD (neg : Bool) : D → D → Option (Bool × D)
  | .bl a, .bl b => some (false, .bl (if neg then !decide (a = b) else decide (a = b)))
  | _, _ => none
theorem opd_isB {K : PySem.W.Frag} : OpD K (isBD false) rIsB := by
  intro P B ia s σ H H0 Fs dx dy q x y F G Q R o1 o2 fr e k
  unfold isBD at e
  split at e
  · cases e
    exact ⟨_, _, o1.bl_inv, o2.bl_inv, by have := k _ _ (RV.flat .bl fr R); simpa using this⟩
  · cases e
@[simp] theorem v_isB {a b n : Bool} : isBD n (.bl a) (.bl b) = some (false, .bl (if n then !decide (a = b) else decide (a = b))) := rfl
/-! ### t[::-1] -/
section
variable {prog : Program} {w : World} {A : Around} {E : Value → Shared → Prop} {s : Shared}
theorem adjust_rev (n : Nat) : Builtin.Slice.sliceAdjust none none (-1) (n : Int) = ((n : Int) - 1, -1) := by
  unfold Builtin.Slice.sliceAdjust
  simp
theorem places_rev (n : Nat) : Builtin.Slice.slicePlaces ((n : Int) - 1) (-1) (-1) = n := by
  unfold Builtin.Slice.slicePlaces
  have h1 : ¬ ((-1 : Int) > 0) := by decide
  simp only [h1, if_false]
  by_cases h : (n : Int) - 1 > -1
  · rw [if_pos h, show (- -1 : Int) = 1 by decide, Int.ediv_one]
    omega
  · rw [if_neg h]; omega
theorem sliceApplied_rev {sl : Addr} {vl vu vs : Value} {n : Nat} {Q : Int × Int × Nat → Shared → Prop} (hs : s.heap.IsSliceOf sl vl vu vs) (pl : IsPart vl none) (pu : IsPart vu none) (ps : IsPart vs (some (-1)))
    (h : Q ((n : Int) - 1, -1, n) s) : wpAny (model prog w) A (Builtin.Slice.sliceApplied (.ref sl) (pure (n : Int))) Q E s := by
  obtain ⟨os, hos, hcs, hds⟩ := id hs
  unfold Builtin.Slice.sliceApplied Builtin.Slice.sliceFields
  refine wpAny_bind (wpAny_bind (wpAny_field hos hds (x := vl) rfl (wpAny_bind (wpAny_field hos hds (x := vu) rfl (wpAny_bind (wpAny_field hos hds (x := vs) rfl (wpAny_pure ?_)))))))
  refine wpAny_bind (HT.slicePart_ ps ?_)
  show wpAny _ _ (if ((-1 : Int) == 0) = true then _ else _) _ _ s
  rw [if_neg (by decide)]
  refine wpAny_bind (HT.slicePart_ pl (wpAny_bind (HT.slicePart_ pu (wpAny_bind (wpAny_pure ?_)))))
  show wpAny _ _ (match Builtin.Slice.sliceAdjust none none (-1) (n : Int) with | (lo, hi) => pure (lo, (-1 : Int), Builtin.Slice.slicePlaces lo hi (-1))) _ _ s
  rw [adjust_rev n]
  show wpAny _ _ (pure ((n : Int) - 1, (-1 : Int), Builtin.Slice.slicePlaces ((n : Int) - 1) (-1) (-1))) _ _ s
  rw [places_rev]
  exact wpAny_pure h
theorem pick_rev (xs : Array Value) : ((List.range xs.size).filterMap fun (m : Nat) => xs[((xs.size : Int) - 1 + (m : Int) * (-1)).toNat]?).toArray = xs.toList.reverse.toArray := by
  have e : (List.range xs.size).filterMap (fun (m : Nat) => xs[((xs.size : Int) - 1 + (m : Int) * (-1)).toNat]?) = ((List.range xs.size).map fun k => xs.size - 1 - k).filterMap (xs[·]?) := by
    rw [List.filterMap_map]
    congr 1
    funext m
    have e2 : ((xs.size : Int) - 1 + (m : Int) * (-1)).toNat = xs.size - 1 - m := by omega
    show xs[((xs.size : Int) - 1 + (m : Int) * (-1)).toNat]? = xs[xs.size - 1 - m]?
    rw [e2]
  rw [e, PySem.W.krv_range, List.filterMap_reverse, PySem.W.krv_all]
theorem getItem_tuple_rev {t sl : Addr} {items : Array Value} {vl vu vs : Value} {Q : Value → Shared → Prop} (ht : PyProof.Rows.IsTup s.heap t items) (hs : s.heap.IsSliceOf sl vl vu vs) (pl : IsPart vl none) (pu : IsPart vu none) (ps : IsPart vs (some (-1)))
    (h : Q (.ref s.heap.objs.size) { s with heap := s.heap.push { cls := .type "tuple", data := .seq items.toList.reverse.toArray } })
    (hsz : items.size ≤ sizeLine) : wpAny (model prog w) A (getItem (.ref t) (.ref sl)) Q E s := by
  have htake : sizeOk (.seq items.toList.reverse.toArray) := by
    show items.toList.reverse.toArray.size ≤ sizeLine
    rw [List.size_toArray, List.length_reverse, Array.length_toList]
    exact hsz
  obtain ⟨os, hos, hcs, hds⟩ := id hs
  have hTs : s.TypeIs (.ref sl) "slice" := ⟨os, hos, hcs⟩
  unfold getItem
  try with_reducible refine wpAny_holding ?_
  first | refine wpAny_bind (wpAny_pure ?_) | skip
  refine wpAny_bind (wpAny_sequenceKey ht.typeIs (by decide) ?_)
  refine wpAny_bind (wpAny_callSpecial?_slot (name := Str.ofString "__getitem__") ht.typeIs PyProof.Rows.slot_tuple_getitem
    (wpAny_call_entry PyProof.Rows.slot_tuple_getitem ht.typeIs PyProof.Rows.entry_tuple_getitem ?_ (PyProof.Rows.args_tuple_getitem _ _)))
  show wpAny _ _ (Builtin.Tuple.tupleItemsOf (.ref t) >>= _) _ _ s
  refine wpAny_bind (PyProof.Rows.tupleItemsOf_ ht ?_)
  refine wpAny_bind (wpAny_typeOf hTs ?_)
  rw [if_pos (by decide)]
  refine wpAny_bind (sliceApplied_rev hs pl pu ps ?_)
  have hno : ¬ ((((items.size : Int) - 1) == 0 && (-1 : Int) == 1 && items.size == items.size) = true) := by
    rw [show ((-1 : Int) == 1) = false by decide, Bool.and_false, Bool.false_and]
    exact Bool.false_ne_true
  show wpAny _ _ (if (((items.size : Int) - 1) == 0 && (-1 : Int) == 1 && items.size == items.size) = true then _ else _) _ _ s
  rw [if_neg hno, pick_rev]
  first
    | exact wpAny_bind (m := Builtin.Tuple.tupleExact _) (wpAny_newObj_type (wpAny_pure ⟨_, rfl, wpAny_pure h⟩) htake)
    | exact wpAny_bind (m := Builtin.Tuple.tupleExact _) (wpAny_newObj_type (wpAny_bind (wpAny_pure (wpAny_pure ⟨_, rfl, wpAny_pure h⟩))) htake)
    | exact wpAny_bind (wpAny_bind (m := Builtin.Tuple.tupleExact _) (wpAny_newObj_type (wpAny_pure (wpAny_pure ⟨_, rfl, wpAny_pure h⟩)) htake))
    | exact wpAny_bind (wpAny_bind (m := Builtin.Tuple.tupleExact _) (wpAny_newObj_type (wpAny_pure ⟨_, rfl, wpAny_pure h⟩) htake))
end
theorem pe_revT {X : Cx} {e : Expr} {te : TE} {k : Nat} {p1 p2 p3 pos : Pos} (he : PE X e te) : PE X (.Subscript e (.Slice none none (some (.UnaryOp .USub (.Constant (.int 1) k p1) p2)) p3) pos)
    (fun σ H Q => te σ H fun x H1 => ∃ a xs, x = .ref a ∧ SqT X.K H1 a xs ∧ ∀ p, H1 p = none → Q (.ref p) (upd H1 p (.tup xs.reverse))) := by
  refine ⟨fun pins s σ H Q I h => ?_⟩
  refine PyProof.Rows.Subscript_ (thn (he.run pins s σ H _ I h) fun v s1 ⟨x, H1, I1, r1, q1⟩ => ?_)
  obtain ⟨a, xs, ex, hx, q⟩ := q1
  subst ex
  cases r1
  have hst : PO X (some (.UnaryOp .USub (.Constant (.int 1) k p1) p2)) (tPart (tUn (rU fun i => .int (-i)) (tC (.int 1)))) := po_some (pe_un un_neg pe_int)
  refine wpAny_Slice (thn (po_none.run pins s1 σ H1 (fun o H2 => o = none ∧ H2 = H1) I1 ⟨rfl, rfl⟩) fun vl s2 ⟨l, H2, I2, pl, el, e2⟩ => ?_)
  subst el e2
  refine thn (po_none.run pins s2 σ H2 (fun o H3 => o = none ∧ H3 = H2) I2 ⟨rfl, rfl⟩) fun vu s3 ⟨u, H3, I3, pu, eu, e3⟩ => ?_
  subst eu e3
  refine thn (hst.run pins s3 σ H3 (fun o H4 => o = some (-1) ∧ H4 = H3) I3 ⟨1, rfl, -1, rfl, rfl, rfl⟩) fun vs s4 ⟨o, H4, I4, ps, eo, e4⟩ => ?_
  subst eo e4
  have I5 : Inv X pins σ H4 { s4 with heap := s4.heap.push { cls := .type "slice", data := .fields #[vl, vu, vs] } } := I4.kept (t' := s4.toks) fun b ob q => Heap.get?_push_of_some _ q
  obtain ⟨its, r, ht, hz⟩ := I5.tuple hx
  have hlen := r.length
  show wpAny (model X.prog X.w) X.A (PyProof.Rows.subscriptTail e (.Slice none none (some (.UnaryOp .USub (.Constant (.int 1) k p1) p2)) p3) (.ref a) (.ref s4.heap.objs.size)) (EP X pins σ Q) X.xe { s4 with heap := s4.heap.push { cls := .type "slice", data := .fields #[vl, vu, vs] } }
  refine PyProof.Rows.tail_any (ops := [.ref a, .ref s4.heap.objs.size]) ht.typeIs PyProof.Rows.slot_tuple_getitem.lookup ?_ (by with_unfolding_all rfl)
  refine getItem_tuple_rev ht (Heap.IsSliceOf.new _ vl vu vs) pl pu ps ?_ (by rw [List.size_toArray]; omega)
  refine ⟨.ref _, _, I5.laid (t' := s4.toks) (o := .tup xs.reverse) (fun b ob q => Heap.get?_push_of_some _ q) (Nat.le_refl _) ?_, rfl, q _ (I5.hok.fresh (Nat.le_refl _))⟩
  exact ⟨by rw [List.length_reverse]; exact hz, _, r.reverse, _, Heap.get?_push_size _ rfl, rfl, 0, rfl⟩
theorem Reps.reverse {K : PySem.W.Frag} {H : Hp} : ∀ {ds : List D} {vs : List V} {F : List Addr}, Reps K H ds vs F → ∃ F', Reps K H ds.reverse vs.reverse F' ∧ ∀ b, b ∈ F' → b ∈ F
  | [], _, _, h => by cases h; exact ⟨[], .nil, fun _ m => m⟩
  | d :: ds, _, _, h => by
    cases h with
    | @cons _ v F1 _ vs F2 h1 h2 =>
      obtain ⟨F', e1, e2⟩ := Reps.reverse h2
      rw [List.reverse_cons, List.reverse_cons]
      refine ⟨F' ++ F1, e1.append (.one h1), fun b m => ?_⟩
      rcases List.mem_append.mp m with m | m
      · exact List.mem_append_right _ (e2 b m)
      · exact List.mem_append_left _ m
def revT : D → Option (Bool × D)
  | .tup ds => some (false, .tup ds.reverse)
  | _ => none
@[simp] theorem v_revT {ds : List D} : revT (.tup ds) = some (false, .tup ds.reverse) := rfl
theorem opd_revT {K : PySem.W.Frag} : OpD1 K revT fun x H1 Q => ∃ a xs, x = .ref a ∧ SqT K H1 a xs ∧ ∀ p, H1 p = none → Q (.ref p) (upd H1 p (.tup xs.reverse)) := by
  intro P B ia s σ H H0 Fs dx q x F Q R o fr e k
  unfold revT at e
  split at e
  · cases e
    obtain ⟨a, vs, rfl, h1, h2, no⟩ := o.tup_inv
    obtain ⟨F', e1, e2⟩ := h2.reverse
    exact ⟨a, vs, rfl, h1, fun p np => k _ _ (.tup e1 (no.sub e2) (fun b m => o.inB b (e2 b m)) fr R np)⟩
  · cases e
theorem de_revT {X : Cx} {E : WX} {e : Expr} {o : Opd} {k : Nat} {p1 p2 p3 pos : Pos} (he : PE X e (rdO X.K E o)) : PE X (.Subscript e (.Slice none none (some (.UnaryOp .USub (.Constant (.int 1) k p1) p2)) p3) pos) (tD X.K E (unM revT o)) :=
  (pe_revT he).imp (tD_un opd_revT)
end PV

/-! PV: a comprehension within a comprehension. -/
namespace PV
open PySem PySem.Spec L2
theorem lookup_rel {c : Str → NameKind → Bool} {x : Str} : ∀ {l : List (Str × NameKind)} {k : NameKind}, l.lookup x = some k → (l.map fun (n, k) => if c n k = true then (n, NameKind.cell) else (n, k)).lookup x = some (if c x k = true then .cell else k)
  | [], _, h => by cases h
  | (n, k') :: r, k, h => by
    have e : (List.map (fun (n, k) => if c n k = true then (n, NameKind.cell) else (n, k)) ((n, k') :: r)) = (n, if c n k' = true then .cell else k') :: r.map fun (n, k) => if c n k = true then (n, NameKind.cell) else (n, k) := by
      rw [List.map_cons]
      congr 1
      dsimp only
      split <;> rfl
    rw [e, List.lookup_cons]
    rw [List.lookup_cons] at h
    by_cases q : x = n
    · subst q
      simp only [beq_self_eq_true] at h ⊢
      cases h
      rfl
    · have q' : (x == n) = false := beq_eq_false_iff_ne.mpr q
      rw [q'] at h ⊢
      exact lookup_rel h
theorem blkOk_in {N : List Str} {sc scope : Scope} {own : List (Str × Nat)} {env : Env} (h : blkC N sc scope own = true) : BlkOk N (relabel sc env) scope own := by
  have o := blkOk_by h
  refine ⟨o.kind, o.uniq, o.ix, fun y hy e => ?_, o.own⟩
  have key : ∀ k, sc.names.lookup y.1 = some k → (k = .cell ∨ k = .free) → (relabel sc env).names.lookup y.1 = some .cell ∨ (relabel sc env).names.lookup y.1 = some .free := fun k hk h => by
    have := lookup_rel (c := fun n k => k == NameKind.free && env.scope.kind == ScopeKind.function && env.kindOf n == some NameKind.cell) hk
    have e2 : (relabel sc env).names.lookup y.1 = _ := this
    rw [e2]
    split
    · exact .inl rfl
    · rcases h with rfl | rfl
      · exact .inl rfl
      · exact .inr rfl
  rcases o.free y hy e with q | q
  · exact key _ q (.inl rfl)
  · exact key _ q (.inr rfl)
end PV

/-! PV: dicts whose keys are nested tuples of ints and texts, whose values are ints. -/
namespace PV
open PySem PySem.Spec L2
mutual
theorem NkV.is {X : Cx} {pins : List (Addr × Obj)} {σ : St} {H : Hp} {s : Shared} (I : Inv X pins σ H s) : ∀ {k : NestedKey} {v : V} {u : Value}, NkV X.K H k v → RelV v u → NestedIs s.heap k u
  | _, _, _, .num, r => by obtain ⟨t, rfl⟩ := r; exact .int _ _
  | _, _, _, .text, r => by obtain ⟨t, rfl⟩ := r; exact .text _ _
  | _, _, u, .tup (a := a) h1 h2, r => by
    obtain rfl : u = Value.ref a := r
    obtain ⟨its, rv, ht, _⟩ := I.tuple h1
    obtain ⟨o, ho, hc, n, hd⟩ := ht
    exact .tup ho hc hd (NkVs.is I h2 (by simpa using rv))
theorem NkVs.is {X : Cx} {pins : List (Addr × Obj)} {σ : St} {H : Hp} {s : Shared} (I : Inv X pins σ H s) : ∀ {ks : List NestedKey} {vs : List V} {us : List Value}, NkVs X.K H ks vs → Vals vs us → NestedAll s.heap ks us
  | _, _, _, .nil, r => by cases r; exact .nil
  | _, _, _, .cons h1 h2, r => by
    cases r with
    | cons r1 r2 => exact .cons (NkV.is I h1 r1) (NkVs.is I h2 r2)
end
mutual
/-- the value as such a key -/
def D.nk : D → Option NestedKey
  | .int i => some (.num i)
  | .str x => some (.text x)
  | .tup ds => (D.nks ds).map .tup
  | _ => none
def D.nks : List D → Option (List NestedKey)
  | [] => some []
  | d :: ds => (D.nk d).bind fun k => (D.nks ds).map fun ks => k :: ks
end
mutual
theorem Rep.nk {K : PySem.W.Frag} {H : Hp} : ∀ {d : D} {v : V} {F : List Addr} {k : NestedKey}, Rep K H d v F → d.nk = some k → NkV K H k v
  | .int _, _, _, _, h, e => by cases h; simp only [D.nk, Option.some.injEq] at e; subst e; exact .num
  | .str _, _, _, _, h, e => by cases h; simp only [D.nk, Option.some.injEq] at e; subst e; exact .text
  | .tup ds, _, _, _, h, e => by
    cases h with
    | tup h1 h2 =>
      simp only [D.nk] at e
      obtain ⟨ks, e1, e2⟩ := Option.map_eq_some_iff.mp e
      subst e2
      exact .tup h1 (Reps.nk h2 e1)
  | .non, _, _, _, h, e => by simp [D.nk] at e
  | .bl _, _, _, _, h, e => by simp [D.nk] at e
  | .lst _, _, _, _, h, e => by simp [D.nk] at e
  | .fro _, _, _, _, h, e => by simp [D.nk] at e
  | .dct _, _, _, _, h, e => by simp [D.nk] at e
  | .dcl _, _, _, _, h, e => by simp [D.nk] at e
  | .dnt _ _, _, _, _, h, e => by simp [D.nk] at e
  | .ty _, _, _, _, h, e => by simp [D.nk] at e
theorem Reps.nk {K : PySem.W.Frag} {H : Hp} : ∀ {ds : List D} {vs : List V} {F : List Addr} {ks : List NestedKey}, Reps K H ds vs F → D.nks ds = some ks → NkVs K H ks vs
  | [], _, _, _, h, e => by cases h; simp only [D.nks, Option.some.injEq] at e; subst e; exact .nil
  | d :: ds, _, _, _, h, e => by
    cases h with
    | cons h1 h2 =>
      simp only [D.nks] at e
      obtain ⟨k, e1, e2⟩ := Option.bind_eq_some_iff.mp e
      obtain ⟨ks, e3, e4⟩ := Option.map_eq_some_iff.mp e2
      subst e4
      exact .cons (Rep.nk h1 e1) (Reps.nk h2 e3)
end
/-! ### the dict -/
theorem nd_ok {P : Program} {w w' : World} {H : Hp} {h : Heap} {a : Addr} {xs : List (NestedKey × Addr × Value)} (hd : (a == sysModules) = false) (hz : xs.length ≤ sizeLine) (D : ∃ o es ep, h.get? a = some o ∧ o.ExactDict ∧ o.data = .dict es ep ∧ es.toList = xs.map (fun x => (⟨x.1.hash w, .ref x.2.1, x.2.2⟩ : DictEntry)) ∧ (xs.map (·.1)).Nodup) :
    ObjOk P w' H h a (NDx w a xs) := by
  have ⟨o, _, _, ho, _⟩ := D
  exact ⟨⟨hd, hz, D⟩, ⟨o, ho⟩, fun h1 h2 p k => ⟨p.1, p.2.1, let ⟨o, es, ep, ho, r⟩ := p.2.2; ⟨o, es, ep, k o ho, r⟩⟩⟩
section
variable {X : Cx} {pins : List (Addr × Obj)} {σ : St} {H : Hp} {s : Shared} {a : Addr} {xs : List (NestedKey × Addr × Value)}
theorem nd_get {w : World} (I : Inv X pins σ H s) (ha : H a = some (NDx w a xs)) : (a == sysModules) = false ∧ xs.length ≤ sizeLine ∧ ∃ o es ep, s.heap.get? a = some o ∧ o.ExactDict ∧ o.data = .dict es ep ∧ es.toList = xs.map (fun x => (⟨x.1.hash w, .ref x.2.1, x.2.2⟩ : DictEntry)) ∧ (xs.map (·.1)).Nodup := (I.hok a _ ha).1
theorem nd_dict (I : Inv X pins σ H s) (ha : H a = some (NDx X.w a xs)) (hk : ∀ q, q ∈ xs → q.1.depth ≤ 8 ∧ NkV X.K H q.1 (.ref q.2.1)) : s.heap.DictOfH (nestedKind X.prog X.w) a xs := by
  obtain ⟨_, _, o, es, ep, ho, hc, hd, he, hn⟩ := nd_get I ha
  exact ⟨o, es, ep, ho, hc, hd, he, fun q hq => ⟨(hk q hq).2.is I rfl, (hk q hq).1⟩, hn⟩
theorem pe_dnewN {pos : Pos} : PE X (.Dict [] [] pos) (fun _ H Q => ∀ p, H p = none → Q (.ref p) (upd H p (NDx X.w p []))) := ⟨fun pins s σ H Q I h =>
  wpAny_Dict_empty ⟨.ref s.heap.objs.size, _, I.laid (a := s.heap.objs.size) (o := NDx X.w s.heap.objs.size []) (t' := s.toks) (fun _ _ q => Heap.get?_push_of_some _ q) (Nat.le_refl _)
    (nd_ok (beq_eq_false_iff_ne.mpr (Ne.symm (Nat.ne_of_lt I.big))) (Nat.zero_le _) ⟨_, #[], 0, Heap.get?_push_size _ rfl, ⟨rfl, rfl, rfl⟩, rfl, rfl, List.nodup_nil⟩), rfl, h _ (I.hok.fresh (Nat.le_refl _))⟩⟩
theorem call_lenN : CallR X (.builtin "len") (fun vs H Q => ∃ (a : Addr) (w : World) (xs : List (NestedKey × Addr × Value)), vs = [V.ref a] ∧ H a = some (NDx w a xs) ∧ Q (.int xs.length) H) := by
  intro pins s σ H vs us Q I r h
  obtain ⟨a, w, xs, rfl, ha, q⟩ := h
  obtain ⟨u, rfl, ru⟩ := vals1 r
  obtain rfl : u = Value.ref a := ru
  obtain ⟨hd, hz, o, es, ep, ho, hc, hdat, he, _⟩ := nd_get I ha
  have hes : es.size = xs.length := by
    have := congrArg List.length he
    simpa using this
  have raw : s.heap.DictRaw a es ep := ⟨o, ho, hc, hdat⟩
  refine PyProof.Rows.call_len_slot (n := (xs.length : Int)) raw.typeIs PySem.F.slot_dict_len (fun Q' q' => ?_) (by omega) (by rw [sizeLine_eq] at hz; omega) ?_
  · refine call_len_raw hd raw ?_
    rw [hes]
    exact q'
  · exact ⟨.int xs.length, H, I.tok _, ⟨_, rfl⟩, q⟩
end
/-- the key y and the value z stand ready for d at a -/
def NSet (K : PySem.W.Frag) (w : World) (a : Addr) (Q : VK) (y z : V) (H3 : Hp) : Prop := ∃ (xs : List (NestedKey × Addr × Value)) (b : Addr) (k : NestedKey) (i : Int),
  H3 a = some (NDx w a xs) ∧ y = .ref b ∧ z = .int i ∧ NkV K H3 k y ∧ k.depth ≤ 8 ∧ (∀ q, q ∈ xs → q.1.depth ≤ 8 ∧ NkV K H3 q.1 (.ref q.2.1)) ∧ xs.length < sizeLine ∧
  (∀ p, atKey xs k = some p → ∃ v, RelV v p.2 ∧ Q v H3) ∧ (atKey xs k = none → ∀ t, Q (.int i) (upd H3 a (NDx w a (xs ++ [(k, b, .int i t)]))))
/-- d.setdefault(y, z), z an int -/
def tNSetd (K : PySem.W.Frag) (w : World) (td ty tx : TE) : TE := fun σ H Q => td σ H fun x H1 => ∃ a xs0, x = .ref a ∧ H1 a = some (NDx w a xs0) ∧ ty σ H1 fun y H2 => tx σ H2 fun z H3 => NSet K w a Q y z H3
section
variable {X : Cx} {o e f : Expr} {td ty tx : TE} {apos cpos : Pos}
theorem pe_nsetd (hu : X.A.units + 65 < cLine) (ho : PE X o td) (he : PE X e ty) (hf : PE X f tx) (m : M2 X o "setdefault" apos e f cpos) : PE X (.Call (.Attribute o "setdefault" apos) [e, f] [] cpos) (tNSetd X.K X.w td ty tx) := by
  refine ⟨fun pins s σ H Q I h => ?_⟩
  refine wpAny_Call_method m.base m.few m.line PySem.F.plainAttrs_dict PySem.F.slot_dict_setdefault PySem.F.type_dict_setdefault (thn (ho.run pins s σ H _ I h) fun u s1 ⟨x, H1, I1, rx, a, xs0, ex, d, q1⟩ => ?_)
  subst ex
  obtain rfl : u = Value.ref a := rx
  obtain ⟨_, _, o1, es1, ep1, ho1, hc1, hd1, _⟩ := nd_get I1 d
  refine ⟨⟨o1, ho1, hc1.1⟩, fun b q => ?_, ?_⟩
  · cases q
    exact ⟨o1, ho1, hc1.2.1⟩
  rw [m.trees]
  refine Calls.callWith_builtin rfl (Calls.evalArgs_plain (Calls.spliced_cons (thn (he.run pins s1 σ H1 _ I1 q1) fun iv s2 ⟨y, H2, I2, ry, q2⟩ =>
    Calls.spliced_cons (thn (hf.run pins s2 σ H2 _ I2 q2) fun fv s3 ⟨z, H3, I3, rz, xs, b, k, i, ea, ey, ez, hk, hdp, hks, hl, q3, q4⟩ => Calls.spliced_nil ?_))))
  subst ey ez
  obtain rfl : iv = Value.ref b := ry
  obtain ⟨t, rfl⟩ := rz
  obtain ⟨hsys, hz, _⟩ := nd_get I3 ea
  have hD := nd_dict I3 ea hks
  refine call_setdefault_heap (hsz := by omega) (knd := nestedKind X.prog X.w) (by show X.A.in1.units + 8 < cLine; have : X.A.in1.units = X.A.units + 1 := rfl; omega) ⟨hk.is I3 rfl, hdp⟩ hsys hD (fun p hp => ?_) fun hn h' hm' hs => ?_
  · obtain ⟨v, rv, q⟩ := q3 p hp
    exact ⟨v, H3, I3.tok _, rv, q⟩
  · obtain ⟨o', es', ep', ho', hc', hd', he', _, hn'⟩ := id hm'
    rw [storedH_new hn] at he' hn'
    have hx : ∃ q, h'.get? a = some q := ⟨o', ho'⟩
    refine ⟨.int i, _, d_write (t' := _) I3 (by rw [ea]; exact True.intro) hs hx (nd_ok hsys (by rw [List.length_append]; simp only [List.length_cons, List.length_nil]; omega) ⟨o', es', ep', ho', hc', hd', he', hn'⟩), ⟨t, rfl⟩, q4 hn t⟩
end
end PV

/-! PV: dicts with nested keys, by values. -/
namespace PV
open PySem PySem.Spec L2
section
variable {K : PySem.W.Frag} {P B : Addr → Prop} {s : S} {σ : St} {H : Hp} {F : List Addr}
theorem OV.dnt_inv {w : World} {kds : List (NestedKey × Int)} {x : V} (h : OV K B s σ H (.dnt w kds) x F) : ∃ a xs, x = .ref a ∧ H a = some (NDx w a xs) ∧ Paired (NdE K H) xs kds := by
  cases h.rep with
  | dnt h1 h2 => exact ⟨_, _, rfl, h1, h2⟩
end
def emptyN (w : World) : M (Bool × D) := fun s => .ok (true, .dnt w []) s
@[simp] theorem ev_emptyN (w : World) (s : S) : emptyN w s = .ok (true, .dnt w []) s := rfl
theorem de_dictN {X : Cx} {E : WX} {pos : Pos} : PE X (.Dict [] [] pos) (tD X.K E (emptyN X.w)) := pe_dnewN.imp fun σ H Q h => by
  obtain ⟨P, B, ia, s, Fs, r, w⟩ := h
  intro p np
  have rm : RepM X.K (upd H p (NDx X.w p [])) (.dnt X.w []) p [] := .dnt upd_same .nil
  exact w (.ref p) _ ⟨[p], Fs, rm.rep, Fr.new np r.tr, fun b m => by rw [List.mem_singleton.mp m]; exact r.nb _ np, (r.new np).prot rm.rep.tr (NoOwn.cons r np .nil), fun _ => ⟨p, [], rfl, rfl, rm, nofun, fun q => r.tr p q np, fun j m => r.trF m np⟩⟩
/-! ### len -/
def lenN : D → Option (Bool × D)
  | .dnt _ kds => some (false, .int kds.length)
  | _ => none
@[simp] theorem v_lenN {w : World} {kds : List (NestedKey × Int)} : lenN (.dnt w kds) = some (false, .int kds.length) := rfl
theorem pair_len {α β : Type} {R : α → β → Prop} : ∀ {l : List α} {m : List β}, Paired R l m → l.length = m.length
  | _, _, .nil => rfl
  | _, _, .cons _ t => by simp [pair_len t]
theorem opd_lenN {K : PySem.W.Frag} : OpD1 K lenN fun x H Q => ∃ (a : Addr) (w : World) (xs : List (NestedKey × Addr × Value)), [x] = [V.ref a] ∧ H a = some (NDx w a xs) ∧ Q (.int xs.length) H := by
  intro P B ia s σ H H0 Fs dx q x F Q R o fr e k
  unfold lenN at e
  split at e
  · cases e
    obtain ⟨a, xs, rfl, h1, h2⟩ := o.dnt_inv
    refine ⟨a, _, xs, rfl, h1, ?_⟩
    rw [pair_len h2]
    exact k _ _ (.flat .int fr R)
  · cases e
/-! ### d.setdefault(k, x) -/
def nget (kds : List (NestedKey × Int)) (k : NestedKey) : Option Int := (kds.find? fun q => decide (q.1 = k)).map (·.2)
theorem pair_get {K : PySem.W.Frag} {H : Hp} {k : NestedKey} : ∀ {xs : List (NestedKey × Addr × Value)} {kds : List (NestedKey × Int)}, Paired (NdE K H) xs kds →
    (atKey xs k = none ∧ nget kds k = none) ∨ ∃ p v t, atKey xs k = some p ∧ nget kds k = some v ∧ p.2 = .int v t
  | _, _, .nil => .inl ⟨rfl, rfl⟩
  | x :: xs, q :: kds, .cons h t => by
    obtain ⟨h1, ⟨tt, h2⟩, _⟩ := h
    have ih := pair_get (k := k) t
    unfold atKey nget at ih ⊢
    by_cases e : q.1 = k
    · have ex : x.1 = k := h1.trans e
      exact .inr ⟨x.2, q.2, tt, by simp [ex], by simp [e], h2⟩
    · have ex : ¬ x.1 = k := fun z => e (h1 ▸ z)
      simpa [List.find?_cons, ex, e] using ih
theorem pair_mem {α β : Type} {R : α → β → Prop} : ∀ {l : List α} {m : List β}, Paired R l m → ∀ x, x ∈ l → ∃ y, R x y
  | _, _, .nil, x, h => by cases h
  | _, _, .cons r t, x, h => by
    rcases List.mem_cons.mp h with rfl | h
    · exact ⟨_, r⟩
    · exact pair_mem t x h
noncomputable def isDnt (w : World) (s : S) (i : Nat) : Bool := match s[i]? with
  | some (some (_, .dnt w' _)) => gd (w' = w)
  | _ => false
noncomputable def setdM (w : World) (i : Nat) (k x : M (Bool × D)) : M (Bool × D) := fun s => if isDnt w s i = true then opsM [.ex k, .ex x] (fun ds s1 => match s1[i]?, ds with
  | some (some (o, .dnt w' kds)), [.tup ks, .int y] => if o = .sh then .stuck else if gd (w' = w) = true then (match D.nks ks with
      | some nk => if (NestedKey.tup nk).depth ≤ 8 ∧ kds.length < sizeLine then (match nget kds (.tup nk) with
          | some v => .ok (false, .int v) s1
          | none => .ok (false, .int y) (s1.set i (some (o, .dnt w' (kds ++ [(.tup nk, y)])))))
        else .stuck
      | none => .stuck) else .stuck
  | _, _ => .stuck) s else .stuck
@[simp] theorem ev_setd (w : World) (i : Nat) (k x : M (Bool × D)) (s : S) : setdM w i k x s = if isDnt w s i = true then opsM [.ex k, .ex x] (fun ds s1 => match s1[i]?, ds with
  | some (some (o, .dnt w' kds)), [.tup ks, .int y] => if o = .sh then .stuck else if gd (w' = w) = true then (match D.nks ks with
      | some nk => if (NestedKey.tup nk).depth ≤ 8 ∧ kds.length < sizeLine then (match nget kds (.tup nk) with
          | some v => .ok (false, .int v) s1
          | none => .ok (false, .int y) (s1.set i (some (o, .dnt w' (kds ++ [(.tup nk, y)])))))
        else .stuck
      | none => .stuck) else .stuck
  | _, _ => .stuck) s else .stuck := rfl
theorem tD_setd {K : PySem.W.Frag} {E : WX} {w : World} {i : Nat} {k x : M (Bool × D)} (σ : St) (H : Hp) (Q : VK) (h : tD K E (setdM w i k x) σ H Q) : tNSetd K w (tVar i) (tD K E k) (tD K E x) σ H Q := by
  obtain ⟨P, B, ia, s, Fs, R, wp⟩ := h
  unfold setdM at wp
  split at wp
  · rename_i hd
    unfold isDnt at hd
    split at hd
    · rename_i o w0 kds0 e
      have hw0 := gd_iff.mp hd
      subst hw0
      obtain ⟨v, F0, hv, ov⟩ := R.opd e
      obtain ⟨a, xs0, rfl, h1, _⟩ := ov.dnt_inv
      refine ⟨.ref a, hv, a, xs0, rfl, h1, ?_⟩
      have key : rdOs K E [.ex k, .ex x] σ H (fun vs H' => match vs with | [y, z] => NSet K w0 a Q y z H' | _ => False) := by
        refine rdOps R wp (fun _ _ q => q) fun ds s' vs H' Gs Fs' q ovs fr r' => ?_
        split at q
        · rename_i o' w' kds ks y e1
          split at q
          · exact q.elim
          · rename_i ho
            split at q
            · rename_i hw
              have hw := gd_iff.mp hw
              subst hw
              split at q
              · rename_i nk ek
                split at q
                · rename_i hz
                  cases ovs with
                  | cons o1 n1 _ t =>
                    cases t with
                    | cons o2 n2 _ t =>
                      cases t
                      obtain ⟨b, us, rfl, _⟩ := o1.tup_inv
                      have hkey : NkV K H' (.tup nk) (.ref b) := Rep.nk o1.rep (by simp only [D.nk, ek, Option.map_some])
                      obtain ⟨a', F, k1, k2, k3, k4, k5, k6⟩ := r'.own i o' _ e1 ho
                      rw [hv] at k1; cases k1
                      cases k3 with
                      | @dnt _ _ _ xs m1 m2 =>
                        have hl := pair_len m2
                        refine ⟨xs, b, .tup nk, y, m1, rfl, o2.int_inv, hkey, hz.1, fun p hp => ?_, by rw [hl]; exact hz.2, fun p hp => ?_, fun hn t => ?_⟩
                        · obtain ⟨z, z1, _, z3, z4⟩ := pair_mem m2 p hp
                          exact ⟨z3, z4⟩
                        · rcases pair_get (k := .tup nk) m2 with ⟨g1, g2⟩ | ⟨p', v', t', g1, g2, g3⟩
                          · rw [g1] at hp; cases hp
                          · rw [g1] at hp; cases hp
                            rw [g2] at q
                            exact ⟨.int v', ⟨t', g3⟩, q _ _ (.flat .int fr r')⟩
                        · rcases pair_get (k := .tup nk) m2 with ⟨g1, g2⟩ | ⟨p', v', t', g1, g2, g3⟩
                          · rw [g2] at q
                            refine q _ _ (r'.less (F' := []) fr e1 ho hv k2 (fun H2 im f ha => .dnt ha (Paired.snoc (Paired.mapP m2 fun a b z => ⟨z.1, z.2.1, z.2.2.1, z.2.2.2.keepG fun _ _ h => sqT_keep h im⟩) ⟨rfl, ⟨t, rfl⟩, hz.1, hkey.keepG fun _ _ h => sqT_keep h im⟩)) (fun b m => m) .int nofun)
                          · rw [g1] at hn; cases hn
                · exact q.elim
              · exact q.elim
            · exact q.elim
        · exact q.elim
      exact key
    · cases hd
  · exact wp.elim
theorem dm_setd {X : Cx} {E : WX} {e : Expr} {i : Nat} {k x : M (Bool × D)} (h : PE X e (tNSetd X.K X.w (tVar i) (tD X.K E k) (tD X.K E x))) : PE X e (tD X.K E (setdM X.w i k x)) := h.imp tD_setd
end PV

/-! PV: zip of a tuple and a list. -/
namespace PV
open PySem PySem.Spec L2 PyProof.Rows
/-- what stands in both at each turn, in new pairs -/
def Itz2 (Sq1 Sq2 : Hp → List V → Prop) : It :=
  ⟨fun i H => ∃ (xs ys : List V) (x y : V), Sq1 H xs ∧ Sq2 H ys ∧ xs[i]? = some x ∧ ys[i]? = some y,
    fun i H v H' => ∃ T x y, v = .ref T ∧ H T = none ∧ H' = upd H T (.tup [x, y]) ∧ (∀ xs, Sq1 H xs → xs[i]? = some x) ∧ ∀ ys, Sq2 H ys → ys[i]? = some y,
    fun i H => ∃ xs ys : List V, Sq1 H xs ∧ Sq2 H ys ∧ i ≤ xs.length ∧ i ≤ ys.length ∧ (i = xs.length ∨ i = ys.length)⟩
theorem turn_zip2 {P : Program} {w : World} {K : PySem.W.Frag} {elts : List Expr} {kk : Nat} {tpos : Pos} {a b z TI TO i1 i2 : Addr} {Sq1 Sq2 : Hp → List V → Prop} {Src1 Src2' : Array Value → Heap → Prop} {It1 It2 : Nat → Heap → Prop} (S1 : Src2 K a i1 Sq1 Src1 It1) (S2 : Src2 K b i2 Sq2 Src2' It2) (S : ZipSep2 z TI TO i1 i2 [i1, a] [i2, b]) :
    Turn P w K (.Tuple elts kk tpos) (Itz2 Sq1 Sq2) [z, TI, TO, i1, i2] z (fun i h => IsZip h z TI TO .none ∧ IsTupOf2 h TI (.ref i1) (.ref i2) ∧ (∃ a1 a2, IsTupOf2 h TO a1 a2) ∧ It1 i h ∧ It2 i h) where
  mem := by simp
  obj := fun i h st c hc => by
    obtain ⟨hz, hTI, ⟨a1, a2, hTO⟩, h1, h2⟩ := st
    have e' : c = z ∨ c = TI ∨ c = TO ∨ c = i1 ∨ c = i2 := by simpa using hc
    rcases e' with q | q | q | q | q
    · rw [q]; exact ⟨_, hz, fun v q => nomatch q⟩
    · rw [q]; exact ⟨_, hTI, fun v q => nomatch q⟩
    · rw [q]; exact ⟨_, hTO, fun v q => nomatch q⟩
    · rw [q]; exact S1.obj i h h1
    · rw [q]; exact S2.obj i h h2
  keep := fun i h h' st k => by
    obtain ⟨hz, hTI, ⟨a1, a2, hTO⟩, h1, h2⟩ := st
    exact ⟨k z (by simp) _ hz, k TI (by simp) _ hTI, ⟨a1, a2, k TO (by simp) _ hTO⟩, S1.keep i h h' h1 fun o q => k i1 (by simp) o q, S2.keep i h h' h2 fun o q => k i2 (by simp) o q⟩
  item := by
    intro X hP hw hK hc i pins s σ H E I hf st hg
    subst hP hw
    obtain ⟨hz, hTI, ⟨a1, a2, hTO⟩, h1, h2⟩ := st
    obtain ⟨xs, ys, x, y, hq1, hq, hx, hy⟩ := hg
    obtain ⟨its1, rv1, hsrc1⟩ := S1.src hK I hq1
    obtain ⟨u1, hu1, ru1⟩ := rv1.get hx
    obtain ⟨its, rv, hsrc⟩ := S2.src hK I hq
    obtain ⟨u2, hu2, ru2⟩ := rv.get hy
    have hzl : z < s.heap.objs.size := Heap.lt_size hz
    have hl1 : i < its1.toArray.size := by
      have := (List.getElem?_eq_some_iff.mp hu1).1
      simpa using this
    have hl2 : i < its.toArray.size := by
      have := (List.getElem?_eq_some_iff.mp hu2).1
      simpa using this
    refine wpAny_pyNext_zipD2_item S (S1.drw _ _ _ (show X.A.in1.handled = none from I.ok.hd hc) its1.toArray) (S2.drw _ _ _ (show X.A.in1.handled = none from I.ok.hd hc) its.toArray) hz hTI hTO ⟨h1, hsrc1⟩ ⟨h2, hsrc⟩ hl1 hl2 fun x1 x2 h' tk p1 p2 z' TO' h1' h2' hT hsz hk => ?_
    have ex1 : x1 = u1 := by
      have p1' : its1.toArray[i]? = some x1 := p1
      rw [List.getElem?_toArray] at p1'
      rw [hu1] at p1'; cases p1'; rfl
    have ex2 : x2 = u2 := by
      have p2' : its.toArray[i]? = some x2 := p2
      rw [List.getElem?_toArray] at p2'
      rw [hu2] at p2'; cases p2'; rfl
    subst ex1 ex2
    refine ⟨_, rfl, wpAny_letOwnedTupleGo_zip (s := { s with heap := h', toks := tk }) z' fun h'' z'' sb => ?_⟩
    have hT2 : h''.get? s.heap.objs.size = some { cls := .type "tuple", data := .seq #[x1, x2] } := (sb.2 _ (Nat.ne_of_gt hzl)).trans hT
    have new : ObjOk X.prog X.w (upd H s.heap.objs.size (.tup [x, y])) h'' s.heap.objs.size (.tup [x, y]) :=
      ⟨by show 2 ≤ sizeLine; decide, [x1, x2], .cons ru1 (.cons ru2 .nil), ⟨_, hT2, rfl, _, rfl⟩⟩
    have I1 : Inv X pins σ (upd H s.heap.objs.size (.tup [x, y])) { s with heap := h'', toks := tk } :=
      I.turnedNew (t' := tk) (ch := [z, TI, TO, i1, i2]) (fun c o hb q => (sb.2 c (fun q' => hb (by simp [q']))).trans (hk c o (fun q' => hb (by simp [q'])) (fun q' => hb (by simp [q'])) (fun q' => hb (by simp [q'])) (fun q' => hb (by simp [q'])) q)) hf (Nat.le_refl _) new
    refine ⟨.ref s.heap.objs.size, _, I1, rfl, ⟨_, x, y, rfl, I.hok.fresh (Nat.le_refl _), rfl, fun l hl => by rw [S1.inj hK I hl hq1]; exact hx, fun l hl => by rw [S2.inj hK I hl hq]; exact hy⟩, ⟨z'', ?_, ⟨x1, x2, ?_⟩, ?_, ?_⟩, fun c hcm => ?_⟩
    · exact (sb.2 _ S.TIz).trans (hk _ _ S.TIz S.TITO S.TIi1 S.TIi2 hTI)
    · exact (sb.2 _ S.TOz).trans TO'
    · exact S1.keep _ _ _ h1'.1 fun o q => (sb.2 _ (fun e => S.zf1 (e ▸ S.mem1))).trans q
    · exact S2.keep _ _ _ h2'.1 fun o q => (sb.2 _ (fun e => S.zf2 (e ▸ S.mem2))).trans q
    · have hlt : c < s.heap.objs.size := by
        have e' : c = z ∨ c = TI ∨ c = TO ∨ c = i1 ∨ c = i2 := by simpa using hcm
        rcases e' with q | q | q | q | q
        · rw [q]; exact hzl
        · rw [q]; exact Heap.lt_size hTI
        · rw [q]; exact Heap.lt_size hTO
        · rw [q]; obtain ⟨_, e1, _⟩ := S1.obj _ _ h1; exact Heap.lt_size e1
        · rw [q]; obtain ⟨_, e2, _⟩ := S2.obj _ _ h2; exact Heap.lt_size e2
      rw [upd_ne (Nat.ne_of_lt hlt)]
      exact (hf c hcm).1
  done := by
    intro X hP hw hK hc i pins s σ H E I hf st hg
    subst hP hw
    obtain ⟨hz, hTI, ⟨a1, a2, hTO⟩, h1, h2⟩ := st
    obtain ⟨xs, ys, hq1, hq, hi1, hi2, hend⟩ := hg
    obtain ⟨its1, rv1, hsrc1⟩ := S1.src hK I hq1
    obtain ⟨its, rv, hsrc⟩ := S2.src hK I hq
    have l1 : its1.toArray.size = xs.length := by rw [List.size_toArray, rv1.length]
    have l2 : its.toArray.size = ys.length := by rw [List.size_toArray, rv.length]
    exact wpAny_pyNext_zipD2_end S (S1.drw _ _ _ (show X.A.in1.handled = none from I.ok.hd hc) its1.toArray) (S2.drw _ _ _ (show X.A.in1.handled = none from I.ok.hd hc) its.toArray) hz hTI hTO ⟨h1, hsrc1⟩ ⟨h2, hsrc⟩ (by rw [l1]; exact hi1) (by rw [l2]; exact hi2) (by rw [l1, l2]; exact hend) fun h' tk hk => ⟨rfl, I.turnedL (t' := tk) (ch := [z, TI, TO, i1, i2]) (fun c o hb q =>
      hk c o (fun q' => hb (by simp [q'])) (fun q' => hb (by simp [q'])) (fun q' => hb (by simp [q'])) (fun q' => hb (by simp [q'])) q) hf⟩
  self := fun A i s Q E st h => wpAny_pyIter_zip st.1 h

def iZipTL (K : PySem.W.Frag) (ta : TA) : TI := fun σ H R => ta σ H fun vs H1 => ∃ (a b : Addr) (xs ys : List V), vs = [.ref a, .ref b] ∧ SqT K H1 a xs ∧ SqL K H1 b ys ∧ R (Itz2 (fun H xs => SqT K H a xs) (fun H ys => SqL K H b ys)) H1
theorem pi_zipTL {X : Cx} {e e2 : Expr} {ta : TA} {p pos tpos : Pos} {elts : List Expr} {kk : Nat} (hg : Gl X "zip") (hm : X.mg "zip" = none) (ha : PA X [e, e2] ta)
    (hs : starEach [e, e2] X.env = (false, eval e X.env) :: starEach [e2] X.env := by rfl) (hpl : (backTo pos (starEach [e2] X.env)).any (·.1) = false := by rfl) :
    PI X (.Tuple elts kk tpos) (.Call (.Name "zip" p) [e, e2] [] pos) (iZipTL X.K ta) := by
  refine ⟨fun pins s σ H R I h => ?_⟩
  refine Call_ (ld_blt I hg hm PyProof.Rows.boot_zip (PyProof.Rows.callWith_type1 (thn (ha.run pos pins s σ H _ I h) fun us s1 ⟨vs, H1, I1, r1, q1⟩ => ?_) hs hpl))
  obtain ⟨a, b, xs, ys, ex, hqx, hqy, q⟩ := q1
  subst ex
  cases r1 with
  | cons r rr =>
    cases rr with
    | cons r' rr =>
      cases rr
      cases r
      cases r'
      have fresh5 : ∀ c, c ∈ [s1.heap.objs.size + 4, s1.heap.objs.size + 2, s1.heap.objs.size + 3, s1.heap.objs.size, s1.heap.objs.size + 1] → FpOk X pins H1 c := fun c hcm => by
        have e' : c = s1.heap.objs.size + 4 ∨ c = s1.heap.objs.size + 2 ∨ c = s1.heap.objs.size + 3 ∨ c = s1.heap.objs.size ∨ c = s1.heap.objs.size + 1 := by simpa using hcm
        have hle : s1.heap.objs.size ≤ c := by
          rcases e' with z | z | z | z | z
          · rw [z]; exact Nat.le_add_right _ _
          · rw [z]; exact Nat.le_add_right _ _
          · rw [z]; exact Nat.le_add_right _ _
          · rw [z]; exact Nat.le_refl _
          · rw [z]; exact Nat.le_add_right _ _
        exact I1.fpOk hle (I1.hok.fresh hle)
      obtain ⟨its1, rv1, p0, _⟩ := I1.tuple hqx
      obtain ⟨o1, ho1, _⟩ := id p0
      have hla := Heap.lt_size ho1
      obtain ⟨its, rv, p1, _⟩ := I1.list hqy
      have hlb := p1.lt
      have D := PySem.W.ktu_apart s1.heap.objs.size a b hla hlb
      have mm : ∀ {a c d : Addr}, a ≠ c → a ≠ d → a ∉ [c, d] := fun h1 h2 m => (List.mem_cons.mp m).elim h1 fun m => h2 (List.mem_singleton.mp m)
      have sep : ZipSep2 (s1.heap.objs.size + 4) (s1.heap.objs.size + 2) (s1.heap.objs.size + 3) s1.heap.objs.size (s1.heap.objs.size + 1) [s1.heap.objs.size, a] [s1.heap.objs.size + 1, b] :=
        ⟨D.TIz, D.TOz, D.TITO, D.TIi1, List.mem_cons_self, mm D.i1z.symm D.l1z.symm, mm D.TOi1 D.l1TO.symm, D.TIi2, List.mem_cons_self, mm D.i2z.symm D.l2z.symm, mm D.TOi2 D.l2TO.symm, mm D.i12 D.l2i1.symm, mm D.i12.symm D.l1i2.symm⟩
      refine zip_begins2 (begins_tuple a its1.toArray) (begins_list b its.toArray) p0 p1.isList fun h' hz hTI hTO h1 h2 hsz hk => wpAny_pyIter_zip hz ?_
      have I2 : Inv X pins σ H1 { s1 with heap := h' } := I1.kept (t' := s1.toks) hk
      exact ⟨s1.heap.objs.size + 4, [s1.heap.objs.size + 4, s1.heap.objs.size + 2, s1.heap.objs.size + 3, s1.heap.objs.size, s1.heap.objs.size + 1], _, _, H1, rfl, I2, turn_zip2 (src_tup (Nat.ne_of_lt hla)) (src_list (Nat.ne_of_lt (Nat.lt_succ_of_lt hlb))) sep, ⟨hz, hTI, ⟨_, _, hTO⟩, ⟨_, h1, rfl, rfl⟩, ⟨_, h2, rfl, rfl⟩⟩, fresh5, q⟩
/-! ### by values -/
def zipTD (xs ds : List D) : List D := (xs.zip ds).map fun q => .tup [q.1, q.2]
theorem it_zip2 {K : PySem.W.Frag} {P B : Addr → Prop} {H : Hp} {Sq1 Sq2 : Hp → List V → Prop} {xs ds : List D} {us vs : List V} {F G : List Addr} (inv : Hp → Prop) (i0 : inv H) (keep : ∀ H1 H2, inv H1 → Fr P H1 H2 → inv H2) (hs1 : ∀ H, inv H → Sq1 H us ∧ Reps K H xs us F) (hs : ∀ H, inv H → Sq2 H vs ∧ Reps K H ds vs G)
    (hp : ∀ a, a ∈ F ++ G → P a) (hb : ∀ a, a ∈ F ++ G → B a) : ItOK K P B (Itz2 Sq1 Sq2) (zipTD xs ds) H := by
  refine ⟨inv, i0, keep, fun i H1 q => ⟨fun d e => ?_, fun hl => ?_⟩⟩
  · unfold zipTD at e
    rw [List.getElem?_map] at e
    obtain ⟨p, e1, e2⟩ := Option.map_eq_some_iff.mp e
    rw [List.getElem?_zip_eq_some] at e1
    subst e2
    obtain ⟨h1, h2⟩ := hs1 H1 q
    obtain ⟨h3, h4⟩ := hs H1 q
    obtain ⟨v, G1, g1, g2, g3⟩ := h2.get e1.1
    obtain ⟨v', G2, g4, g5, g6⟩ := h4.get e1.2
    refine ⟨⟨us, vs, v, v', h1, h3, g1, g4⟩, fun u H2 w => ?_⟩
    obtain ⟨T, x', y', rfl, hT, rfl, k1, k2⟩ := w
    have := k1 us h1
    rw [g1] at this; cases this
    have := k2 vs h3
    rw [g4] at this; cases this
    have im : ∀ b u, H1 b = some u → Im u → upd H1 T (.tup [v, v']) b = some u := fun b u h _ => by rw [upd_ne (ne_of_none h hT)]; exact h
    refine ⟨.inr ⟨T, _, hT, rfl⟩, G1 ++ G2, .tup (SqT.of upd_same) (Reps.cons (g2.keep im fun a m => upd_ne fun e => g2.tr a m (e ▸ hT)) (Reps.one (g5.keep im fun a m => upd_ne fun e => g5.tr a m (e ▸ hT)))), fun a m => hp a ?_, fun a m => hb a ?_⟩
    · exact (List.mem_append.mp m).elim (fun m => List.mem_append_left _ (g3 a m)) fun m => List.mem_append_right _ (g6 a m)
    · exact (List.mem_append.mp m).elim (fun m => List.mem_append_left _ (g3 a m)) fun m => List.mem_append_right _ (g6 a m)
  · obtain ⟨h1, h2⟩ := hs1 H1 q
    obtain ⟨h3, h4⟩ := hs H1 q
    have : (zipTD xs ds).length = min us.length vs.length := by simp [zipTD, h2.length, h4.length]
    rw [this] at hl
    exact ⟨us, vs, h1, h3, by omega, by omega, by omega⟩
def zip2M (f g : M (Bool × D)) : M (List D) := opsM [.ex f, .ex g] fun ds s => match ds with
  | [.tup xs, .lst ys] => .ok (zipTD xs ys) s
  | _ => .stuck
@[simp] theorem ev_zip2 (f g : M (Bool × D)) (s : S) : zip2M f g s = opsM [.ex f, .ex g] (fun ds s => match ds with
  | [.tup xs, .lst ys] => .ok (zipTD xs ys) s
  | _ => .stuck) s := rfl
theorem di_zip2 {X : Cx} {E : WX} {a b : Expr} {f g : M (Bool × D)} {p pos tpos : Pos} {elts : List Expr} {kk : Nat} (hg : Gl X "zip") (hm : X.mg "zip" = none) (ha : PAd X E [a, b] [.ex f, .ex g]) (hs : starEach [a, b] X.env = (false, eval a X.env) :: starEach [b] X.env := by rfl) (hpl : (backTo pos (starEach [b] X.env)).any (·.1) = false := by rfl) :
    PI X (.Tuple elts kk tpos) (.Call (.Name "zip" p) [a, b] [] pos) (tI X.K E (zip2M f g)) :=
  (pi_zipTL hg hm ha hs hpl).imp fun σ H R h => by
    obtain ⟨P, B, ia, s, Fs, r, w⟩ := h
    refine rdOps r w (fun _ _ q => q) fun ds s1 vs H1 Gs Fs1 q ov fr r1 => ?_
    split at q
    · rename_i xs ys
      cases ov with
      | cons h1 n1 _ ov =>
        cases ov with
        | cons h2 n2 _ ov =>
          cases ov with
          | nil =>
            have rp1 := h1.rep
            have hb1 := h1.inB
            have no1 := n1 rfl
            have rp := h2.rep
            have hb := h2.inB
            have no2 := n2 rfl
            cases rp1 with
            | @tup a _ us _ g1 g2 =>
              cases rp with
              | @lst b _ ws G g3 g4 =>
                have pr := r1.prot (F := _ ++ (b :: G)) (fun c m => (List.mem_append.mp m).elim (g2.tr c) ((Rep.lst (K := X.K) g3 g4).tr c)) (NoOwn.app no1 no2)
                exact ⟨a, b, us, ws, rfl, g1, SqL.of g3, q _ H1 _ Fs1 (fun b m => .inl m) fr pr (it_zip2 (fun H' => (SqT X.K H' a us ∧ Reps X.K H' xs us _) ∧ H' b = some (.lst ws) ∧ Reps X.K H' ys ws G) ⟨⟨g1, g2⟩, g3, g4⟩
                  (fun H1 H2 q fr => ⟨⟨sqT_keep q.1.1 fr.i, Reps.keep fr.i q.1.2 fun c m => fr.p c (.inr (List.mem_append_left _ m))⟩, (fr.p b (.inr (List.mem_append_right _ List.mem_cons_self))).trans q.2.1, Reps.keep fr.i q.2.2 fun c m => fr.p c (.inr (List.mem_append_right _ (List.mem_cons_of_mem _ m)))⟩)
                  (fun H q => q.1) (fun H q => ⟨SqL.of q.2.1, q.2.2⟩)
                  (fun c m => .inr ((List.mem_append.mp m).elim (fun m => List.mem_append_left _ m) fun m => List.mem_append_right _ (List.mem_cons_of_mem _ m)))
                  fun c m => (List.mem_append.mp m).elim (hb1 c) fun m => hb c (List.mem_cons_of_mem _ m))⟩
    · exact q.elim
end PV

/-! PV: a comprehension over a list of one's own, which stays one's own. -/
namespace PV
open PySem PySem.Spec L2
/-- a value without parts -/
def flatD : D → Bool
  | .non => true
  | .bl _ => true
  | .int _ => true
  | .str _ => true
  | _ => false
theorem flat_nil {K : PySem.W.Frag} {H : Hp} {d : D} {v : V} {F : List Addr} (h : flatD d = true) (r : Rep K H d v F) : F = [] := by
  cases r <;> first | rfl | cases h
theorem flats_nil {K : PySem.W.Frag} {H : Hp} : ∀ {ds : List D} {vs : List V} {F : List Addr}, ds.all flatD = true → Reps K H ds vs F → F = []
  | [], _, _, _, r => by cases r; rfl
  | d :: ds, _, _, h, r => by
    rw [List.all_cons, Bool.and_eq_true] at h
    cases r with
    | cons r1 r2 => rw [flat_nil h.1 r1, flats_nil h.2 r2]; rfl
/-- [te for t in x if tt], x the list of slot j -/
def compO (j : Nat) (t : Tg) (tt : M Bool) (te : M (Bool × D)) (vs : List Nat) : M (Bool × D) := fun s => match s[j]? with
  | some (some (.ow, .lst ds)) => if ds.all flatD = true then (lcL t tt te vs ds [] (killAll (s.set j none) vs)).bind fun acc s2 => (match s2[j]? with
    | some none => .ok (true, .lst acc) (s2.set j (some (.ow, .lst ds)))
    | _ => .stuck) else .stuck
  | _ => .stuck
@[simp] theorem ev_compO (j : Nat) (t : Tg) (tt : M Bool) (te : M (Bool × D)) (vs : List Nat) (s : S) : compO j t tt te vs s = match s[j]? with
  | some (some (.ow, .lst ds)) => if ds.all flatD = true then (lcL t tt te vs ds [] (killAll (s.set j none) vs)).bind fun acc s2 => (match s2[j]? with
    | some none => .ok (true, .lst acc) (s2.set j (some (.ow, .lst ds)))
    | _ => .stuck) else .stuck
  | _ => .stuck := rfl
def tIO (K : PySem.W.Frag) (j : Nat) : TI := fun σ H R => ∃ a vs, σ[j]? = some (some (.ref a)) ∧ H a = some (.lst vs) ∧ R (Itl K a) H
theorem set_same {σ : St} {j : Nat} {x : Option V} (h : σ[j]? = some x) : σ.set j x = σ := by
  refine List.ext_getElem? fun i => ?_
  by_cases e : j = i
  · subst e
    rw [List.getElem?_set_self (List.getElem?_eq_some_iff.mp h).1, h]
  · rw [List.getElem?_set_ne e]
theorem tD_compO {K : PySem.W.Frag} {E : WX} {j : Nat} {t : Tg} {tt : M Bool} {te : M (Bool × D)} {vs : List Nat} (hs : ∀ i, i ∈ t.slots → i ∈ vs) (σ : St) (H : Hp) (Q : VK) (h : tD K E (compO j t tt te vs) σ H Q) : tLc (tIO K j) (gT K t) (tT K EN tt) (tD K EN te) vs σ H Q := by
  obtain ⟨P, B, ia, s, Fs, r, w⟩ := h
  unfold compO at w
  split at w
  · rename_i ds e
    split at w
    · rename_i hf
      obtain ⟨a, F, h1, h2, h3, h4, h5, h6⟩ := r.own j _ _ e (by decide)
      cases h3 with
      | @lst _ _ us _ g1 g2 =>
        have eF := flats_nil hf g2
        subst eF
        have Ba : B a := r.inB j a (by rw [h2]; exact List.mem_cons_self)
        have k0 := r.kill e
        have no0 : NoOwn (s.set j none) σ [a] := fun i o d b e' n x m => by
          rw [List.mem_singleton.mp m] at x
          have hij : i ≠ j := fun z => by subst z; rw [get_set_eq e] at e'; cases e'
          rw [get_set_ne hij] at e'
          obtain ⟨a', F', y1, y2, _⟩ := r.own i o d e' n
          rw [x] at y1; cases y1
          exact h6 i hij (by rw [y2]; exact List.mem_cons_self)
        have k1 := k0.prot (F := [a]) (fun b m => by rw [List.mem_singleton.mp m, g1]; simp) no0
        have r1 : SR K (fun b => P b ∨ b = a) (fun b => B b ∧ b ≠ a) ia (s.set j none) σ H (fun i => if i = j then [] else Fs i) := by
          have k2 := k1.weak (P' := fun b => P b ∨ b = a) fun b q => q.imp (fun q => q) fun q => by rw [q]; exact List.mem_cons_self
          refine ⟨k2.len, k2.rep, k2.own, k2.iov, k2.dead, fun i b m => ⟨k2.inB i b m, fun z => ?_⟩, k2.tr, fun b q => ⟨k2.nb b q, fun z => by rw [z, g1] at q; cases q⟩⟩
          subst z
          by_cases hij : i = j
          · rw [if_pos hij] at m; cases m
          · rw [if_neg hij] at m; exact h6 i hij m
        have ok : ItOK K (fun b => P b ∨ b = a) (fun b => B b ∧ b ≠ a) (Itl K a) ds H := it_list g1 g2 (.inr rfl) (fun b m => nomatch m) (fun b m => nomatch m)
        refine ⟨a, us, h1, g1, fun p np => ?_⟩
        refine lc_walk (E := E) (P := fun b => P b ∨ b = a) hs (fun b q => q) Fr.refl r1 ok ?_ p np
        refine (Post.bind w).mono (fun x s' q cls dx H' rx => ?_) fun acc s2 q v H' rv => ?_
        · obtain ⟨Fs', x1, x2, x3⟩ := rx
          refine q cls dx H' ⟨Fs', x1.mono fun b q => .inl q, ?_, x3⟩
          have x4 := x2.weak (P' := P) fun b q => .inl q
          exact ⟨x4.len, x4.rep, x4.own, x4.iov, x4.dead, fun i b m => (x4.inB i b m).1, x4.tr, fun b q => (x4.nb b q).1⟩
        · split at q
          · rename_i e2
            refine q v H' ?_
            obtain ⟨F', Fs', y1, y2, y3, y4, y5⟩ := rv
            have na : ∀ i, a ∉ Fs' i := fun i m => (y4.inB i a m).2 rfl
            have nF : a ∉ F' := fun m => (y3 a m).2 rfl
            have z1 := y4.weak (P' := fun b => P b ∨ b ∈ F') fun b q => q.imp .inl fun q => q
            have z2 : SR K (fun b => P b ∨ b ∈ F') B ia s2 σ H' Fs' := ⟨z1.len, z1.rep, z1.own, z1.iov, z1.dead, fun i b m => (z1.inB i b m).1, z1.tr, fun b q => (z1.nb b q).1⟩
            have ha : H' a = some (.lst us) := (y2.p a (.inr rfl)).trans g1
            have hr : Reps K H' ds us [] := Reps.keep y2.i g2 fun b m => nomatch m
            have noA : NoOwn s2 σ [a] := fun i o d b e' n x m => by
              rw [List.mem_singleton.mp m] at x
              obtain ⟨a', F0, u1, u2, u3, u4, u5, u6⟩ := y4.own i o d e' n
              rw [x] at u1; cases u1
              exact u5 (.inl (.inr rfl))
            have z3 := z2.set (o := .ow) (d := .lst ds) (v := .ref a) (.lst ha hr) noA (fun b m => by rw [List.mem_singleton.mp m]; exact Ba) e2 (fun d => nofun) (by decide) fun _ => ⟨a, [], rfl, rfl, .lst ha hr, fun m => (by cases m), fun z => z.elim h5 nF, na⟩
            rw [set_same h1] at z3
            refine ⟨F', _, y1, y2.mono fun b q => .inl q, fun b m => (y3 b m).1, z3, fun hf => ?_⟩
            obtain ⟨b, G, u1, u2, u3, u4, u5, u6⟩ := y5 hf
            refine ⟨b, G, u1, u2, u3, u4, fun q => u5 (.inl q), fun i m => ?_⟩
            by_cases hij : i = j
            · rw [if_pos hij] at m
              have : b = a := List.mem_singleton.mp m
              exact nF (by rw [u2, ← this]; exact List.mem_cons_self)
            · rw [if_neg hij] at m; exact u6 i m
          · exact q.elim
    · exact w.elim
  · exact w.elim
theorem di_own {X : Cx} {tg e : Expr} {j : Nat} (he : PE X e (tVar j)) : PI X tg e (tIO X.K j) := (pi_list he).imp fun σ H R h => by
  obtain ⟨a, vs, h1, h2, h3⟩ := h
  exact ⟨.ref a, h1, a, rfl, ⟨vs, SqL.of h2⟩, h3⟩
/-- such a comprehension; h: pe_lc .. -/
theorem dm_compO {X : Cx} {E : WX} {e : Expr} {j : Nat} {t : Tg} {tt : M Bool} {te : M (Bool × D)} {vs : List Nat} (h : PE X e (tLc (tIO X.K j) (gT X.K t) (tT X.K EN tt) (tD X.K EN te) vs)) (hs : t.slots.all (fun i => vs.contains i) = true := by rfl) : PE X e (tD X.K E (compO j t tt te vs)) :=
  h.imp (tD_compO fun i m => by simpa using List.all_eq_true.mp hs i m)
end PV

/-! Printed by gen.py: the defs of the text by values. -/
namespace K11
open PySem PySem.Spec L2 PV
def top (i : Nat) : Stmt := PySem.Challenge.pw_onescore_k11_least_tables.main.body.getD i (.Pass ⟨0, 0, 0, 0⟩)
structure Gb (K : PySem.W.Frag) (w : World) (mg : Str → Option Value) : Prop where
  b_abs : mg "abs" = none
  b_all : mg "all" = none
  b_bool : mg "bool" = none
  b_dict : mg "dict" = none
  b_int : mg "int" = none
  b_isinstance : mg "isinstance" = none
  b_len : mg "len" = none
  b_list : mg "list" = none
  b_range : mg "range" = none
  b_str : mg "str" = none
  b_tuple : mg "tuple" = none
  b_zip : mg "zip" = none
structure Tab (P : Program) (w : World) (K : PySem.W.Frag) (mg : Str → Option Value) (base : Heap) (k : Nat) (c : Nat → FS) : Prop where
  t0 : Kn P w K mg base k "parts_of" ["state"] [] (c 0)
  t1 : Kn P w K mg base k "classes" ["table"] [] (c 1)
  t2 : Kn P w K mg base k "alike" ["table", "first", "second"] [] (c 2)
  t3 : Kn P w K mg base k "with_goals" ["state", "goals"] [] (c 3)
  t4 : Kn P w K mg base k "least_table" ["table"] [] (c 4)
  t5 : Kn P w K mg base k "_law_tape" ["_law_script"] [] (c 5)
  t6 : Kn P w K mg base k "_law_take" ["_law_tape_here", "_law_many"] [0] (c 6)
  t7 : Kn P w K mg base k "_law_is_integer" ["_law_actual"] [] (c 7)
  t8 : Kn P w K mg base k "_law_same_items" ["_law_actual", "_law_expected"] [] (c 8)
  t9 : Kn P w K mg base k "_law_same" ["_law_actual", "_law_expected"] [] (c 9)
  t10 : Kn P w K mg base k "_law_parts" ["_law_state_here"] [] (c 10)
  t11 : Kn P w K mg base k "_law_alike" ["_law_table"] [] (c 11)
  t12 : Kn P w K mg base k "_law_least" ["_law_table"] [] (c 12)
  t13 : Kn P w K mg base k "_law_state" ["_law_tape_here", "_law_many"] [0] (c 13)
  t14 : Kn P w K mg base k "law" ["_law_script"] [] (c 14)
/-- parts_of -/
abbrev N0 : List Str := ["state", "shown", "label", "variable", "_", "goal"]
abbrev p0 : List Str := ["state"]
theorem sc0 : FnScope N0 p0 (defScope (top 1)) := ⟨rfl, rfl, rfl, by decide +kernel, rfl, by decide +kernel, by decide +kernel⟩
noncomputable def b0 (W : World) (c : Nat → FS) : M Fl :=
  (seqM (iteM (truB (binM (eqS false) (.ex (binM ixD (.sl 0) (.ex (constM (.int 0))))) (.ex (constM (.str "end"))))) (retM (tupM [(varM 0), (tupM [])])) nxM)
    (seqM (iteM (truB (binM (eqS false) (.ex (binM ixD (.sl 0) (.ex (constM (.int 0))))) (.ex (constM (.str "get"))))) (seqM (setM 1 (unM toTup (.ex (compM (itM (binM ixD (.sl 0) (.ex (constM (.int 2))))) (.tp [(.nm 2), (.nm 3), (.nm 4)]) yesM (tupM [(varM 2), (varM 3)]) [2, 3, 4]))))
    (retM (tupM [(tupM [(constM (.str "get")), (binM ixD (.sl 0) (.ex (constM (.int 1)))), (varM 1)]), (unM toTup (.ex (compM (itM (binM ixD (.sl 0) (.ex (constM (.int 2))))) (.tp [(.nm 4), (.nm 4), (.nm 5)]) yesM (varM 5) [4, 5])))]))) nxM)
    (seqM (iteM (truB (binM (inD false) (.ex (binM ixD (.sl 0) (.ex (constM (.int 0))))) (.ex (tupM [(constM (.str "if")), (constM (.str "while"))])))) (retM (tupM [(sliceM (.sl 0) none (some (.ex (negM (.ex (constM (.int 2))))))), (sliceM (.sl 0) (some (.ex (negM (.ex (constM (.int 2)))))) none)])) nxM)
    (retM (tupM [(sliceM (.sl 0) none (some (.ex (negM (.ex (constM (.int 1))))))), (sliceM (.sl 0) (some (.ex (negM (.ex (constM (.int 1)))))) none)])))))
/-- classes -/
abbrev N1 : List Str := ["table", "split", "keys", "count", "names", "numbers", "state", "does", "_", "key", "k", "goal"]
abbrev p1 : List Str := ["table"]
theorem sc1 : FnScope N1 p1 (defScope (top 2)) := ⟨rfl, rfl, rfl, by decide +kernel, rfl, by decide +kernel, by decide +kernel⟩
noncomputable def b1 (W : World) (c : Nat → FS) : M Fl :=
  (seqM (setM 1 (compM (itM (varM 0)) (.nm 6) yesM (callM (c 0) [.ex (varM 6)]) [6]))
    (seqM (setM 2 (compM (itM (varM 1)) (.tp [(.nm 7), (.nm 8)]) yesM (tupM [(varM 7), (tupM [])]) [7, 8]))
    (seqM (setM 3 (constM (.int 0)))
    (whileM (truM (.ex (constM (.bl true)))) (seqM (setM 4 (emptyN W))
    (seqM (setM 5 (compM (itM (varM 2)) (.nm 9) yesM (setdM W 4 (varM 9) (unM lenN (.sl 4))) [9]))
    (seqM (iteM (truB (binM (eqS false) (.ex (unM lenN (.sl 4))) (.sl 3))) (retM (moveM 5)) nxM)
    (seqM (setM 3 (unM lenN (.sl 4)))
    (setM 2 (compM (rng1M (unM lenD (.sl 0))) (.nm 10) yesM (tupM [(binM ixD (.sl 5) (.sl 10)), (unM toTup (.ex (compM (itM (binM ixD (.ex (binM ixD (.sl 1) (.sl 10))) (.ex (constM (.int 1))))) (.nm 11) yesM (binM ixD (.sl 5) (.sl 11)) [11])))]) [10]))))))))))
/-- alike -/
abbrev N2 : List Str := ["table", "first", "second", "numbers"]
abbrev p2 : List Str := ["table", "first", "second"]
theorem sc2 : FnScope N2 p2 (defScope (top 3)) := ⟨rfl, rfl, rfl, by decide +kernel, rfl, by decide +kernel, by decide +kernel⟩
noncomputable def b2 (W : World) (c : Nat → FS) : M Fl :=
  (seqM (setM 3 (callM (c 1) [.ex (varM 0)]))
    (retM (binM (eqS false) (.ex (binM ixD (.sl 3) (.sl 1))) (.ex (binM ixD (.sl 3) (.sl 2))))))
/-- with_goals -/
abbrev N3 : List Str := ["state", "goals", "one", "goal"]
abbrev p3 : List Str := ["state", "goals"]
theorem sc3 : FnScope N3 p3 (defScope (top 4)) := ⟨rfl, rfl, rfl, by decide +kernel, rfl, by decide +kernel, by decide +kernel⟩
noncomputable def b3 (W : World) (c : Nat → FS) : M Fl :=
  (seqM (iteM (truB (binM (eqS false) (.ex (binM ixD (.sl 0) (.ex (constM (.int 0))))) (.ex (constM (.str "end"))))) (retM (moveM 0)) nxM)
    (seqM (iteM (truB (binM (eqS false) (.ex (binM ixD (.sl 0) (.ex (constM (.int 0))))) (.ex (constM (.str "get"))))) (retM (tupM [(constM (.str "get")), (binM ixD (.sl 0) (.ex (constM (.int 1)))), (unM toTup (.ex (compM (zip2M (binM ixD (.sl 0) (.ex (constM (.int 2)))) (varM 1)) (.tp [(.nm 2), (.nm 3)]) yesM (tupM [(binM ixD (.sl 2) (.ex (constM (.int 0)))), (binM ixD (.sl 2) (.ex (constM (.int 1)))), (varM 3)]) [2, 3])))])) nxM)
    (retM (binM addD (.ex (binM ixD (.ex (callM (c 0) [.ex (varM 0)])) (.ex (constM (.int 0))))) (.ex (unM toTup (.sl 1)))))))
/-- least_table -/
abbrev N4 : List Str := ["table", "numbers", "order", "named", "at", "goal", "result", "state", "goals"]
abbrev p4 : List Str := ["table"]
theorem sc4 : FnScope N4 p4 (defScope (top 5)) := ⟨rfl, rfl, rfl, by decide +kernel, rfl, by decide +kernel, by decide +kernel⟩
noncomputable def b4 (W : World) (c : Nat → FS) : M Fl :=
  (seqM (setM 1 (callM (c 1) [.ex (varM 0)]))
    (seqM (setM 2 (lstM [(constM (.int 0))]))
    (seqM (setM 3 (dispM [((binM ixD (.sl 1) (.ex (constM (.int 0)))), (constM (.int 0)))]))
    (seqM (setM 4 (constM (.int 0)))
    (seqM (whileM (truB (binM ltD (.sl 4) (.ex (unM lenD (.sl 2))))) (seqM (forM (itM (binM ixD (.ex (callM (c 0) [.ex (binM ixD (.sl 0) (.ex (binM ixD (.sl 2) (.sl 4))))])) (.ex (constM (.int 1))))) (.nm 5) (iteM (truB (binM (inD true) (.ex (binM ixD (.sl 1) (.sl 5))) (.sl 3))) (seqM (setItM 3 (binM ixD (.sl 1) (.sl 5)) (unM lenD (.sl 2)))
    (dropM (growM appD 2 (varM 5)))) nxM))
    (augM addI 4 (constM (.int 1)))))
    (seqM (setM 6 (lstM []))
    (seqM (forM (itM (varM 2)) (.nm 7) (seqM (setM 8 (compM (itM (binM ixD (.ex (callM (c 0) [.ex (binM ixD (.sl 0) (.sl 7))])) (.ex (constM (.int 1))))) (.nm 5) yesM (binM ixD (.sl 3) (.ex (binM ixD (.sl 1) (.sl 5)))) [5]))
    (dropM (growM appD 6 (callM (c 3) [.ex (binM ixD (.sl 0) (.sl 7)), .ex (varM 8)])))))
    (retM (unM toTup (.sl 6))))))))))
/-- _law_tape -/
abbrev N5 : List Str := ["_law_script", "_law_cells", "_law_seed", "_law_cell"]
abbrev p5 : List Str := ["_law_script"]
theorem sc5 : FnScope N5 p5 (defScope (top 7)) := ⟨rfl, rfl, rfl, by decide +kernel, rfl, by decide +kernel, by decide +kernel⟩
noncomputable def b5 (W : World) (c : Nat → FS) : M Fl :=
  (seqM (setM 1 (compM (itM (varM 0)) (.nm 3) yesM (unM absD (.ex (unM toInt (.sl 3)))) [3]))
    (seqM (setM 2 (constM (.int 7)))
    (seqM (forM (itM (varM 1)) (.nm 3) (setM 2 (binM modD (.ex (unM toInt (.ex (binM addD (.ex (binM mulD (.sl 2) (.ex (constM (.int 31))))) (.sl 3))))) (.ex (constM (.int 2147483647))))))
    (retM (dispM [((constM (.str "cells")), (varM 1)), ((constM (.str "at")), (constM (.int 0))), ((constM (.str "left")), (constM (.int 0))), ((constM (.str "seed")), (varM 2)), ((constM (.str "salt")), (constM (.int 0)))])))))
/-- _law_take -/
abbrev N6 : List Str := ["_law_tape_here", "_law_many", "_law_drawn", "_law_mixed"]
abbrev p6 : List Str := ["_law_tape_here", "_law_many"]
theorem sc6 : FnScope N6 p6 (defScope (top 8)) := ⟨rfl, rfl, rfl, by decide +kernel, rfl, by decide +kernel, by decide +kernel⟩
noncomputable def b6 (W : World) (c : Nat → FS) : M Fl :=
  (seqM (iteM (andM (truB (binM (eqS false) (.ex (binM ixD (.sl 0) (.ex (constM (.str "left"))))) (.ex (constM (.int 0))))) (truB (binM ltD (.ex (binM ixD (.sl 0) (.ex (constM (.str "at"))))) (.ex (unM lenD (.ex (binM ixD (.sl 0) (.ex (constM (.str "cells")))))))))) (seqM (setItM 0 (constM (.str "left")) (binM ixD (.ex (binM ixD (.sl 0) (.ex (constM (.str "cells"))))) (.ex (binM ixD (.sl 0) (.ex (constM (.str "at")))))))
    (setItM 0 (constM (.str "at")) (binM addD (.ex (binM ixD (.sl 0) (.ex (constM (.str "at"))))) (.ex (constM (.int 1)))))) nxM)
    (seqM (iteM (truB (binM gtD (.ex (binM ixD (.sl 0) (.ex (constM (.str "left"))))) (.ex (constM (.int 0))))) (seqM (setM 2 (binM modD (.ex (unM toInt (.ex (binM ixD (.sl 0) (.ex (constM (.str "left"))))))) (.sl 1)))
    (seqM (setItM 0 (constM (.str "left")) (binM divD (.ex (binM ixD (.sl 0) (.ex (constM (.str "left"))))) (.sl 1)))
    (retM (moveM 2)))) nxM)
    (seqM (setItM 0 (constM (.str "salt")) (binM addD (.ex (binM ixD (.sl 0) (.ex (constM (.str "salt"))))) (.ex (constM (.int 1)))))
    (seqM (setM 3 (binM modD (.ex (unM toInt (.ex (binM addD (.ex (binM mulD (.ex (binM ixD (.sl 0) (.ex (constM (.str "seed"))))) (.ex (constM (.int 48271))))) (.ex (binM mulD (.ex (binM ixD (.sl 0) (.ex (constM (.str "salt"))))) (.ex (constM (.int 69621))))))))) (.ex (constM (.int 2147483647)))))
    (seqM (setM 3 (binM modD (.ex (unM toInt (.ex (binM addD (.ex (binM addD (.ex (binM mulD (.sl 3) (.sl 3))) (.ex (binM mulD (.ex (binM ixD (.sl 0) (.ex (constM (.str "salt"))))) (.ex (constM (.int 40692))))))) (.ex (constM (.int 12345))))))) (.ex (constM (.int 2147483399)))))
    (retM (binM modD (.ex (unM toInt (.sl 3))) (.sl 1))))))))
/-- _law_is_integer -/
abbrev N7 : List Str := ["_law_actual"]
abbrev p7 : List Str := ["_law_actual"]
theorem sc7 : FnScope N7 p7 (defScope (top 9)) := ⟨rfl, rfl, rfl, by decide +kernel, rfl, by decide +kernel, by decide +kernel⟩
noncomputable def b7 (W : World) (c : Nat → FS) : M Fl :=
  (retM (andV (binM isiD (.sl 0) (.ex (constM (.ty "int")))) (notV (.ex (binM isiD (.sl 0) (.ex (constM (.ty "bool"))))))))
/-- _law_same_items -/
abbrev N8 : List Str := ["_law_actual", "_law_expected", "_law_k"]
abbrev p8 : List Str := ["_law_actual", "_law_expected"]
theorem sc8 : FnScope N8 p8 (defScope (top 10)) := ⟨rfl, rfl, rfl, by decide +kernel, rfl, by decide +kernel, by decide +kernel⟩
noncomputable def b8 (W : World) (c : Nat → FS) : M Fl :=
  (seqM (iteM (truB (binM (eqS true) (.ex (unM lenD (.sl 0))) (.ex (unM lenD (.sl 1))))) (retM (constM (.bl false))) nxM)
    (seqM (forM (rng1M (unM lenD (.sl 1))) (.nm 2) (iteM (notM (truM (.ex (callM (c 9) [.ex (binM ixD (.sl 0) (.sl 2)), .ex (binM ixD (.sl 1) (.sl 2))])))) (retM (constM (.bl false))) nxM))
    (retM (constM (.bl true)))))
/-- _law_same -/
abbrev N9 : List Str := ["_law_actual", "_law_expected", "_law_key"]
abbrev p9 : List Str := ["_law_actual", "_law_expected"]
theorem sc9 : FnScope N9 p9 (defScope (top 11)) := ⟨rfl, rfl, rfl, by decide +kernel, rfl, by decide +kernel, by decide +kernel⟩
noncomputable def b9 (W : World) (c : Nat → FS) : M Fl :=
  (seqM (iteM (truB (binM (isD false) (.sl 1) (.ex (constM .non)))) (retM (binM (isD false) (.sl 0) (.ex (constM .non)))) nxM)
    (seqM (iteM (truM (.ex (binM isiD (.sl 1) (.ex (constM (.ty "bool")))))) (retM (andV (binM isiD (.sl 0) (.ex (constM (.ty "bool")))) (binM (eqS false) (.sl 0) (.sl 1)))) nxM)
    (seqM (iteM (truM (.ex (binM isiD (.sl 1) (.ex (constM (.ty "int")))))) (retM (andV (callM (c 7) [.ex (varM 0)]) (binM (eqS false) (.sl 0) (.sl 1)))) nxM)
    (seqM (iteM (truM (.ex (binM isiD (.sl 1) (.ex (constM (.ty "str")))))) (retM (andV (binM isiD (.sl 0) (.ex (constM (.ty "str")))) (binM (eqS false) (.sl 0) (.sl 1)))) nxM)
    (seqM (iteM (truM (.ex (binM isiD (.sl 1) (.ex (constM (.ty "tuple")))))) (retM (andV (binM isiD (.sl 0) (.ex (constM (.ty "tuple")))) (callM (c 8) [.ex (varM 0), .ex (varM 1)]))) nxM)
    (seqM (iteM (truM (.ex (binM isiD (.sl 1) (.ex (constM (.ty "list")))))) (retM (andV (binM isiD (.sl 0) (.ex (constM (.ty "list")))) (callM (c 8) [.ex (varM 0), .ex (varM 1)]))) nxM)
    (seqM (iteM (orM (notM (truM (.ex (binM isiD (.sl 0) (.ex (constM (.ty "dict"))))))) (truB (binM (eqS true) (.ex (unM lenD (.sl 0))) (.ex (unM lenD (.sl 1)))))) (retM (constM (.bl false))) nxM)
    (seqM (forM (itM (varM 1)) (.nm 2) (iteM (orM (truB (binM (inD true) (.sl 2) (.sl 0))) (notM (truM (.ex (callM (c 9) [.ex (binM ixD (.sl 0) (.sl 2)), .ex (binM ixD (.sl 1) (.sl 2))]))))) (retM (constM (.bl false))) nxM))
    (seqM (forM (itM (varM 0)) (.nm 2) (iteM (truM (.ex (binM isiD (.sl 2) (.ex (constM (.ty "bool")))))) (retM (constM (.bl false))) nxM))
    (retM (constM (.bl true))))))))))))
/-- _law_parts -/
abbrev N10 : List Str := ["_law_state_here", "_law_many", "_law_one"]
abbrev p10 : List Str := ["_law_state_here"]
theorem sc10 : FnScope N10 p10 (defScope (top 12)) := ⟨rfl, rfl, rfl, by decide +kernel, rfl, by decide +kernel, by decide +kernel⟩
noncomputable def b10 (W : World) (c : Nat → FS) : M Fl :=
  (seqM (iteM (truB (binM (eqS false) (.ex (binM ixD (.sl 0) (.ex (constM (.int 0))))) (.ex (constM (.str "end"))))) (retM (tupM [(varM 0), (tupM [])])) nxM)
    (seqM (iteM (truB (binM (eqS false) (.ex (binM ixD (.sl 0) (.ex (constM (.int 0))))) (.ex (constM (.str "get"))))) (retM (tupM [(tupM [(constM (.str "get")), (binM ixD (.sl 0) (.ex (constM (.int 1)))), (unM toTup (.ex (compM (itM (binM ixD (.sl 0) (.ex (constM (.int 2))))) (.nm 2) yesM (sliceM (.sl 2) none (some (.ex (constM (.int 2))))) [2])))]), (unM toTup (.ex (compM (itM (binM ixD (.sl 0) (.ex (constM (.int 2))))) (.nm 2) yesM (binM ixD (.sl 2) (.ex (constM (.int 2)))) [2])))])) nxM)
    (seqM (setM 1 (iteM (truB (binM (inD false) (.ex (binM ixD (.sl 0) (.ex (constM (.int 0))))) (.ex (lstM [(constM (.str "if")), (constM (.str "while"))])))) (constM (.int 2)) (constM (.int 1))))
    (retM (tupM [(sliceM (.sl 0) none (some (.ex (negM (.sl 1))))), (sliceM (.sl 0) (some (.ex (negM (.sl 1)))) none)])))))
/-- _law_alike -/
abbrev N11 : List Str := ["_law_table", "_law_many", "_law_parts_here", "_law_same_here", "_law_turn", "_law_more", "_law_k", "_law_row", "_law_j", "_law_goals", "_law_state_here", "_law_i"]
abbrev p11 : List Str := ["_law_table"]
theorem sc11 : FnScope N11 p11 (defScope (top 13)) := ⟨rfl, rfl, rfl, by decide +kernel, rfl, by decide +kernel, by decide +kernel⟩
noncomputable def b11 (W : World) (c : Nat → FS) : M Fl :=
  (seqM (setM 1 (unM lenD (.sl 0)))
    (seqM (setM 2 (compM (itM (varM 0)) (.nm 10) yesM (callM (c 10) [.ex (varM 10)]) [10]))
    (seqM (setM 3 (compM (rng1M (varM 1)) (.nm 6) yesM (compM (rng1M (varM 1)) (.nm 8) yesM (binM (eqS false) (.ex (binM ixD (.ex (binM ixD (.sl 2) (.sl 6))) (.ex (constM (.int 0))))) (.ex (binM ixD (.ex (binM ixD (.sl 2) (.sl 8))) (.ex (constM (.int 0)))))) [8]) [6]))
    (seqM (forM (rng1M (varM 1)) (.nm 4) (seqM (setM 5 (lstM []))
    (seqM (forM (rng1M (varM 1)) (.nm 6) (seqM (setM 7 (lstM []))
    (seqM (forM (rng1M (varM 1)) (.nm 8) (seqM (setM 9 (iteM (truM (.ex (binM ixD (.ex (binM ixD (.sl 3) (.sl 6))) (.sl 8)))) (compM (rng1M (unM lenD (.ex (binM ixD (.ex (binM ixD (.sl 2) (.sl 6))) (.ex (constM (.int 1))))))) (.nm 11) yesM (binM ixD (.ex (binM ixD (.sl 3) (.ex (binM ixD (.ex (binM ixD (.ex (binM ixD (.sl 2) (.sl 6))) (.ex (constM (.int 1))))) (.sl 11))))) (.ex (binM ixD (.ex (binM ixD (.ex (binM ixD (.sl 2) (.sl 8))) (.ex (constM (.int 1))))) (.sl 11)))) [11]) (lstM [(constM (.bl false))])))
    (dropM (growM appD 7 (unM allD (.sl 9))))))
    (dropM (growM appD 5 (varM 7))))))
    (seqM (iteM (truB (binM (eqS false) (.sl 5) (.sl 3))) (retM (moveM 3)) nxM)
    (setM 3 (varM 5))))))
    (retM (moveM 3))))))
/-- _law_least -/
abbrev N12 : List Str := ["_law_table", "_law_same_here", "_law_heads", "_law_at", "_law_goal", "_law_result", "_law_head", "_law_does", "_law_goals", "_law_numbers", "_law_choices", "_law_one", "_law_k"]
abbrev p12 : List Str := ["_law_table"]
theorem sc12 : FnScope N12 p12 (defScope (top 14)) := ⟨rfl, rfl, rfl, by decide +kernel, rfl, by decide +kernel, by decide +kernel⟩
noncomputable def b12 (W : World) (c : Nat → FS) : M Fl :=
  (seqM (setM 1 (callM (c 11) [.ex (varM 0)]))
    (seqM (setM 2 (lstM [(constM (.int 0))]))
    (seqM (setM 3 (constM (.int 0)))
    (seqM (whileM (truB (binM ltD (.sl 3) (.ex (unM lenD (.sl 2))))) (seqM (forM (itM (binM ixD (.ex (callM (c 10) [.ex (binM ixD (.sl 0) (.ex (binM ixD (.sl 2) (.sl 3))))])) (.ex (constM (.int 1))))) (.nm 4) (iteM (truB (binM (eqS false) (.ex (compO 2 (.nm 11) (truM (.ex (binM ixD (.ex (binM ixD (.sl 1) (.sl 11))) (.sl 4)))) (varM 11) [11])) (.ex (lstM [])))) (dropM (growM appD 2 (varM 4))) nxM))
    (setM 3 (binM addD (.sl 3) (.ex (constM (.int 1)))))))
    (seqM (setM 5 (lstM []))
    (seqM (forM (itM (varM 2)) (.nm 6) (seqM (asgM (.tp [(.nm 7), (.nm 8)]) (callM (c 10) [.ex (binM ixD (.sl 0) (.sl 6))]))
    (seqM (setM 9 (compM (itM (varM 8)) (.nm 4) yesM (binM ixD (.ex (compM (rng1M (unM lenD (.sl 2))) (.nm 12) (truM (.ex (binM ixD (.ex (binM ixD (.sl 1) (.ex (binM ixD (.sl 2) (.sl 12))))) (.sl 4)))) (varM 12) [12])) (.ex (constM (.int 0)))) [4]))
    (iteM (truB (binM (eqS false) (.ex (binM ixD (.sl 7) (.ex (constM (.int 0))))) (.ex (constM (.str "end"))))) (dropM (growM appD 5 (varM 7))) (iteM (truB (binM (eqS false) (.ex (binM ixD (.sl 7) (.ex (constM (.int 0))))) (.ex (constM (.str "get"))))) (seqM (setM 10 (unM toTup (.ex (compM (rng1M (unM lenD (.sl 9))) (.nm 12) yesM (binM addD (.ex (binM ixD (.ex (binM ixD (.sl 7) (.ex (constM (.int 2))))) (.sl 12))) (.ex (tupM [(binM ixD (.sl 9) (.sl 12))]))) [12]))))
    (dropM (growM appD 5 (tupM [(constM (.str "get")), (binM ixD (.sl 7) (.ex (constM (.int 1)))), (varM 10)])))) (dropM (growM appD 5 (binM addD (.sl 7) (.ex (unM toTup (.sl 9)))))))))))
    (retM (unM toTup (.sl 5)))))))))
/-- _law_state -/
abbrev N13 : List Str := ["_law_tape_here", "_law_many", "_law_goal", "_law_other", "_law_value", "_law_choice", "_law_both"]
abbrev p13 : List Str := ["_law_tape_here", "_law_many"]
theorem sc13 : FnScope N13 p13 (defScope (top 15)) := ⟨rfl, rfl, rfl, by decide +kernel, rfl, by decide +kernel, by decide +kernel⟩
noncomputable def b13 (W : World) (c : Nat → FS) : M Fl :=
  (seqM (setM 2 (callM (c 6) [.sl 0, .ex (varM 1)]))
    (seqM (setM 3 (callM (c 6) [.sl 0, .ex (varM 1)]))
    (seqM (setM 4 (tupM [(constM (.str "number")), (callM (c 6) [.sl 0, .ex (constM (.int 2))])]))
    (seqM (setM 5 (callM (c 6) [.sl 0, .ex (constM (.int 7))]))
    (seqM (iteM (truB (binM (eqS false) (.sl 5) (.ex (constM (.int 0))))) (retM (tupM [(constM (.str "end"))])) nxM)
    (seqM (iteM (truB (binM (eqS false) (.sl 5) (.ex (constM (.int 1))))) (retM (tupM [(constM (.str "send")), (constM (.str "b")), (binM ixD (.ex (lstM [(constM (.str "go")), (constM (.str "no"))])) (.ex (callM (c 6) [.sl 0, .ex (constM (.int 2))]))), (varM 4), (varM 2)])) nxM)
    (seqM (iteM (truB (binM (eqS false) (.sl 5) (.ex (constM (.int 2))))) (retM (tupM [(constM (.str "set")), (constM (.str "n")), (varM 4), (varM 2)])) nxM)
    (seqM (iteM (truB (binM (eqS false) (.sl 5) (.ex (constM (.int 3))))) (retM (tupM [(constM (.str "ask")), (constM (.str "n")), (varM 2)])) nxM)
    (seqM (iteM (truB (binM (eqS false) (.sl 5) (.ex (constM (.int 4))))) (retM (tupM [(constM (.str "if")), (varM 4), (varM 2), (varM 3)])) nxM)
    (seqM (iteM (truB (binM (eqS false) (.sl 5) (.ex (constM (.int 5))))) (retM (tupM [(constM (.str "while")), (callM (c 6) [.sl 0, .ex (constM (.int 2))]), (varM 4), (varM 2), (varM 3)])) nxM)
    (seqM (setM 6 (tupM [(tupM [(constM (.str "go")), (constM (.str "n")), (varM 2)]), (tupM [(constM (.str "no")), (constM (.str "n")), (varM 3)])]))
    (retM (tupM [(constM (.str "get")), (constM (.str "b")), (binM ixD (.ex (lstM [(varM 6), (sliceM (.sl 6) none (some (.ex (constM (.int 1))))), (sliceM (.sl 6) (some (.ex (constM (.int 1)))) none)])) (.ex (callM (c 6) [.sl 0, .ex (constM (.int 3))])))])))))))))))))
/-- law -/
abbrev N14 : List Str := ["_law_script", "_law_tape_here", "_law_many", "_law_table", "_law_same_here", "_law_k", "_law_j", "_law_least_here"]
abbrev p14 : List Str := ["_law_script"]
theorem sc14 : FnScope N14 p14 (defScope (top 16)) := ⟨rfl, rfl, rfl, by decide +kernel, rfl, by decide +kernel, by decide +kernel⟩
noncomputable def b14 (W : World) (c : Nat → FS) : M Fl :=
  (seqM (setM 1 (callM (c 5) [.ex (varM 0)]))
    (seqM (setM 2 (binM addD (.ex (constM (.int 1))) (.ex (callM (c 6) [.sl 1, .ex (constM (.int 9))]))))
    (seqM (setM 3 (unM toTup (.ex (compM (rng1M (varM 2)) (.nm 5) yesM (callM (c 13) [.sl 1, .ex (varM 2)]) [5]))))
    (seqM (setM 4 (callM (c 11) [.ex (varM 3)]))
    (seqM (forM (rng1M (varM 2)) (.nm 5) (forM (rng1M (varM 2)) (.nm 6) (iteM (notM (truM (.ex (callM (c 9) [.ex (callM (c 2) [.ex (varM 3), .ex (varM 5), .ex (varM 6)]), .ex (binM ixD (.ex (binM ixD (.sl 4) (.sl 5))) (.sl 6))])))) (retM (constM (.bl false))) nxM)))
    (seqM (setM 7 (callM (c 4) [.ex (varM 3)]))
    (retM (andV (callM (c 9) [.ex (varM 7), .ex (callM (c 12) [.ex (varM 3)])]) (callM (c 9) [.ex (callM (c 4) [.ex (varM 7)]), .ex (varM 7)])))))))))
noncomputable def step (W : World) (c : Nat → FS) : Nat → FS
  | 0 => runF [] 1 6 (b0 W c)
  | 1 => runF [] 1 12 (b1 W c)
  | 2 => runF [] 3 4 (b2 W c)
  | 3 => runF [] 2 4 (b3 W c)
  | 4 => runF [] 1 9 (b4 W c)
  | 5 => runF [] 1 4 (b5 W c)
  | 6 => runF [0] 2 4 (b6 W c)
  | 7 => runF [] 1 1 (b7 W c)
  | 8 => runF [] 2 3 (b8 W c)
  | 9 => runF [] 2 3 (b9 W c)
  | 10 => runF [] 1 3 (b10 W c)
  | 11 => runF [] 1 12 (b11 W c)
  | 12 => runF [] 1 13 (b12 W c)
  | 13 => runF [0] 2 7 (b13 W c)
  | 14 => runF [] 1 8 (b14 W c)
  | _ => stkF
noncomputable def sem (W : World) : Nat → Nat → FS
  | 0 => fun _ => stkF
  | n + 1 => step W (sem W n)
theorem se0 (W : World) (k : Nat) : sem W (k + 1) 0 = runF [] 1 6 (b0 W (sem W k)) := rfl
theorem se1 (W : World) (k : Nat) : sem W (k + 1) 1 = runF [] 1 12 (b1 W (sem W k)) := rfl
theorem se2 (W : World) (k : Nat) : sem W (k + 1) 2 = runF [] 3 4 (b2 W (sem W k)) := rfl
theorem se3 (W : World) (k : Nat) : sem W (k + 1) 3 = runF [] 2 4 (b3 W (sem W k)) := rfl
theorem se4 (W : World) (k : Nat) : sem W (k + 1) 4 = runF [] 1 9 (b4 W (sem W k)) := rfl
theorem se5 (W : World) (k : Nat) : sem W (k + 1) 5 = runF [] 1 4 (b5 W (sem W k)) := rfl
theorem se6 (W : World) (k : Nat) : sem W (k + 1) 6 = runF [0] 2 4 (b6 W (sem W k)) := rfl
theorem se7 (W : World) (k : Nat) : sem W (k + 1) 7 = runF [] 1 1 (b7 W (sem W k)) := rfl
theorem se8 (W : World) (k : Nat) : sem W (k + 1) 8 = runF [] 2 3 (b8 W (sem W k)) := rfl
theorem se9 (W : World) (k : Nat) : sem W (k + 1) 9 = runF [] 2 3 (b9 W (sem W k)) := rfl
theorem se10 (W : World) (k : Nat) : sem W (k + 1) 10 = runF [] 1 3 (b10 W (sem W k)) := rfl
theorem se11 (W : World) (k : Nat) : sem W (k + 1) 11 = runF [] 1 12 (b11 W (sem W k)) := rfl
theorem se12 (W : World) (k : Nat) : sem W (k + 1) 12 = runF [] 1 13 (b12 W (sem W k)) := rfl
theorem se13 (W : World) (k : Nat) : sem W (k + 1) 13 = runF [0] 2 7 (b13 W (sem W k)) := rfl
theorem se14 (W : World) (k : Nat) : sem W (k + 1) 14 = runF [] 1 8 (b14 W (sem W k)) := rfl
section
variable {P : Program} {w : World} {K : PySem.W.Frag} {mg : Str → Option Value} {base : Heap} {c : Nat → FS} {k : Nat}
theorem hu1 {k : Nat} {A : Around} (r : Room k A) : A.units + 1 < cLine := by have := r.un; omega
theorem hu65 {k : Nat} {A : Around} (r : Room k A) : A.units + 65 < cLine := by have := r.un; omega
abbrev FnP (K : PySem.W.Frag) (x : Str) (st : Stmt) (f : Addr) (fd : FuncData) : Prop := FunD K x x (defArgs st) (defBody st) (defScope st) [] [] f fd
/-- parts_of -/
theorem w0 {f : Addr} {fd : FuncData} (F : FnP K "parts_of" (top 1) f fd) (G : Gb K w mg) (TB : Tab P w K mg base (k + 2) c) : FnOk P w K mg base (L2.CX P w) (k + 3) f fd p0 (spF K [] 1 (runF [] 1 6 (b0 w c))) := by
  have nd := sc0.nd
  let sc := defScope (top 1)
  let N := N0
  exact fn_okD (N := N0) (ps := p0) F sc0 (by decide) (by decide) fun cdv A outer s H E hr =>
    (ds_cons (ds_if (dt_cmp (or_eqS hr.units) opd_eqS (de_ix (or_ix (hu1 hr)) opd_ix (pv 0) de_int) de_str (nomark _)) (ds_one (ds_ret (de_tup (da_cons (de_var (pv 0)) (da_cons (de_tup da_nil) da_nil))))) ds_nil)
    (ds_cons (ds_if (dt_cmp (or_eqS hr.units) opd_eqS (de_ix (or_ix (hu1 hr)) opd_ix (pv 0) de_int) de_str (nomark _)) (ds_cons (ds_set (i := 1) (de_t1 call_tuple_of opd_toTup rfl G.b_tuple rfl (dm_comp (pe_lc (own := [("label", 2), ("variable", 3), ("_", 4)]) (g := gT _ (.tp [(.nm 2), (.nm 3), (.nm 4)])) rfl nd (di_it (de_ix (or_ix (hu1 hr)) opd_ix (pv 0) de_int)) (blkOk_by (own := [("label", 2), ("variable", 3), ("_", 4)]) (N := N) (sc := sc) (by decide +kernel)) (fun _ _ _ _ _ => (dg_tup rfl (dgs_cons (dg_name nd) (dgs_cons (dg_name nd) (dgs_cons (dg_name nd) dgs_nil))))) (fun _ _ _ _ _ => dts_nil) (fun _ _ _ _ _ => (de_tup (da_cons (de_var (pv 2)) (da_cons (de_var (pv 3)) da_nil))))))) nd)
    (ds_one (ds_ret (de_tup (da_cons (de_tup (da_cons de_str (da_cons (de_ix (or_ix (hu1 hr)) opd_ix (pv 0) de_int) (da_cons (de_var (pv 1)) da_nil)))) (da_cons (de_t1 call_tuple_of opd_toTup rfl G.b_tuple rfl (dm_comp (pe_lc (own := [("_", 4), ("goal", 5)]) (g := gT _ (.tp [(.nm 4), (.nm 4), (.nm 5)])) rfl nd (di_it (de_ix (or_ix (hu1 hr)) opd_ix (pv 0) de_int)) (blkOk_by (own := [("_", 4), ("goal", 5)]) (N := N) (sc := sc) (by decide +kernel)) (fun _ _ _ _ _ => (dg_tup rfl (dgs_cons (dg_name nd) (dgs_cons (dg_name nd) (dgs_cons (dg_name nd) dgs_nil))))) (fun _ _ _ _ _ => dts_nil) (fun _ _ _ _ _ => (de_var (pv 5)))))) da_nil)))))) ds_nil)
    (ds_cons (ds_if (dt_cmp (or_in (hu65 hr)) opd_in (de_ix (or_ix (hu1 hr)) opd_ix (pv 0) de_int) (de_tup (da_cons de_str (da_cons de_str da_nil))) (by with_unfolding_all rfl)) (ds_one (ds_ret (de_tup (da_cons (de_slice (pv 0) pod_none (pod_some (de_neg de_int))) (da_cons (de_slice (pv 0) (pod_some (de_neg de_int)) pod_none) da_nil))))) ds_nil)
    (ds_one (ds_ret (de_tup (da_cons (de_slice (pv 0) pod_none (pod_some (de_neg de_int))) (da_cons (de_slice (pv 0) (pod_some (de_neg de_int)) pod_none) da_nil))))))))
/-- classes -/
theorem w1 {f : Addr} {fd : FuncData} (F : FnP K "classes" (top 2) f fd) (G : Gb K w mg) (TB : Tab P w K mg base (k + 2) c) : FnOk P w K mg base (L2.CX P w) (k + 3) f fd p1 (spF K [] 1 (runF [] 1 12 (b1 w c))) := by
  have nd := sc1.nd
  let sc := defScope (top 2)
  let N := N1
  exact fn_okD (N := N1) (ps := p1) F sc1 (by decide) (by decide) fun cdv A outer s H E hr =>
    (ds_cons (ds_set (i := 1) (dm_comp (pe_lc (own := [("state", 6)]) (g := gT _ (.nm 6)) rfl nd (di_it (de_var (pv 0))) (blkOk_by (own := [("state", 6)]) (N := N) (sc := sc) (by decide +kernel)) (fun _ _ _ _ _ => (dg_name nd)) (fun _ _ _ _ _ => dts_nil) (fun _ _ _ _ _ => (de_callK TB.t0 hr takes0 (da_cons (de_var (pv 6)) da_nil))))) nd)
    (ds_cons (ds_comp (ps_setLc (i := 2) (own := [("does", 7), ("_", 8)]) (g := gT _ (.tp [(.nm 7), (.nm 8)])) rfl nd rfl rfl (sw_true rfl rfl rfl (by decide +kernel)) (di_it (de_var (pv 1))) (blkOk_by (own := [("does", 7), ("_", 8)]) (N := N) (sc := sc) (by decide +kernel)) (fun _ _ _ _ _ => (dg_tup rfl (dgs_cons (dg_name nd) (dgs_cons (dg_name nd) dgs_nil)))) (fun _ _ _ _ _ => dts_nil) (fun _ _ _ _ _ => (de_tup (da_cons (de_var (pv 7)) (da_cons (de_tup da_nil) da_nil))))))
    (ds_cons (ds_set (i := 3) de_int nd)
    (ds_one (ds_while (passes_of rfl) (dt_tru de_bl) (ds_cons (ds_set (i := 4) de_dictN nd)
    (ds_cons (ds_set (i := 5) (dm_comp (pe_lc (own := [("key", 9)]) (g := gT _ (.nm 9)) rfl nd (di_it (de_var (pv 2))) (blkOk_by (own := [("key", 9)]) (N := N) (sc := sc) (by decide +kernel)) (fun _ _ _ _ _ => (dg_name nd)) (fun _ _ _ _ _ => dts_nil) (fun _ _ _ _ _ => (dm_setd (pe_nsetd (hu65 hr) (pv 4) (de_var (pv 9)) (de_b1 call_lenN opd_lenN rfl G.b_len rfl (pv 4)) ⟨rfl, rfl, rfl, rfl⟩))))) nd)
    (ds_cons (ds_if (dt_cmp (or_eqS hr.units) opd_eqS (de_b1 call_lenN opd_lenN rfl G.b_len rfl (pv 4)) (pv 3) (nomark _)) (ds_one (ds_ret (de_move (pv 5)))) ds_nil)
    (ds_cons (ds_set (i := 3) (de_b1 call_lenN opd_lenN rfl G.b_len rfl (pv 4)) nd)
    (ds_one (ds_comp (ps_setLc (i := 2) (own := [("k", 10)]) (g := gT _ (.nm 10)) rfl nd rfl rfl (sw_true rfl rfl rfl (by decide +kernel)) (di_rng1 rfl G.b_range (de_b1 or_len opd_len rfl G.b_len rfl (pv 0))) (blkOk_by (own := [("k", 10)]) (N := N) (sc := sc) (by decide +kernel)) (fun _ _ _ _ _ => (dg_name nd)) (fun _ _ _ _ _ => dts_nil) (fun _ _ _ _ _ => (de_tup (da_cons (de_ix (or_ix (hu1 hr)) opd_ix (pv 5) (pv 10)) (da_cons (de_t1 call_tuple_of opd_toTup rfl G.b_tuple rfl (dm_comp (pe_lc (own := [("goal", 11)]) (g := gT _ (.nm 11)) rfl nd (di_it (de_ix (or_ix (hu1 hr)) opd_ix (de_ix (or_ix (hu1 hr)) opd_ix (pv 1) (pv 10)) de_int)) (blkOk_in (own := [("goal", 11)]) (N := N) (by decide +kernel)) (fun _ _ _ _ _ => (dg_name nd)) (fun _ _ _ _ _ => dts_nil) (fun _ _ _ _ _ => (de_ix (or_ix (hu1 hr)) opd_ix (pv 5) (pv 11)))))) da_nil))))))))))))))))
/-- alike -/
theorem w2 {f : Addr} {fd : FuncData} (F : FnP K "alike" (top 3) f fd) (G : Gb K w mg) (TB : Tab P w K mg base (k + 2) c) : FnOk P w K mg base (L2.CX P w) (k + 3) f fd p2 (spF K [] 3 (runF [] 3 4 (b2 w c))) := by
  have nd := sc2.nd
  let sc := defScope (top 3)
  let N := N2
  exact fn_okD (N := N2) (ps := p2) F sc2 (by decide) (by decide) fun cdv A outer s H E hr =>
    (ds_cons (ds_set (i := 3) (de_callK TB.t1 hr (takes_of rfl rfl rfl rfl) (da_cons (de_var (pv 0)) da_nil)) nd)
    (ds_one (ds_ret (de_cmp (or_eqS hr.units) opd_eqS (de_ix (or_ix (hu1 hr)) opd_ix (pv 3) (pv 1)) (de_ix (or_ix (hu1 hr)) opd_ix (pv 3) (pv 2)) (nomark _)))))
/-- with_goals -/
theorem w3 {f : Addr} {fd : FuncData} (F : FnP K "with_goals" (top 4) f fd) (G : Gb K w mg) (TB : Tab P w K mg base (k + 2) c) : FnOk P w K mg base (L2.CX P w) (k + 3) f fd p3 (spF K [] 2 (runF [] 2 4 (b3 w c))) := by
  have nd := sc3.nd
  let sc := defScope (top 4)
  let N := N3
  exact fn_okD (N := N3) (ps := p3) F sc3 (by decide) (by decide) fun cdv A outer s H E hr =>
    (ds_cons (ds_if (dt_cmp (or_eqS hr.units) opd_eqS (de_ix (or_ix (hu1 hr)) opd_ix (pv 0) de_int) de_str (nomark _)) (ds_one (ds_ret (de_move (pv 0)))) ds_nil)
    (ds_cons (ds_if (dt_cmp (or_eqS hr.units) opd_eqS (de_ix (or_ix (hu1 hr)) opd_ix (pv 0) de_int) de_str (nomark _)) (ds_one (ds_ret (de_tup (da_cons de_str (da_cons (de_ix (or_ix (hu1 hr)) opd_ix (pv 0) de_int) (da_cons (de_t1 call_tuple_of opd_toTup rfl G.b_tuple rfl (dm_comp (pe_lc (own := [("one", 2), ("goal", 3)]) (g := gT _ (.tp [(.nm 2), (.nm 3)])) rfl nd (di_zip2 rfl G.b_zip (da_cons (de_ix (or_ix (hu1 hr)) opd_ix (pv 0) de_int) (da_cons (de_var (pv 1)) da_nil))) (blkOk_by (own := [("one", 2), ("goal", 3)]) (N := N) (sc := sc) (by decide +kernel)) (fun _ _ _ _ _ => (dg_tup rfl (dgs_cons (dg_name nd) (dgs_cons (dg_name nd) dgs_nil)))) (fun _ _ _ _ _ => dts_nil) (fun _ _ _ _ _ => (de_tup (da_cons (de_ix (or_ix (hu1 hr)) opd_ix (pv 2) de_int) (da_cons (de_ix (or_ix (hu1 hr)) opd_ix (pv 2) de_int) (da_cons (de_var (pv 3)) da_nil)))))))) da_nil)))))) ds_nil)
    (ds_one (ds_ret (de_op or_add opd_add (de_ix (or_ix (hu1 hr)) opd_ix (de_callK TB.t0 hr (takes_of rfl rfl rfl rfl) (da_cons (de_var (pv 0)) da_nil)) de_int) (de_t1 call_tuple_of opd_toTup rfl G.b_tuple rfl (pv 1)))))))
/-- least_table -/
theorem w4 {f : Addr} {fd : FuncData} (F : FnP K "least_table" (top 5) f fd) (G : Gb K w mg) (TB : Tab P w K mg base (k + 2) c) : FnOk P w K mg base (L2.CX P w) (k + 3) f fd p4 (spF K [] 1 (runF [] 1 9 (b4 w c))) := by
  have nd := sc4.nd
  let sc := defScope (top 5)
  let N := N4
  exact fn_okD (N := N4) (ps := p4) F sc4 (by decide) (by decide) fun cdv A outer s H E hr =>
    (ds_cons (ds_set (i := 1) (de_callK TB.t1 hr (takes_of rfl rfl rfl rfl) (da_cons (de_var (pv 0)) da_nil)) nd)
    (ds_cons (ds_set (i := 2) (de_lst (da_cons de_int da_nil)) nd)
    (ds_cons (ds_set (i := 3) (dm_disp (pe_disp (pps_cons (de_ix (or_ix (hu1 hr)) opd_ix (pv 1) de_int) de_int pps_nil) rfl rfl (List.cons_ne_nil _ _) (by decide))) nd)
    (ds_cons (ds_set (i := 4) de_int nd)
    (ds_cons (ds_while (passes_of rfl) (dt_cmp or_lt opd_ord (pv 4) (de_b1 or_len opd_len rfl G.b_len rfl (pv 2)) (nomark _)) (ds_cons (ds_for (passes_of rfl) rfl (di_it (de_ix (or_ix (hu1 hr)) opd_ix (de_callK TB.t0 hr (takes_of rfl rfl rfl rfl) (da_cons (de_ix (or_ix (hu1 hr)) opd_ix (pv 0) (de_ix (or_ix (hu1 hr)) opd_ix (pv 2) (pv 4))) da_nil)) de_int)) (dg_name nd) (ds_one (ds_if (dt_cmp (or_notin (hu65 hr)) opd_in (de_ix (or_ix (hu1 hr)) opd_ix (pv 1) (pv 5)) (pv 3) (by with_unfolding_all rfl)) (ds_cons (ds_setIt (ps_asg (de_b1 or_len opd_len rfl G.b_len rfl (pv 2)) (pg_sub (pv 3) (de_ix (or_ix (hu1 hr)) opd_ix (pv 1) (pv 5)) set_list)) (ps_dput (hu1 hr) (pv 3) (de_ix (or_ix (hu1 hr)) opd_ix (pv 1) (pv 5)) (de_b1 or_len opd_len rfl G.b_len rfl (pv 2)) rfl))
    (ds_one (ds_expr (dm_grow (pe_bm PySem.F.plainAttrs_list PySem.F.slot_list_append PySem.F.type_list_append mt_append (pv 2) (pa_cons (de_var (pv 5)) pa_nil)) grow_app)))) ds_nil)))
    (ds_one (ds_aug (i := 4) ip_addI opd_addI de_int nd))))
    (ds_cons (ds_set (i := 6) (de_lst da_nil) nd)
    (ds_cons (ds_for (passes_of rfl) rfl (di_it (de_var (pv 2))) (dg_name nd) (ds_cons (ds_comp (ps_setLc (i := 8) (own := [("goal", 5)]) (g := gT _ (.nm 5)) rfl nd rfl rfl (sw_true rfl rfl rfl (by decide +kernel)) (di_it (de_ix (or_ix (hu1 hr)) opd_ix (de_callK TB.t0 hr (takes_of rfl rfl rfl rfl) (da_cons (de_ix (or_ix (hu1 hr)) opd_ix (pv 0) (pv 7)) da_nil)) de_int)) (blkOk_by (own := [("goal", 5)]) (N := N) (sc := sc) (by decide +kernel)) (fun _ _ _ _ _ => (dg_name nd)) (fun _ _ _ _ _ => dts_nil) (fun _ _ _ _ _ => (de_ix (or_ix (hu1 hr)) opd_ix (pv 3) (de_ix (or_ix (hu1 hr)) opd_ix (pv 1) (pv 5))))))
    (ds_one (ds_expr (dm_grow (pe_bm PySem.F.plainAttrs_list PySem.F.slot_list_append PySem.F.type_list_append mt_append (pv 6) (pa_cons (de_callK TB.t3 hr (takes_of rfl rfl rfl rfl) (da_cons (de_ix (or_ix (hu1 hr)) opd_ix (pv 0) (pv 7)) (da_cons (de_var (pv 8)) da_nil))) pa_nil)) grow_app)))))
    (ds_one (ds_ret (de_t1 call_tuple_of opd_toTup rfl G.b_tuple rfl (pv 6)))))))))))
/-- _law_tape -/
theorem w5 {f : Addr} {fd : FuncData} (F : FnP K "_law_tape" (top 7) f fd) (G : Gb K w mg) (TB : Tab P w K mg base (k + 2) c) : FnOk P w K mg base (L2.CX P w) (k + 3) f fd p5 (spF K [] 1 (runF [] 1 4 (b5 w c))) := by
  have nd := sc5.nd
  let sc := defScope (top 7)
  let N := N5
  exact fn_okD (N := N5) (ps := p5) F sc5 (by decide) (by decide) fun cdv A outer s H E hr =>
    (ds_cons (ds_comp (ps_setLc (i := 1) (own := [("_law_cell", 3)]) (g := gT _ (.nm 3)) rfl nd rfl rfl (sw_true rfl rfl rfl (by decide +kernel)) (di_it (de_var (pv 0))) (blkOk_by (own := [("_law_cell", 3)]) (N := N) (sc := sc) (by decide +kernel)) (fun _ _ _ _ _ => (dg_name nd)) (fun _ _ _ _ _ => dts_nil) (fun _ _ _ _ _ => (de_b1 call_abs opd_abs rfl G.b_abs rfl (de_t1 call_int1 opd_toInt rfl G.b_int rfl (pv 3))))))
    (ds_cons (ds_set (i := 2) de_int nd)
    (ds_cons (ds_for (passes_of rfl) rfl (di_it (de_var (pv 1))) (dg_name nd) (ds_one (ds_set (i := 2) (de_op op_mod opd_mod (de_t1 call_int1 opd_toInt rfl G.b_int rfl (de_op or_add opd_add (de_op op_mul opd_mul (pv 2) de_int) (pv 3))) de_int) nd)))
    (ds_one (ds_ret (dm_disp (pe_disp (pps_cons de_str (de_var (pv 1)) (pps_cons de_str de_int (pps_cons de_str de_int (pps_cons de_str (de_var (pv 2)) (pps_cons de_str de_int pps_nil))))) rfl rfl (List.cons_ne_nil _ _) (by decide))))))))
/-- _law_take -/
theorem w6 {f : Addr} {fd : FuncData} (F : FnP K "_law_take" (top 8) f fd) (G : Gb K w mg) (TB : Tab P w K mg base (k + 2) c) : FnOk P w K mg base (L2.CX P w) (k + 3) f fd p6 (spF K [0] 2 (runF [0] 2 4 (b6 w c))) := by
  have nd := sc6.nd
  let sc := defScope (top 8)
  let N := N6
  exact fn_okD (N := N6) (ps := p6) F sc6 (by decide) (by decide) fun cdv A outer s H E hr =>
    (ds_cons (ds_if (dt_w (dw_and (dt_cmp (or_eqS hr.units) opd_eqS (de_ix (or_ix (hu1 hr)) opd_ix (pv 0) de_str) de_int (nomark _)) (dw_and1 (dt_cmp or_lt opd_ord (de_ix (or_ix (hu1 hr)) opd_ix (pv 0) de_str) (de_b1 or_len opd_len rfl G.b_len rfl (de_ix (or_ix (hu1 hr)) opd_ix (pv 0) de_str)) (nomark _))))) (ds_cons (ds_setIt (ps_asg (de_ix (or_ix (hu1 hr)) opd_ix (de_ix (or_ix (hu1 hr)) opd_ix (pv 0) de_str) (de_ix (or_ix (hu1 hr)) opd_ix (pv 0) de_str)) (pg_sub (pv 0) de_str set_list)) (ps_dput (hu1 hr) (pv 0) de_str (de_ix (or_ix (hu1 hr)) opd_ix (de_ix (or_ix (hu1 hr)) opd_ix (pv 0) de_str) (de_ix (or_ix (hu1 hr)) opd_ix (pv 0) de_str)) rfl))
    (ds_one (ds_setIt (ps_asg (de_op or_add opd_add (de_ix (or_ix (hu1 hr)) opd_ix (pv 0) de_str) de_int) (pg_sub (pv 0) de_str set_list)) (ps_dput (hu1 hr) (pv 0) de_str (de_op or_add opd_add (de_ix (or_ix (hu1 hr)) opd_ix (pv 0) de_str) de_int) rfl)))) ds_nil)
    (ds_cons (ds_if (dt_cmp or_gt opd_ord (de_ix (or_ix (hu1 hr)) opd_ix (pv 0) de_str) de_int (nomark _)) (ds_cons (ds_set (i := 2) (de_op op_mod opd_mod (de_t1 call_int1 opd_toInt rfl G.b_int rfl (de_ix (or_ix (hu1 hr)) opd_ix (pv 0) de_str)) (pv 1)) nd)
    (ds_cons (ds_setIt (ps_asg (de_op op_fdiv opd_div (de_ix (or_ix (hu1 hr)) opd_ix (pv 0) de_str) (pv 1)) (pg_sub (pv 0) de_str set_list)) (ps_dput (hu1 hr) (pv 0) de_str (de_op op_fdiv opd_div (de_ix (or_ix (hu1 hr)) opd_ix (pv 0) de_str) (pv 1)) rfl))
    (ds_one (ds_ret (de_move (pv 2)))))) ds_nil)
    (ds_cons (ds_setIt (ps_asg (de_op or_add opd_add (de_ix (or_ix (hu1 hr)) opd_ix (pv 0) de_str) de_int) (pg_sub (pv 0) de_str set_list)) (ps_dput (hu1 hr) (pv 0) de_str (de_op or_add opd_add (de_ix (or_ix (hu1 hr)) opd_ix (pv 0) de_str) de_int) rfl))
    (ds_cons (ds_set (i := 3) (de_op op_mod opd_mod (de_t1 call_int1 opd_toInt rfl G.b_int rfl (de_op or_add opd_add (de_op op_mul opd_mul (de_ix (or_ix (hu1 hr)) opd_ix (pv 0) de_str) de_int) (de_op op_mul opd_mul (de_ix (or_ix (hu1 hr)) opd_ix (pv 0) de_str) de_int))) de_int) nd)
    (ds_cons (ds_set (i := 3) (de_op op_mod opd_mod (de_t1 call_int1 opd_toInt rfl G.b_int rfl (de_op or_add opd_add (de_op or_add opd_add (de_op op_mul opd_mul (pv 3) (pv 3)) (de_op op_mul opd_mul (de_ix (or_ix (hu1 hr)) opd_ix (pv 0) de_str) de_int)) de_int)) de_int) nd)
    (ds_one (ds_ret (de_op op_mod opd_mod (de_t1 call_int1 opd_toInt rfl G.b_int rfl (pv 3)) (pv 1)))))))))
/-- _law_is_integer -/
theorem w7 {f : Addr} {fd : FuncData} (F : FnP K "_law_is_integer" (top 9) f fd) (G : Gb K w mg) (TB : Tab P w K mg base (k + 2) c) : FnOk P w K mg base (L2.CX P w) (k + 3) f fd p7 (spF K [] 1 (runF [] 1 1 (b7 w c))) := by
  have nd := sc7.nd
  let sc := defScope (top 9)
  let N := N7
  exact fn_okD (N := N7) (ps := p7) F sc7 (by decide) (by decide) fun cdv A outer s H E hr =>
    (ds_one (ds_ret (de_and (de_b2 call_isi opd_isi rfl G.b_isinstance rfl (pv 0) (de_ty G.b_int)) (de_one (de_not (de_b2 call_isi opd_isi rfl G.b_isinstance rfl (pv 0) (de_ty G.b_bool)))))))
/-- _law_same_items -/
theorem w8 {f : Addr} {fd : FuncData} (F : FnP K "_law_same_items" (top 10) f fd) (G : Gb K w mg) (TB : Tab P w K mg base (k + 2) c) : FnOk P w K mg base (L2.CX P w) (k + 3) f fd p8 (spF K [] 2 (runF [] 2 3 (b8 w c))) := by
  have nd := sc8.nd
  let sc := defScope (top 10)
  let N := N8
  exact fn_okD (N := N8) (ps := p8) F sc8 (by decide) (by decide) fun cdv A outer s H E hr =>
    (ds_cons (ds_if (dt_cmp (or_neS hr.units) opd_neS (de_b1 or_len opd_len rfl G.b_len rfl (pv 0)) (de_b1 or_len opd_len rfl G.b_len rfl (pv 1)) (nomark _)) (ds_one (ds_ret de_bl)) ds_nil)
    (ds_cons (ds_for (passes_of rfl) rfl (di_rng1 rfl G.b_range (de_b1 or_len opd_len rfl G.b_len rfl (pv 1))) (dg_name nd) (ds_one (ds_if (dt_not (dt_tru (de_callK TB.t9 hr (takes_of rfl rfl rfl rfl) (da_cons (de_ix (or_ix (hu1 hr)) opd_ix (pv 0) (pv 2)) (da_cons (de_ix (or_ix (hu1 hr)) opd_ix (pv 1) (pv 2)) da_nil))))) (ds_one (ds_ret de_bl)) ds_nil)))
    (ds_one (ds_ret de_bl))))
/-- _law_same -/
theorem w9 {f : Addr} {fd : FuncData} (F : FnP K "_law_same" (top 11) f fd) (G : Gb K w mg) (TB : Tab P w K mg base (k + 2) c) : FnOk P w K mg base (L2.CX P w) (k + 3) f fd p9 (spF K [] 2 (runF [] 2 3 (b9 w c))) := by
  have nd := sc9.nd
  let sc := defScope (top 11)
  let N := N9
  exact fn_okD (N := N9) (ps := p9) F sc9 (by decide) (by decide) fun cdv A outer s H E hr =>
    (ds_cons (ds_if (dt_cmp op_isN opd_isN (pv 1) de_non (nomark _)) (ds_one (ds_ret (de_cmp op_isN opd_isN (pv 0) de_non (nomark _)))) ds_nil)
    (ds_cons (ds_if (dt_tru (de_b2 call_isi opd_isi rfl G.b_isinstance rfl (pv 1) (de_ty G.b_bool))) (ds_one (ds_ret (de_and (de_b2 call_isi opd_isi rfl G.b_isinstance rfl (pv 0) (de_ty G.b_bool)) (de_one (de_cmp (or_eqS hr.units) opd_eqS (pv 0) (pv 1) (nomark _)))))) ds_nil)
    (ds_cons (ds_if (dt_tru (de_b2 call_isi opd_isi rfl G.b_isinstance rfl (pv 1) (de_ty G.b_int))) (ds_one (ds_ret (de_and (de_callK TB.t7 hr (takes_of rfl rfl rfl rfl) (da_cons (de_var (pv 0)) da_nil)) (de_one (de_cmp (or_eqS hr.units) opd_eqS (pv 0) (pv 1) (nomark _)))))) ds_nil)
    (ds_cons (ds_if (dt_tru (de_b2 call_isi opd_isi rfl G.b_isinstance rfl (pv 1) (de_ty G.b_str))) (ds_one (ds_ret (de_and (de_b2 call_isi opd_isi rfl G.b_isinstance rfl (pv 0) (de_ty G.b_str)) (de_one (de_cmp (or_eqS hr.units) opd_eqS (pv 0) (pv 1) (nomark _)))))) ds_nil)
    (ds_cons (ds_if (dt_tru (de_b2 call_isi opd_isi rfl G.b_isinstance rfl (pv 1) (de_ty G.b_tuple))) (ds_one (ds_ret (de_and (de_b2 call_isi opd_isi rfl G.b_isinstance rfl (pv 0) (de_ty G.b_tuple)) (de_one (de_callK TB.t8 hr (takes_of rfl rfl rfl rfl) (da_cons (de_var (pv 0)) (da_cons (de_var (pv 1)) da_nil))))))) ds_nil)
    (ds_cons (ds_if (dt_tru (de_b2 call_isi opd_isi rfl G.b_isinstance rfl (pv 1) (de_ty G.b_list))) (ds_one (ds_ret (de_and (de_b2 call_isi opd_isi rfl G.b_isinstance rfl (pv 0) (de_ty G.b_list)) (de_one (de_callK TB.t8 hr (takes_of rfl rfl rfl rfl) (da_cons (de_var (pv 0)) (da_cons (de_var (pv 1)) da_nil))))))) ds_nil)
    (ds_cons (ds_if (dt_w (dw_or (dt_not (dt_tru (de_b2 call_isi opd_isi rfl G.b_isinstance rfl (pv 0) (de_ty G.b_dict)))) (dw_or1 (dt_cmp (or_neS hr.units) opd_neS (de_b1 or_len opd_len rfl G.b_len rfl (pv 0)) (de_b1 or_len opd_len rfl G.b_len rfl (pv 1)) (nomark _))))) (ds_one (ds_ret de_bl)) ds_nil)
    (ds_cons (ds_for (passes_of rfl) rfl (di_it (de_var (pv 1))) (dg_name nd) (ds_one (ds_if (dt_w (dw_or (dt_cmp (or_notin (hu65 hr)) opd_in (pv 2) (pv 0) (by with_unfolding_all rfl)) (dw_or1 (dt_not (dt_tru (de_callK TB.t9 hr (takes_of rfl rfl rfl rfl) (da_cons (de_ix (or_ix (hu1 hr)) opd_ix (pv 0) (pv 2)) (da_cons (de_ix (or_ix (hu1 hr)) opd_ix (pv 1) (pv 2)) da_nil)))))))) (ds_one (ds_ret de_bl)) ds_nil)))
    (ds_cons (ds_for (passes_of rfl) rfl (di_it (de_var (pv 0))) (dg_name nd) (ds_one (ds_if (dt_tru (de_b2 call_isi opd_isi rfl G.b_isinstance rfl (pv 2) (de_ty G.b_bool))) (ds_one (ds_ret de_bl)) ds_nil)))
    (ds_one (ds_ret de_bl)))))))))))
/-- _law_parts -/
theorem w10 {f : Addr} {fd : FuncData} (F : FnP K "_law_parts" (top 12) f fd) (G : Gb K w mg) (TB : Tab P w K mg base (k + 2) c) : FnOk P w K mg base (L2.CX P w) (k + 3) f fd p10 (spF K [] 1 (runF [] 1 3 (b10 w c))) := by
  have nd := sc10.nd
  let sc := defScope (top 12)
  let N := N10
  exact fn_okD (N := N10) (ps := p10) F sc10 (by decide) (by decide) fun cdv A outer s H E hr =>
    (ds_cons (ds_if (dt_cmp (or_eqS hr.units) opd_eqS (de_ix (or_ix (hu1 hr)) opd_ix (pv 0) de_int) de_str (nomark _)) (ds_one (ds_ret (de_tup (da_cons (de_var (pv 0)) (da_cons (de_tup da_nil) da_nil))))) ds_nil)
    (ds_cons (ds_if (dt_cmp (or_eqS hr.units) opd_eqS (de_ix (or_ix (hu1 hr)) opd_ix (pv 0) de_int) de_str (nomark _)) (ds_one (ds_ret (de_tup (da_cons (de_tup (da_cons de_str (da_cons (de_ix (or_ix (hu1 hr)) opd_ix (pv 0) de_int) (da_cons (de_t1 call_tuple_of opd_toTup rfl G.b_tuple rfl (dm_comp (pe_lc (own := [("_law_one", 2)]) (g := gT _ (.nm 2)) rfl nd (di_it (de_ix (or_ix (hu1 hr)) opd_ix (pv 0) de_int)) (blkOk_by (own := [("_law_one", 2)]) (N := N) (sc := sc) (by decide +kernel)) (fun _ _ _ _ _ => (dg_name nd)) (fun _ _ _ _ _ => dts_nil) (fun _ _ _ _ _ => (de_slice (pv 2) pod_none (pod_some de_int)))))) da_nil)))) (da_cons (de_t1 call_tuple_of opd_toTup rfl G.b_tuple rfl (dm_comp (pe_lc (own := [("_law_one", 2)]) (g := gT _ (.nm 2)) rfl nd (di_it (de_ix (or_ix (hu1 hr)) opd_ix (pv 0) de_int)) (blkOk_by (own := [("_law_one", 2)]) (N := N) (sc := sc) (by decide +kernel)) (fun _ _ _ _ _ => (dg_name nd)) (fun _ _ _ _ _ => dts_nil) (fun _ _ _ _ _ => (de_ix (or_ix (hu1 hr)) opd_ix (pv 2) de_int))))) da_nil))))) ds_nil)
    (ds_cons (ds_set (i := 1) (de_ite (dt_cmp (or_in (hu65 hr)) opd_in (de_ix (or_ix (hu1 hr)) opd_ix (pv 0) de_int) (de_lst (da_cons de_str (da_cons de_str da_nil))) (by with_unfolding_all rfl)) de_int de_int) nd)
    (ds_one (ds_ret (de_tup (da_cons (de_slice (pv 0) pod_none (pod_some (de_neg (pv 1)))) (da_cons (de_slice (pv 0) (pod_some (de_neg (pv 1))) pod_none) da_nil))))))))
/-- _law_alike -/
theorem w11 {f : Addr} {fd : FuncData} (F : FnP K "_law_alike" (top 13) f fd) (G : Gb K w mg) (TB : Tab P w K mg base (k + 2) c) : FnOk P w K mg base (L2.CX P w) (k + 3) f fd p11 (spF K [] 1 (runF [] 1 12 (b11 w c))) := by
  have nd := sc11.nd
  let sc := defScope (top 13)
  let N := N11
  exact fn_okD (N := N11) (ps := p11) F sc11 (by decide) (by decide) fun cdv A outer s H E hr =>
    (ds_cons (ds_set (i := 1) (de_b1 or_len opd_len rfl G.b_len rfl (pv 0)) nd)
    (ds_cons (ds_set (i := 2) (dm_comp (pe_lc (own := [("_law_state_here", 10)]) (g := gT _ (.nm 10)) rfl nd (di_it (de_var (pv 0))) (blkOk_by (own := [("_law_state_here", 10)]) (N := N) (sc := sc) (by decide +kernel)) (fun _ _ _ _ _ => (dg_name nd)) (fun _ _ _ _ _ => dts_nil) (fun _ _ _ _ _ => (de_callK TB.t10 hr takes0 (da_cons (de_var (pv 10)) da_nil))))) nd)
    (ds_cons (ds_set (i := 3) (dm_comp (pe_lc (own := [("_law_k", 6)]) (g := gT _ (.nm 6)) rfl nd (di_rng1 rfl G.b_range (de_var (pv 1))) (blkOk_by (own := [("_law_k", 6)]) (N := N) (sc := sc) (by decide +kernel)) (fun _ _ _ _ _ => (dg_name nd)) (fun _ _ _ _ _ => dts_nil) (fun _ _ _ _ _ => (dm_comp (pe_lc (own := [("_law_j", 8)]) (g := gT _ (.nm 8)) rfl nd (di_rng1 rfl G.b_range (de_var (pv 1))) (blkOk_in (own := [("_law_j", 8)]) (N := N) (by decide +kernel)) (fun _ _ _ _ _ => (dg_name nd)) (fun _ _ _ _ _ => dts_nil) (fun _ _ _ _ _ => (de_cmp (or_eqS hr.units) opd_eqS (de_ix (or_ix (hu1 hr)) opd_ix (de_ix (or_ix (hu1 hr)) opd_ix (pv 2) (pv 6)) de_int) (de_ix (or_ix (hu1 hr)) opd_ix (de_ix (or_ix (hu1 hr)) opd_ix (pv 2) (pv 8)) de_int) (nomark _)))))))) nd)
    (ds_cons (ds_for (passes_of rfl) rfl (di_rng1 rfl G.b_range (de_var (pv 1))) (dg_name nd) (ds_cons (ds_set (i := 5) (de_lst da_nil) nd)
    (ds_cons (ds_for (passes_of rfl) rfl (di_rng1 rfl G.b_range (de_var (pv 1))) (dg_name nd) (ds_cons (ds_set (i := 7) (de_lst da_nil) nd)
    (ds_cons (ds_for (passes_of rfl) rfl (di_rng1 rfl G.b_range (de_var (pv 1))) (dg_name nd) (ds_cons (ds_set (i := 9) (de_ite (dt_tru (de_ix (or_ix (hu1 hr)) opd_ix (de_ix (or_ix (hu1 hr)) opd_ix (pv 3) (pv 6)) (pv 8))) (dm_comp (pe_lc (own := [("_law_i", 11)]) (g := gT _ (.nm 11)) rfl nd (di_rng1 rfl G.b_range (de_b1 or_len opd_len rfl G.b_len rfl (de_ix (or_ix (hu1 hr)) opd_ix (de_ix (or_ix (hu1 hr)) opd_ix (pv 2) (pv 6)) de_int))) (blkOk_by (own := [("_law_i", 11)]) (N := N) (sc := sc) (by decide +kernel)) (fun _ _ _ _ _ => (dg_name nd)) (fun _ _ _ _ _ => dts_nil) (fun _ _ _ _ _ => (de_ix (or_ix (hu1 hr)) opd_ix (de_ix (or_ix (hu1 hr)) opd_ix (pv 3) (de_ix (or_ix (hu1 hr)) opd_ix (de_ix (or_ix (hu1 hr)) opd_ix (de_ix (or_ix (hu1 hr)) opd_ix (pv 2) (pv 6)) de_int) (pv 11))) (de_ix (or_ix (hu1 hr)) opd_ix (de_ix (or_ix (hu1 hr)) opd_ix (de_ix (or_ix (hu1 hr)) opd_ix (pv 2) (pv 8)) de_int) (pv 11)))))) (de_lst (da_cons de_bl da_nil))) nd)
    (ds_one (ds_expr (dm_grow (pe_bm PySem.F.plainAttrs_list PySem.F.slot_list_append PySem.F.type_list_append mt_append (pv 7) (pa_cons (de_b1 (cr_all rfl) opd_all rfl G.b_all rfl (pv 9)) pa_nil)) grow_app)))))
    (ds_one (ds_expr (dm_grow (pe_bm PySem.F.plainAttrs_list PySem.F.slot_list_append PySem.F.type_list_append mt_append (pv 5) (pa_cons (de_var (pv 7)) pa_nil)) grow_app))))))
    (ds_cons (ds_if (dt_cmp (or_eqS hr.units) opd_eqS (pv 5) (pv 3) (nomark _)) (ds_one (ds_ret (de_move (pv 3)))) ds_nil)
    (ds_one (ds_set (i := 3) (de_var (pv 5)) nd))))))
    (ds_one (ds_ret (de_move (pv 3))))))))
/-- _law_least -/
theorem w12 {f : Addr} {fd : FuncData} (F : FnP K "_law_least" (top 14) f fd) (G : Gb K w mg) (TB : Tab P w K mg base (k + 2) c) : FnOk P w K mg base (L2.CX P w) (k + 3) f fd p12 (spF K [] 1 (runF [] 1 13 (b12 w c))) := by
  have nd := sc12.nd
  let sc := defScope (top 14)
  let N := N12
  exact fn_okD (N := N12) (ps := p12) F sc12 (by decide) (by decide) fun cdv A outer s H E hr =>
    (ds_cons (ds_set (i := 1) (de_callK TB.t11 hr (takes_of rfl rfl rfl rfl) (da_cons (de_var (pv 0)) da_nil)) nd)
    (ds_cons (ds_set (i := 2) (de_lst (da_cons de_int da_nil)) nd)
    (ds_cons (ds_set (i := 3) de_int nd)
    (ds_cons (ds_while (passes_of rfl) (dt_cmp or_lt opd_ord (pv 3) (de_b1 or_len opd_len rfl G.b_len rfl (pv 2)) (nomark _)) (ds_cons (ds_for (passes_of rfl) rfl (di_it (de_ix (or_ix (hu1 hr)) opd_ix (de_callK TB.t10 hr (takes_of rfl rfl rfl rfl) (da_cons (de_ix (or_ix (hu1 hr)) opd_ix (pv 0) (de_ix (or_ix (hu1 hr)) opd_ix (pv 2) (pv 3))) da_nil)) de_int)) (dg_name nd) (ds_one (ds_if (dt_cmp (or_eqS hr.units) opd_eqS (dm_compO (pe_lc (own := [("_law_one", 11)]) (g := gT _ (.nm 11)) rfl nd (di_own (pv 2)) (blkOk_by (own := [("_law_one", 11)]) (N := N) (sc := sc) (by decide +kernel)) (fun _ _ _ _ _ => (dg_name nd)) (fun _ _ _ _ _ => (pts_one (dt_tru (de_ix (or_ix (hu1 hr)) opd_ix (de_ix (or_ix (hu1 hr)) opd_ix (pv 1) (pv 11)) (pv 4))))) (fun _ _ _ _ _ => (de_var (pv 11))))) (de_lst da_nil) (nomark _)) (ds_one (ds_expr (dm_grow (pe_bm PySem.F.plainAttrs_list PySem.F.slot_list_append PySem.F.type_list_append mt_append (pv 2) (pa_cons (de_var (pv 4)) pa_nil)) grow_app))) ds_nil)))
    (ds_one (ds_set (i := 3) (de_op or_add opd_add (pv 3) de_int) nd))))
    (ds_cons (ds_set (i := 5) (de_lst da_nil) nd)
    (ds_cons (ds_for (passes_of rfl) rfl (di_it (de_var (pv 2))) (dg_name nd) (ds_cons (ds_asg (de_callK TB.t10 hr (takes_of rfl rfl rfl rfl) (da_cons (de_ix (or_ix (hu1 hr)) opd_ix (pv 0) (pv 6)) da_nil)) (dg_tup rfl (dgs_cons (dg_name nd) (dgs_cons (dg_name nd) dgs_nil))))
    (ds_cons (ds_set (i := 9) (dm_comp (pe_lc (own := [("_law_goal", 4)]) (g := gT _ (.nm 4)) rfl nd (di_it (de_var (pv 8))) (blkOk_by (own := [("_law_goal", 4)]) (N := N) (sc := sc) (by decide +kernel)) (fun _ _ _ _ _ => (dg_name nd)) (fun _ _ _ _ _ => dts_nil) (fun _ _ _ _ _ => (de_ix (or_ix (hu1 hr)) opd_ix (dm_comp (pe_lc (own := [("_law_k", 12)]) (g := gT _ (.nm 12)) rfl nd (di_rng1 rfl G.b_range (de_b1 or_len opd_len rfl G.b_len rfl (pv 2))) (blkOk_in (own := [("_law_k", 12)]) (N := N) (by decide +kernel)) (fun _ _ _ _ _ => (dg_name nd)) (fun _ _ _ _ _ => (pts_one (dt_tru (de_ix (or_ix (hu1 hr)) opd_ix (de_ix (or_ix (hu1 hr)) opd_ix (pv 1) (de_ix (or_ix (hu1 hr)) opd_ix (pv 2) (pv 12))) (pv 4))))) (fun _ _ _ _ _ => (de_var (pv 12))))) de_int)))) nd)
    (ds_one (ds_if (dt_cmp (or_eqS hr.units) opd_eqS (de_ix (or_ix (hu1 hr)) opd_ix (pv 7) de_int) de_str (nomark _)) (ds_one (ds_expr (dm_grow (pe_bm PySem.F.plainAttrs_list PySem.F.slot_list_append PySem.F.type_list_append mt_append (pv 5) (pa_cons (de_var (pv 7)) pa_nil)) grow_app))) (ds_one (ds_if (dt_cmp (or_eqS hr.units) opd_eqS (de_ix (or_ix (hu1 hr)) opd_ix (pv 7) de_int) de_str (nomark _)) (ds_cons (ds_set (i := 10) (de_t1 call_tuple_of opd_toTup rfl G.b_tuple rfl (dm_comp (pe_lc (own := [("_law_k", 12)]) (g := gT _ (.nm 12)) rfl nd (di_rng1 rfl G.b_range (de_b1 or_len opd_len rfl G.b_len rfl (pv 9))) (blkOk_by (own := [("_law_k", 12)]) (N := N) (sc := sc) (by decide +kernel)) (fun _ _ _ _ _ => (dg_name nd)) (fun _ _ _ _ _ => dts_nil) (fun _ _ _ _ _ => (de_op or_add opd_add (de_ix (or_ix (hu1 hr)) opd_ix (de_ix (or_ix (hu1 hr)) opd_ix (pv 7) de_int) (pv 12)) (de_tup (da_cons (de_ix (or_ix (hu1 hr)) opd_ix (pv 9) (pv 12)) da_nil))))))) nd)
    (ds_one (ds_expr (dm_grow (pe_bm PySem.F.plainAttrs_list PySem.F.slot_list_append PySem.F.type_list_append mt_append (pv 5) (pa_cons (de_tup (da_cons de_str (da_cons (de_ix (or_ix (hu1 hr)) opd_ix (pv 7) de_int) (da_cons (de_var (pv 10)) da_nil)))) pa_nil)) grow_app)))) (ds_one (ds_expr (dm_grow (pe_bm PySem.F.plainAttrs_list PySem.F.slot_list_append PySem.F.type_list_append mt_append (pv 5) (pa_cons (de_op or_add opd_add (pv 7) (de_t1 call_tuple_of opd_toTup rfl G.b_tuple rfl (pv 9))) pa_nil)) grow_app))))))))))
    (ds_one (ds_ret (de_t1 call_tuple_of opd_toTup rfl G.b_tuple rfl (pv 5))))))))))
/-- _law_state -/
theorem w13 {f : Addr} {fd : FuncData} (F : FnP K "_law_state" (top 15) f fd) (G : Gb K w mg) (TB : Tab P w K mg base (k + 2) c) : FnOk P w K mg base (L2.CX P w) (k + 3) f fd p13 (spF K [0] 2 (runF [0] 2 7 (b13 w c))) := by
  have nd := sc13.nd
  let sc := defScope (top 15)
  let N := N13
  exact fn_okD (N := N13) (ps := p13) F sc13 (by decide) (by decide) fun cdv A outer s H E hr =>
    (ds_cons (ds_set (i := 2) (de_callK TB.t6 hr (takes_of rfl rfl rfl rfl) (da_cons (pv 0) (da_cons (de_var (pv 1)) da_nil))) nd)
    (ds_cons (ds_set (i := 3) (de_callK TB.t6 hr (takes_of rfl rfl rfl rfl) (da_cons (pv 0) (da_cons (de_var (pv 1)) da_nil))) nd)
    (ds_cons (ds_set (i := 4) (de_tup (da_cons de_str (da_cons (de_callK TB.t6 hr (takes_of rfl rfl rfl rfl) (da_cons (pv 0) (da_cons de_int da_nil))) da_nil))) nd)
    (ds_cons (ds_set (i := 5) (de_callK TB.t6 hr (takes_of rfl rfl rfl rfl) (da_cons (pv 0) (da_cons de_int da_nil))) nd)
    (ds_cons (ds_if (dt_cmp (or_eqS hr.units) opd_eqS (pv 5) de_int (nomark _)) (ds_one (ds_ret (de_tup (da_cons de_str da_nil)))) ds_nil)
    (ds_cons (ds_if (dt_cmp (or_eqS hr.units) opd_eqS (pv 5) de_int (nomark _)) (ds_one (ds_ret (de_tup (da_cons de_str (da_cons de_str (da_cons (de_ix (or_ix (hu1 hr)) opd_ix (de_lst (da_cons de_str (da_cons de_str da_nil))) (de_callK TB.t6 hr (takes_of rfl rfl rfl rfl) (da_cons (pv 0) (da_cons de_int da_nil)))) (da_cons (de_var (pv 4)) (da_cons (de_var (pv 2)) da_nil)))))))) ds_nil)
    (ds_cons (ds_if (dt_cmp (or_eqS hr.units) opd_eqS (pv 5) de_int (nomark _)) (ds_one (ds_ret (de_tup (da_cons de_str (da_cons de_str (da_cons (de_var (pv 4)) (da_cons (de_var (pv 2)) da_nil))))))) ds_nil)
    (ds_cons (ds_if (dt_cmp (or_eqS hr.units) opd_eqS (pv 5) de_int (nomark _)) (ds_one (ds_ret (de_tup (da_cons de_str (da_cons de_str (da_cons (de_var (pv 2)) da_nil)))))) ds_nil)
    (ds_cons (ds_if (dt_cmp (or_eqS hr.units) opd_eqS (pv 5) de_int (nomark _)) (ds_one (ds_ret (de_tup (da_cons de_str (da_cons (de_var (pv 4)) (da_cons (de_var (pv 2)) (da_cons (de_var (pv 3)) da_nil))))))) ds_nil)
    (ds_cons (ds_if (dt_cmp (or_eqS hr.units) opd_eqS (pv 5) de_int (nomark _)) (ds_one (ds_ret (de_tup (da_cons de_str (da_cons (de_callK TB.t6 hr (takes_of rfl rfl rfl rfl) (da_cons (pv 0) (da_cons de_int da_nil))) (da_cons (de_var (pv 4)) (da_cons (de_var (pv 2)) (da_cons (de_var (pv 3)) da_nil)))))))) ds_nil)
    (ds_cons (ds_set (i := 6) (de_tup (da_cons (de_tup (da_cons de_str (da_cons de_str (da_cons (de_var (pv 2)) da_nil)))) (da_cons (de_tup (da_cons de_str (da_cons de_str (da_cons (de_var (pv 3)) da_nil)))) da_nil))) nd)
    (ds_one (ds_ret (de_tup (da_cons de_str (da_cons de_str (da_cons (de_ix (or_ix (hu1 hr)) opd_ix (de_lst (da_cons (de_var (pv 6)) (da_cons (de_slice (pv 6) pod_none (pod_some de_int)) (da_cons (de_slice (pv 6) (pod_some de_int) pod_none) da_nil)))) (de_callK TB.t6 hr (takes_of rfl rfl rfl rfl) (da_cons (pv 0) (da_cons de_int da_nil)))) da_nil)))))))))))))))))
/-- law -/
theorem w14 {f : Addr} {fd : FuncData} (F : FnP K "law" (top 16) f fd) (G : Gb K w mg) (TB : Tab P w K mg base (k + 2) c) : FnOk P w K mg base (L2.CX P w) (k + 3) f fd p14 (spF K [] 1 (runF [] 1 8 (b14 w c))) := by
  have nd := sc14.nd
  let sc := defScope (top 16)
  let N := N14
  exact fn_okD (N := N14) (ps := p14) F sc14 (by decide) (by decide) fun cdv A outer s H E hr =>
    (ds_cons (ds_set (i := 1) (de_callK TB.t5 hr (takes_of rfl rfl rfl rfl) (da_cons (de_var (pv 0)) da_nil)) nd)
    (ds_cons (ds_set (i := 2) (de_op or_add opd_add de_int (de_callK TB.t6 hr (takes_of rfl rfl rfl rfl) (da_cons (pv 1) (da_cons de_int da_nil)))) nd)
    (ds_cons (ds_set (i := 3) (de_t1 call_tuple_of opd_toTup rfl G.b_tuple rfl (dm_comp (pe_lc (own := [("_law_k", 5)]) (g := gT _ (.nm 5)) rfl nd (di_rng1 rfl G.b_range (de_var (pv 2))) (blkOk_by (own := [("_law_k", 5)]) (N := N) (sc := sc) (by decide +kernel)) (fun _ _ _ _ _ => (dg_name nd)) (fun _ _ _ _ _ => dts_nil) (fun _ _ _ _ _ => (de_callK TB.t13 hr takes0 (da_cons (pv 1) (da_cons (de_var (pv 2)) da_nil))))))) nd)
    (ds_cons (ds_set (i := 4) (de_callK TB.t11 hr (takes_of rfl rfl rfl rfl) (da_cons (de_var (pv 3)) da_nil)) nd)
    (ds_cons (ds_for (passes_of rfl) rfl (di_rng1 rfl G.b_range (de_var (pv 2))) (dg_name nd) (ds_one (ds_for (passes_of rfl) rfl (di_rng1 rfl G.b_range (de_var (pv 2))) (dg_name nd) (ds_one (ds_if (dt_not (dt_tru (de_callK TB.t9 hr (takes_of rfl rfl rfl rfl) (da_cons (de_callK TB.t2 hr (takes_of rfl rfl rfl rfl) (da_cons (de_var (pv 3)) (da_cons (de_var (pv 5)) (da_cons (de_var (pv 6)) da_nil)))) (da_cons (de_ix (or_ix (hu1 hr)) opd_ix (de_ix (or_ix (hu1 hr)) opd_ix (pv 4) (pv 5)) (pv 6)) da_nil))))) (ds_one (ds_ret de_bl)) ds_nil)))))
    (ds_cons (ds_set (i := 7) (de_callK TB.t4 hr (takes_of rfl rfl rfl rfl) (da_cons (de_var (pv 3)) da_nil)) nd)
    (ds_one (ds_ret (de_and (de_callK TB.t9 hr (takes_of rfl rfl rfl rfl) (da_cons (de_var (pv 7)) (da_cons (de_callK TB.t12 hr (takes_of rfl rfl rfl rfl) (da_cons (de_var (pv 3)) da_nil)) da_nil))) (de_one (de_callK TB.t9 hr (takes_of rfl rfl rfl rfl) (da_cons (de_callK TB.t4 hr (takes_of rfl rfl rfl rfl) (da_cons (de_var (pv 7)) da_nil)) (da_cons (de_var (pv 7)) da_nil)))))))))))))
/-- where the defs stand -/
structure Df (K : PySem.W.Frag) (mg : Str → Option Value) : Prop where
  f0 : ∃ (f : Addr) (fd : FuncData), mg "parts_of" = some (.ref f) ∧ FnP K "parts_of" (top 1) f fd
  f1 : ∃ (f : Addr) (fd : FuncData), mg "classes" = some (.ref f) ∧ FnP K "classes" (top 2) f fd
  f2 : ∃ (f : Addr) (fd : FuncData), mg "alike" = some (.ref f) ∧ FnP K "alike" (top 3) f fd
  f3 : ∃ (f : Addr) (fd : FuncData), mg "with_goals" = some (.ref f) ∧ FnP K "with_goals" (top 4) f fd
  f4 : ∃ (f : Addr) (fd : FuncData), mg "least_table" = some (.ref f) ∧ FnP K "least_table" (top 5) f fd
  f5 : ∃ (f : Addr) (fd : FuncData), mg "_law_tape" = some (.ref f) ∧ FnP K "_law_tape" (top 7) f fd
  f6 : ∃ (f : Addr) (fd : FuncData), mg "_law_take" = some (.ref f) ∧ FnP K "_law_take" (top 8) f fd
  f7 : ∃ (f : Addr) (fd : FuncData), mg "_law_is_integer" = some (.ref f) ∧ FnP K "_law_is_integer" (top 9) f fd
  f8 : ∃ (f : Addr) (fd : FuncData), mg "_law_same_items" = some (.ref f) ∧ FnP K "_law_same_items" (top 10) f fd
  f9 : ∃ (f : Addr) (fd : FuncData), mg "_law_same" = some (.ref f) ∧ FnP K "_law_same" (top 11) f fd
  f10 : ∃ (f : Addr) (fd : FuncData), mg "_law_parts" = some (.ref f) ∧ FnP K "_law_parts" (top 12) f fd
  f11 : ∃ (f : Addr) (fd : FuncData), mg "_law_alike" = some (.ref f) ∧ FnP K "_law_alike" (top 13) f fd
  f12 : ∃ (f : Addr) (fd : FuncData), mg "_law_least" = some (.ref f) ∧ FnP K "_law_least" (top 14) f fd
  f13 : ∃ (f : Addr) (fd : FuncData), mg "_law_state" = some (.ref f) ∧ FnP K "_law_state" (top 15) f fd
  f14 : ∃ (f : Addr) (fd : FuncData), mg "law" = some (.ref f) ∧ FnP K "law" (top 16) f fd
theorem bi0 {f : Addr} {fd : FuncData} (F : FnP K "parts_of" (top 1) f fd) : Binds K fd p0 [] := F.bindsN fun _ _ _ _ _ _ us hl => match us, hl with | [_], _ => rfl
theorem bi1 {f : Addr} {fd : FuncData} (F : FnP K "classes" (top 2) f fd) : Binds K fd p1 [] := F.bindsN fun _ _ _ _ _ _ us hl => match us, hl with | [_], _ => rfl
theorem bi2 {f : Addr} {fd : FuncData} (F : FnP K "alike" (top 3) f fd) : Binds K fd p2 [] := F.bindsN fun _ _ _ _ _ _ us hl => match us, hl with | [_, _, _], _ => rfl
theorem bi3 {f : Addr} {fd : FuncData} (F : FnP K "with_goals" (top 4) f fd) : Binds K fd p3 [] := F.bindsN fun _ _ _ _ _ _ us hl => match us, hl with | [_, _], _ => rfl
theorem bi4 {f : Addr} {fd : FuncData} (F : FnP K "least_table" (top 5) f fd) : Binds K fd p4 [] := F.bindsN fun _ _ _ _ _ _ us hl => match us, hl with | [_], _ => rfl
theorem bi5 {f : Addr} {fd : FuncData} (F : FnP K "_law_tape" (top 7) f fd) : Binds K fd p5 [] := F.bindsN fun _ _ _ _ _ _ us hl => match us, hl with | [_], _ => rfl
theorem bi6 {f : Addr} {fd : FuncData} (F : FnP K "_law_take" (top 8) f fd) : Binds K fd p6 [] := F.bindsN fun _ _ _ _ _ _ us hl => match us, hl with | [_, _], _ => rfl
theorem bi7 {f : Addr} {fd : FuncData} (F : FnP K "_law_is_integer" (top 9) f fd) : Binds K fd p7 [] := F.bindsN fun _ _ _ _ _ _ us hl => match us, hl with | [_], _ => rfl
theorem bi8 {f : Addr} {fd : FuncData} (F : FnP K "_law_same_items" (top 10) f fd) : Binds K fd p8 [] := F.bindsN fun _ _ _ _ _ _ us hl => match us, hl with | [_, _], _ => rfl
theorem bi9 {f : Addr} {fd : FuncData} (F : FnP K "_law_same" (top 11) f fd) : Binds K fd p9 [] := F.bindsN fun _ _ _ _ _ _ us hl => match us, hl with | [_, _], _ => rfl
theorem bi10 {f : Addr} {fd : FuncData} (F : FnP K "_law_parts" (top 12) f fd) : Binds K fd p10 [] := F.bindsN fun _ _ _ _ _ _ us hl => match us, hl with | [_], _ => rfl
theorem bi11 {f : Addr} {fd : FuncData} (F : FnP K "_law_alike" (top 13) f fd) : Binds K fd p11 [] := F.bindsN fun _ _ _ _ _ _ us hl => match us, hl with | [_], _ => rfl
theorem bi12 {f : Addr} {fd : FuncData} (F : FnP K "_law_least" (top 14) f fd) : Binds K fd p12 [] := F.bindsN fun _ _ _ _ _ _ us hl => match us, hl with | [_], _ => rfl
theorem bi13 {f : Addr} {fd : FuncData} (F : FnP K "_law_state" (top 15) f fd) : Binds K fd p13 [] := F.bindsN fun _ _ _ _ _ _ us hl => match us, hl with | [_, _], _ => rfl
theorem bi14 {f : Addr} {fd : FuncData} (F : FnP K "law" (top 16) f fd) : Binds K fd p14 [] := F.bindsN fun _ _ _ _ _ _ us hl => match us, hl with | [_], _ => rfl
theorem tab (D : Df K mg) (G : Gb K w mg) : ∀ k : Nat, Tab P w K mg base (k + 2) (sem w k)
  | 0 => by
    obtain ⟨f0, fd0, e0, F0⟩ := D.f0
    obtain ⟨f1, fd1, e1, F1⟩ := D.f1
    obtain ⟨f2, fd2, e2, F2⟩ := D.f2
    obtain ⟨f3, fd3, e3, F3⟩ := D.f3
    obtain ⟨f4, fd4, e4, F4⟩ := D.f4
    obtain ⟨f5, fd5, e5, F5⟩ := D.f5
    obtain ⟨f6, fd6, e6, F6⟩ := D.f6
    obtain ⟨f7, fd7, e7, F7⟩ := D.f7
    obtain ⟨f8, fd8, e8, F8⟩ := D.f8
    obtain ⟨f9, fd9, e9, F9⟩ := D.f9
    obtain ⟨f10, fd10, e10, F10⟩ := D.f10
    obtain ⟨f11, fd11, e11, F11⟩ := D.f11
    obtain ⟨f12, fd12, e12, F12⟩ := D.f12
    obtain ⟨f13, fd13, e13, F13⟩ := D.f13
    obtain ⟨f14, fd14, e14, F14⟩ := D.f14
    exact ⟨Kn.zero e0 F0.kp (bi0 F0), Kn.zero e1 F1.kp (bi1 F1), Kn.zero e2 F2.kp (bi2 F2), Kn.zero e3 F3.kp (bi3 F3), Kn.zero e4 F4.kp (bi4 F4), Kn.zero e5 F5.kp (bi5 F5), Kn.zero e6 F6.kp (bi6 F6), Kn.zero e7 F7.kp (bi7 F7), Kn.zero e8 F8.kp (bi8 F8), Kn.zero e9 F9.kp (bi9 F9), Kn.zero e10 F10.kp (bi10 F10), Kn.zero e11 F11.kp (bi11 F11), Kn.zero e12 F12.kp (bi12 F12), Kn.zero e13 F13.kp (bi13 F13), Kn.zero e14 F14.kp (bi14 F14)⟩
  | k + 1 => by
    have T := tab D G k
    obtain ⟨f0, fd0, e0, F0⟩ := D.f0
    obtain ⟨f1, fd1, e1, F1⟩ := D.f1
    obtain ⟨f2, fd2, e2, F2⟩ := D.f2
    obtain ⟨f3, fd3, e3, F3⟩ := D.f3
    obtain ⟨f4, fd4, e4, F4⟩ := D.f4
    obtain ⟨f5, fd5, e5, F5⟩ := D.f5
    obtain ⟨f6, fd6, e6, F6⟩ := D.f6
    obtain ⟨f7, fd7, e7, F7⟩ := D.f7
    obtain ⟨f8, fd8, e8, F8⟩ := D.f8
    obtain ⟨f9, fd9, e9, F9⟩ := D.f9
    obtain ⟨f10, fd10, e10, F10⟩ := D.f10
    obtain ⟨f11, fd11, e11, F11⟩ := D.f11
    obtain ⟨f12, fd12, e12, F12⟩ := D.f12
    obtain ⟨f13, fd13, e13, F13⟩ := D.f13
    obtain ⟨f14, fd14, e14, F14⟩ := D.f14
    exact ⟨⟨f0, fd0, e0, F0.kp, bi0 F0, w0 F0 G T⟩, ⟨f1, fd1, e1, F1.kp, bi1 F1, w1 F1 G T⟩, ⟨f2, fd2, e2, F2.kp, bi2 F2, w2 F2 G T⟩, ⟨f3, fd3, e3, F3.kp, bi3 F3, w3 F3 G T⟩, ⟨f4, fd4, e4, F4.kp, bi4 F4, w4 F4 G T⟩, ⟨f5, fd5, e5, F5.kp, bi5 F5, w5 F5 G T⟩, ⟨f6, fd6, e6, F6.kp, bi6 F6, w6 F6 G T⟩, ⟨f7, fd7, e7, F7.kp, bi7 F7, w7 F7 G T⟩, ⟨f8, fd8, e8, F8.kp, bi8 F8, w8 F8 G T⟩, ⟨f9, fd9, e9, F9.kp, bi9 F9, w9 F9 G T⟩, ⟨f10, fd10, e10, F10.kp, bi10 F10, w10 F10 G T⟩, ⟨f11, fd11, e11, F11.kp, bi11 F11, w11 F11 G T⟩, ⟨f12, fd12, e12, F12.kp, bi12 F12, w12 F12 G T⟩, ⟨f13, fd13, e13, F13.kp, bi13 F13, w13 F13 G T⟩, ⟨f14, fd14, e14, F14.kp, bi14 F14, w14 F14 G T⟩⟩
end
def dd0 : He.DefD := ⟨("parts_of", none), "parts_of", "parts_of", defArgs (top 1), defBody (top 1), defScope (top 1), [], []⟩
def dd1 : He.DefD := ⟨("classes", none), "classes", "classes", defArgs (top 2), defBody (top 2), defScope (top 2), [], []⟩
def dd2 : He.DefD := ⟨("alike", none), "alike", "alike", defArgs (top 3), defBody (top 3), defScope (top 3), [], []⟩
def dd3 : He.DefD := ⟨("with_goals", none), "with_goals", "with_goals", defArgs (top 4), defBody (top 4), defScope (top 4), [], []⟩
def dd4 : He.DefD := ⟨("least_table", none), "least_table", "least_table", defArgs (top 5), defBody (top 5), defScope (top 5), [], []⟩
def dd5 : He.DefD := ⟨("_law_tape", none), "_law_tape", "_law_tape", defArgs (top 7), defBody (top 7), defScope (top 7), [], []⟩
def dd6 : He.DefD := ⟨("_law_take", none), "_law_take", "_law_take", defArgs (top 8), defBody (top 8), defScope (top 8), [], []⟩
def dd7 : He.DefD := ⟨("_law_is_integer", none), "_law_is_integer", "_law_is_integer", defArgs (top 9), defBody (top 9), defScope (top 9), [], []⟩
def dd8 : He.DefD := ⟨("_law_same_items", none), "_law_same_items", "_law_same_items", defArgs (top 10), defBody (top 10), defScope (top 10), [], []⟩
def dd9 : He.DefD := ⟨("_law_same", none), "_law_same", "_law_same", defArgs (top 11), defBody (top 11), defScope (top 11), [], []⟩
def dd10 : He.DefD := ⟨("_law_parts", none), "_law_parts", "_law_parts", defArgs (top 12), defBody (top 12), defScope (top 12), [], []⟩
def dd11 : He.DefD := ⟨("_law_alike", none), "_law_alike", "_law_alike", defArgs (top 13), defBody (top 13), defScope (top 13), [], []⟩
def dd12 : He.DefD := ⟨("_law_least", none), "_law_least", "_law_least", defArgs (top 14), defBody (top 14), defScope (top 14), [], []⟩
def dd13 : He.DefD := ⟨("_law_state", none), "_law_state", "_law_state", defArgs (top 15), defBody (top 15), defScope (top 15), [], []⟩
def dd14 : He.DefD := ⟨("law", none), "law", "law", defArgs (top 16), defBody (top 16), defScope (top 16), [], []⟩
def fn : List He.DefD := [dd0, dd1, dd2, dd3, dd4, dd5, dd6, dd7, dd8, dd9, dd10, dd11, dd12, dd13, dd14]
def fa : List He.Fa := [.glo "parts_of", .glo "classes", .glo "alike", .glo "with_goals", .glo "least_table", .glo "_law_tape", .glo "_law_take", .glo "_law_is_integer", .glo "_law_same_items", .glo "_law_same", .glo "_law_parts", .glo "_law_alike", .glo "_law_least", .glo "_law_state", .glo "law", .free "abs", .free "all", .free "bool", .free "dict", .free "int", .free "isinstance", .free "len", .free "list", .free "range", .free "str", .free "tuple", .free "zip"]
def ex (K : PySem.W.Frag) : Bool := true
def ts : List He.Tab := []
abbrev R : PySem.W.OpenRow := PySem.W.OpenLaw.row PySem.Challenge.rw_onescore_k11_least_tables
abbrev hk : PySem.W.Hook := He.hookX 4 fa fn ts [] ex
def ob (s : PySem.W.SharedT) : He.AlX := He.obsX 4 fa fn ts [] ex (HandSHeadRun.getT s)
theorem ob_eq (s : PySem.W.SharedT) : ob s = hk.obs s.abs := He.obsX_eq (HandSHeadRun.getT_eq s)
def lo0 : List PySem.Str := ["parts_of", "classes", "alike", "with_goals", "least_table", "_law_tape", "_law_take", "_law_is_integer", "_law_same_items", "_law_same", "_law_parts", "_law_alike", "_law_least", "_law_state"]
def loose : List PySem.Str := lo0
theorem run (w : World) : HandSHeadRun.RunEq R (PySem.W.view R.prog [16]) hk ob 1080 loose w := by
  intro os
  kernel_rfl
theorem facts {P : Program} {w : World} {K : PySem.W.Frag} {h : Heap} {mg : Str → Option Value} (X : K.In h) (G : h.Ns mainGlobals mg) (c : He.SaysX fa fn ts [] ex w h K) : Df K mg ∧ Gb K w mg := by
  have cd := c.t.d
  have hx := c.more
  refine ⟨⟨?_, ?_, ?_, ?_, ?_, ?_, ?_, ?_, ?_, ?_, ?_, ?_, ?_, ?_, ?_⟩, ⟨?_, ?_, ?_, ?_, ?_, ?_, ?_, ?_, ?_, ?_, ?_, ?_⟩⟩
  · obtain ⟨fd, F⟩ := cd.def_ 0 (d := dd0) rfl
    exact ⟨_, fd, He.glo_ok X G (cd.fact 0 (f := .glo "parts_of") rfl), F⟩
  · obtain ⟨fd, F⟩ := cd.def_ 1 (d := dd1) rfl
    exact ⟨_, fd, He.glo_ok X G (cd.fact 1 (f := .glo "classes") rfl), F⟩
  · obtain ⟨fd, F⟩ := cd.def_ 2 (d := dd2) rfl
    exact ⟨_, fd, He.glo_ok X G (cd.fact 2 (f := .glo "alike") rfl), F⟩
  · obtain ⟨fd, F⟩ := cd.def_ 3 (d := dd3) rfl
    exact ⟨_, fd, He.glo_ok X G (cd.fact 3 (f := .glo "with_goals") rfl), F⟩
  · obtain ⟨fd, F⟩ := cd.def_ 4 (d := dd4) rfl
    exact ⟨_, fd, He.glo_ok X G (cd.fact 4 (f := .glo "least_table") rfl), F⟩
  · obtain ⟨fd, F⟩ := cd.def_ 5 (d := dd5) rfl
    exact ⟨_, fd, He.glo_ok X G (cd.fact 5 (f := .glo "_law_tape") rfl), F⟩
  · obtain ⟨fd, F⟩ := cd.def_ 6 (d := dd6) rfl
    exact ⟨_, fd, He.glo_ok X G (cd.fact 6 (f := .glo "_law_take") rfl), F⟩
  · obtain ⟨fd, F⟩ := cd.def_ 7 (d := dd7) rfl
    exact ⟨_, fd, He.glo_ok X G (cd.fact 7 (f := .glo "_law_is_integer") rfl), F⟩
  · obtain ⟨fd, F⟩ := cd.def_ 8 (d := dd8) rfl
    exact ⟨_, fd, He.glo_ok X G (cd.fact 8 (f := .glo "_law_same_items") rfl), F⟩
  · obtain ⟨fd, F⟩ := cd.def_ 9 (d := dd9) rfl
    exact ⟨_, fd, He.glo_ok X G (cd.fact 9 (f := .glo "_law_same") rfl), F⟩
  · obtain ⟨fd, F⟩ := cd.def_ 10 (d := dd10) rfl
    exact ⟨_, fd, He.glo_ok X G (cd.fact 10 (f := .glo "_law_parts") rfl), F⟩
  · obtain ⟨fd, F⟩ := cd.def_ 11 (d := dd11) rfl
    exact ⟨_, fd, He.glo_ok X G (cd.fact 11 (f := .glo "_law_alike") rfl), F⟩
  · obtain ⟨fd, F⟩ := cd.def_ 12 (d := dd12) rfl
    exact ⟨_, fd, He.glo_ok X G (cd.fact 12 (f := .glo "_law_least") rfl), F⟩
  · obtain ⟨fd, F⟩ := cd.def_ 13 (d := dd13) rfl
    exact ⟨_, fd, He.glo_ok X G (cd.fact 13 (f := .glo "_law_state") rfl), F⟩
  · obtain ⟨fd, F⟩ := cd.def_ 14 (d := dd14) rfl
    exact ⟨_, fd, He.glo_ok X G (cd.fact 14 (f := .glo "law") rfl), F⟩
  · exact He.free_ok X G (cd.fact 15 (f := .free "abs") rfl)
  · exact He.free_ok X G (cd.fact 16 (f := .free "all") rfl)
  · exact He.free_ok X G (cd.fact 17 (f := .free "bool") rfl)
  · exact He.free_ok X G (cd.fact 18 (f := .free "dict") rfl)
  · exact He.free_ok X G (cd.fact 19 (f := .free "int") rfl)
  · exact He.free_ok X G (cd.fact 20 (f := .free "isinstance") rfl)
  · exact He.free_ok X G (cd.fact 21 (f := .free "len") rfl)
  · exact He.free_ok X G (cd.fact 22 (f := .free "list") rfl)
  · exact He.free_ok X G (cd.fact 23 (f := .free "range") rfl)
  · exact He.free_ok X G (cd.fact 24 (f := .free "str") rfl)
  · exact He.free_ok X G (cd.fact 25 (f := .free "tuple") rfl)
  · exact He.free_ok X G (cd.fact 26 (f := .free "zip") rfl)
end K11
section
open PySem PySem.W PySem.Calls PyProof.Rows
theorem K11.holds_of (k : Nat) (hr : L2.Room (k + 3) PySem.callerA) (hlaw : ∀ (W : World) (ns : List Int), ns.length ≤ 63 → (∀ i ∈ ns, Builtin.Int.intBits i ≤ 1048576) → ∃ fr, K11.sem W (k + 1) 14 [.fro (ns.map PV.D.int)] = .ret fr (.bl true) []) : PySem.Challenge.rw_onescore_k11_least_tables.Holds := by
  w_on; o_law
  refine HandSHeadRun.head_any (r := OpenLaw.row PySem.Challenge.rw_onescore_k11_least_tables) (q := view (OpenLaw.row PySem.Challenge.rw_onescore_k11_least_tables).prog [16]) (H := K11.hk) (ob := K11.ob) (M := 1080) (loose := K11.loose) (d := HandSHeadRun.topDef (OpenLaw.row PySem.Challenge.rw_onescore_k11_least_tables).prog 16) (kwd := []) K11.ob_eq
    (by kernel_rfl) (fun s => by kernel_rfl) K11.run (by kernel_rfl) (by kernel_rfl) (by kernel_rfl) (by rfl) (by first | assumption | decide +kernel) (by decide +kernel) ⟨rfl, rfl, rfl, rfl, rfl, by decide +kernel⟩ ?hw ?hc
  case hw => w_witness2
  case hc =>
    refine PV.walk_pv (l := PySem.Challenge.rw_onescore_k11_least_tables) (k := k + 3) (x := "_law_script") rfl (by kernel_rfl) hr ?_
    intro w mg fa h Y G hmg0
    obtain ⟨K, KX, c⟩ := Y
    have hmg : mg ("law" : PySem.Str) = some (.ref fa) := by
      have e : (HandSHeadRun.topDef (OpenLaw.row PySem.Challenge.rw_onescore_k11_least_tables).prog 16).name = ("law" : PySem.Str) := by kernel_rfl
      rw [← e]
      exact hmg0
    obtain ⟨D, Gb⟩ := K11.facts (P := (PySem.Challenge.rw_onescore_k11_least_tables).prog) (w := w) KX G c
    obtain ⟨f, fd, e, F⟩ := D.f14
    rw [hmg] at e
    cases e
    have b := L2.FunD.bindsA (ps := ["_law_script"]) F fun _ _ _ _ _ _ us hl => match us, hl with | [_], _ => rfl
    exact ⟨K, fd, _, KX, fun s u => b s [u] rfl, hlaw w, fun base _ _ => K11.w14 F Gb (K11.tab D Gb k)⟩
end

namespace K11
open PySem PySem.Spec PyProof.Rows L2 PV
/-! ### states -/
def okS (x : Str) : Bool := PyData.strOk x
inductive At where
  | s (x : Str) | n (i : Int) | v (i : Int)
def At.d : At → D
  | .s x => .str x
  | .n i => .int i
  | .v i => .tup [.str "number", .int i]
def At.nk : At → NestedKey
  | .s x => .text x
  | .n i => .num i
  | .v i => .tup [.text "number", .num i]
def At.ok : At → Prop
  | .s x => okS x = true
  | _ => True
inductive Q where
  | en | gt (b : Str) (l : List (Str × Str × Nat)) | br (w : Str) (fr : List At) (g o : Nat) | pl (w : Str) (fr : List At) (g : Nat)
def triD (t : Str × Str × Nat) : D := .tup [.str t.1, .str t.2.1, .int t.2.2]
def pairD (t : Str × Str × Nat) : D := .tup [.str t.1, .str t.2.1]
def Q.d : Q → D
  | .en => .tup [.str "end"]
  | .gt b l => .tup [.str "get", .str b, .tup (l.map triD)]
  | .br w fr g o => .tup (.str w :: fr.map At.d ++ [.int g, .int o])
  | .pl w fr g => .tup (.str w :: fr.map At.d ++ [.int g])
def Q.does : Q → D
  | .en => .tup [.str "end"]
  | .gt b l => .tup [.str "get", .str b, .tup (l.map pairD)]
  | .br w fr _ _ => .tup (.str w :: fr.map At.d)
  | .pl w fr _ => .tup (.str w :: fr.map At.d)
def Q.goals : Q → List Nat
  | .en => []
  | .gt _ l => l.map (·.2.2)
  | .br _ _ g o => [g, o]
  | .pl _ _ g => [g]
def Q.nk : Q → NestedKey
  | .en => .tup [.text "end"]
  | .gt b l => .tup [.text "get", .text b, .tup (l.map fun t => .tup [.text t.1, .text t.2.1])]
  | .br w fr _ _ => .tup (.text w :: fr.map At.nk)
  | .pl w fr _ => .tup (.text w :: fr.map At.nk)
/-- the state with other goals -/
def reL : List (Str × Str × Nat) → List Nat → List (Str × Str × Nat)
  | t :: l, g :: gs => (t.1, t.2.1, g) :: reL l gs
  | _, _ => []
def Q.re : Q → List Nat → Q
  | .en, _ => .en
  | .gt b l, gs => .gt b (reL l gs)
  | .br w fr _ _, [g, o] => .br w fr g o
  | .br w fr g o, _ => .br w fr g o
  | .pl w fr _, [g] => .pl w fr g
  | .pl w fr g, _ => .pl w fr g
def Q.ok : Q → Prop
  | .en => True
  | .gt b l => okS b = true ∧ l.length ≤ 60 ∧ ∀ t, t ∈ l → okS t.1 = true ∧ okS t.2.1 = true
  | .br w fr _ _ => (w = "if" ∨ w = "while") ∧ okS w = true ∧ fr.length ≤ 60 ∧ ∀ a, a ∈ fr → a.ok
  | .pl w fr _ => w ≠ "if" ∧ w ≠ "while" ∧ w ≠ "end" ∧ w ≠ "get" ∧ okS w = true ∧ fr.length ≤ 60 ∧ ∀ a, a ∈ fr → a.ok
theorem reL_len : ∀ {l : List (Str × Str × Nat)} {gs : List Nat}, gs.length = l.length → (reL l gs).length = l.length ∧ (reL l gs).map (·.2.2) = gs ∧ (reL l gs).map (fun t => (t.1, t.2.1)) = l.map fun t => (t.1, t.2.1)
  | [], [], _ => ⟨rfl, rfl, rfl⟩
  | [], _ :: _, h => by simp at h
  | _ :: _, [], h => by simp at h
  | t :: l, g :: gs, h => by
    obtain ⟨h1, h2, h3⟩ := reL_len (l := l) (gs := gs) (by simpa using h)
    rw [reL]
    exact ⟨by simp [h1], by simp [h2], by simp [h3]⟩
section
variable {q : Q} {gs : List Nat}
theorem re_goals (h : gs.length = q.goals.length) : (q.re gs).goals = gs := by
  cases q with
  | en => cases gs with
    | nil => rfl
    | cons _ _ => simp [Q.goals] at h
  | gt b l => exact (reL_len (by simpa [Q.goals] using h)).2.1
  | br w fr g o =>
    match gs, h with
    | [a, b], _ => rfl
  | pl w fr g =>
    match gs, h with
    | [a], _ => rfl
theorem re_nk (h : gs.length = q.goals.length) : (q.re gs).nk = q.nk := by
  cases q with
  | en => rfl
  | gt b l =>
    have e := (reL_len (l := l) (gs := gs) (by simpa [Q.goals] using h)).2.2
    show NestedKey.tup [.text "get", .text b, .tup ((reL l gs).map fun t => .tup [.text t.1, .text t.2.1])] = _
    have e2 : (reL l gs).map (fun t => NestedKey.tup [.text t.1, .text t.2.1]) = ((reL l gs).map fun t => (t.1, t.2.1)).map fun t => NestedKey.tup [.text t.1, .text t.2] := by rw [List.map_map]; rfl
    rw [e2, e, List.map_map]
    rfl
  | br w fr g o =>
    match gs, h with
    | [a, b], _ => rfl
  | pl w fr g =>
    match gs, h with
    | [a], _ => rfl
theorem re_self : q.re q.goals = q := by
  cases q with
  | en => rfl
  | gt b l =>
    show Q.gt b (reL l (l.map (·.2.2))) = _
    congr 1
    induction l with
    | nil => rfl
    | cons t l ih => rw [List.map_cons, reL, ih]
  | br w fr g o => rfl
  | pl w fr g => rfl
theorem re_ok (h : gs.length = q.goals.length) (k : q.ok) : (q.re gs).ok := by
  cases q with
  | en => trivial
  | gt b l =>
    obtain ⟨h1, _, h3⟩ := reL_len (l := l) (gs := gs) (by simpa [Q.goals] using h)
    obtain ⟨k1, k2, k3⟩ := k
    refine ⟨k1, by rw [h1]; exact k2, fun t ht => ?_⟩
    have : (t.1, t.2.1) ∈ (reL l gs).map fun t => (t.1, t.2.1) := List.mem_map.mpr ⟨t, ht, rfl⟩
    rw [h3] at this
    obtain ⟨u, hu, e⟩ := List.mem_map.mp this
    have := k3 u hu
    rw [(Prod.mk.inj e).1, (Prod.mk.inj e).2] at this
    exact this
  | br w fr g o =>
    match gs, h with
    | [a, b], _ => exact k
  | pl w fr g =>
    match gs, h with
    | [a], _ => exact k
end
theorem nk_goals {q q' : Q} (k : q.ok) (k' : q'.ok) (h : q.nk = q'.nk) : q.goals.length = q'.goals.length := by
  have txt : ∀ {a b : Str} {l m : List NestedKey}, NestedKey.tup (.text a :: l) = .tup (.text b :: m) → a = b ∧ l = m := fun e => by
    injection e with e
    injection e with e1 e2
    injection e1 with e1
    exact ⟨e1, e2⟩
  have ne1 : ("end" : Str) ≠ "get" := by decide
  have ne2 : ("end" : Str) ≠ "if" := by decide
  have ne3 : ("end" : Str) ≠ "while" := by decide
  have ne4 : ("get" : Str) ≠ "if" := by decide
  have ne5 : ("get" : Str) ≠ "while" := by decide
  cases q with
  | en => cases q' with
    | en => rfl
    | gt b l => exact absurd (txt h).1 ne1
    | br w fr g o => rcases k'.1 with e | e
                     · exact absurd ((txt h).1.trans e) ne2
                     · exact absurd ((txt h).1.trans e) ne3
    | pl w fr g => exact absurd (txt h).1.symm k'.2.2.1
  | gt b l => cases q' with
    | en => exact absurd (txt h).1.symm ne1
    | gt b' l' =>
      have := (txt h).2
      injection this with _ this
      injection this with this _
      injection this with this
      have := congrArg List.length this
      simpa [Q.goals] using this
    | br w fr g o => rcases k'.1 with e | e
                     · exact absurd ((txt h).1.trans e) ne4
                     · exact absurd ((txt h).1.trans e) ne5
    | pl w fr g => exact absurd (txt h).1.symm k'.2.2.2.1
  | br w fr g o => cases q' with
    | en => rcases k.1 with e | e
            · exact absurd ((txt h).1.symm.trans e) ne2
            · exact absurd ((txt h).1.symm.trans e) ne3
    | gt b l => rcases k.1 with e | e
                · exact absurd ((txt h).1.symm.trans e) ne4
                · exact absurd ((txt h).1.symm.trans e) ne5
    | br w' fr' g' o' => rfl
    | pl w' fr' g' => rcases k.1 with e | e
                      · exact absurd ((txt h).1.symm.trans e) k'.1
                      · exact absurd ((txt h).1.symm.trans e) k'.2.1
  | pl w fr g => cases q' with
    | en => exact absurd (txt h).1 k.2.2.1
    | gt b l => exact absurd (txt h).1 k.2.2.2.1
    | br w' fr' g' o' => rcases k'.1 with e | e
                         · exact absurd ((txt h).1.trans e) k.1
                         · exact absurd ((txt h).1.trans e) k.2.1
    | pl w' fr' g' => rfl
/-! ### alikeness by turns -/
section
variable (T : List Q)
def st (k : Nat) : Q := T.getD k .en
def gl (k : Nat) : List Nat := (st T k).goals
def E : Nat → Nat → Nat → Bool
  | 0, k, j => decide ((st T k).nk = (st T j).nk)
  | r + 1, k, j => E r k j && ((List.range (gl T k).length).all fun i => E r ((gl T k).getD i 0) ((gl T j).getD i 0))
/-- a table: states as they should be, with goals inside -/
structure TabOk : Prop where
  ok : ∀ q, q ∈ T → q.ok
  gs : ∀ q, q ∈ T → ∀ g, g ∈ q.goals → g < T.length
  n1 : T.length ≤ 100
end
section
variable {T : List Q}
theorem st_mem {k : Nat} (h : k < T.length) : st T k ∈ T := by
  unfold st
  simp [List.getD, List.getElem?_eq_getElem h]
theorem E_down {r k j : Nat} (h : E T (r + 1) k j = true) : E T r k j = true := by
  rw [E, Bool.and_eq_true] at h
  exact h.1
theorem E_zero {r k j : Nat} (h : E T r k j = true) : (st T k).nk = (st T j).nk := by
  induction r with
  | zero => exact of_decide_eq_true h
  | succ r ih => exact ih (E_down h)
theorem gl_len (C : TabOk T) {k j : Nat} (hk : k < T.length) (hj : j < T.length) {r : Nat} (h : E T r k j = true) : (gl T k).length = (gl T j).length := nk_goals (C.ok _ (st_mem hk)) (C.ok _ (st_mem hj)) (E_zero h)
theorem gl_lt (C : TabOk T) {k i : Nat} (hk : k < T.length) (hi : i < (gl T k).length) : (gl T k).getD i 0 < T.length := by
  refine C.gs _ (st_mem hk) _ ?_
  have : (gl T k).getD i 0 = (gl T k)[i] := by simp [List.getD, List.getElem?_eq_getElem hi]
  rw [this]
  exact List.getElem_mem hi
theorem E_succ {r k j : Nat} : E T (r + 1) k j = true ↔ E T r k j = true ∧ ∀ i, i < (gl T k).length → E T r ((gl T k).getD i 0) ((gl T j).getD i 0) = true := by
  rw [E, Bool.and_eq_true, List.all_eq_true]
  exact ⟨fun h => ⟨h.1, fun i hi => h.2 i (List.mem_range.mpr hi)⟩, fun h => ⟨h.1, fun i hi => h.2 i (List.mem_range.mp hi)⟩⟩
theorem E_refl (r k : Nat) : E T r k k = true := by
  induction r generalizing k with
  | zero => exact decide_eq_true rfl
  | succ r ih => exact E_succ.mpr ⟨ih k, fun i _ => ih _⟩
theorem E_symm (C : TabOk T) {r : Nat} : ∀ {k j : Nat}, k < T.length → j < T.length → E T r k j = true → E T r j k = true := by
  induction r with
  | zero => intro k j _ _ h; exact decide_eq_true (of_decide_eq_true h).symm
  | succ r ih =>
    intro k j hk hj h
    obtain ⟨h1, h2⟩ := E_succ.mp h
    have hl := gl_len C hk hj h1
    exact E_succ.mpr ⟨ih hk hj h1, fun i hi => ih (gl_lt C hk (by omega)) (gl_lt C hj hi) (h2 i (by omega))⟩
theorem E_trans (C : TabOk T) {r : Nat} : ∀ {k j l : Nat}, k < T.length → j < T.length → l < T.length → E T r k j = true → E T r j l = true → E T r k l = true := by
  induction r with
  | zero => intro k j l _ _ _ h h'; exact decide_eq_true ((of_decide_eq_true h).trans (of_decide_eq_true h'))
  | succ r ih =>
    intro k j l hk hj hl h h'
    obtain ⟨h1, h2⟩ := E_succ.mp h
    obtain ⟨h3, h4⟩ := E_succ.mp h'
    have hkj := gl_len C hk hj h1
    have hjl := gl_len C hj hl h3
    exact E_succ.mpr ⟨ih hk hj hl h1 h3, fun i hi => ih (gl_lt C hk hi) (gl_lt C hj (by omega)) (gl_lt C hl (by omega)) (h2 i hi) (h4 i (by omega))⟩
theorem E_le {r s k j : Nat} (h : r ≤ s) (e : E T s k j = true) : E T r k j = true := by
  induction h with
  | refl => exact e
  | step _ ih => exact ih (E_down e)
/-- what turn r knows is all -/
def Stable (T : List Q) (r : Nat) : Prop := ∀ k j, k < T.length → j < T.length → E T r k j = true → E T (r + 1) k j = true
theorem Stable.all (C : TabOk T) {r : Nat} (h : Stable T r) : ∀ s k j, k < T.length → j < T.length → E T r k j = true → E T (r + s) k j = true := by
  intro s
  induction s with
  | zero => intro k j _ _ e; exact e
  | succ s ih =>
    intro k j hk hj e
    have e1 := h k j hk hj e
    obtain ⟨_, e2⟩ := E_succ.mp e1
    have hl := gl_len C hk hj e
    exact E_succ.mpr ⟨ih k j hk hj e, fun i hi => ih _ _ (gl_lt C hk hi) (gl_lt C hj (by omega)) (e2 i hi)⟩
/-- alike for good -/
def Al (T : List Q) (k j : Nat) : Prop := ∀ r, E T r k j = true
theorem Stable.al (C : TabOk T) {r : Nat} (h : Stable T r) {k j : Nat} (hk : k < T.length) (hj : j < T.length) : E T r k j = true ↔ Al T k j := by
  constructor
  · intro e s
    by_cases q : s ≤ r
    · exact E_le q e
    · have := h.all C (s - r) k j hk hj e
      rwa [show r + (s - r) = s by omega] at this
  · intro e
    exact e r
/-! ### counting -/
def reps (F : Nat → Nat → Bool) (n : Nat) : List Nat := (List.range n).filter fun k => (List.range k).all fun j => !F k j
theorem mem_reps {F : Nat → Nat → Bool} {n k : Nat} : k ∈ reps F n ↔ k < n ∧ ∀ j, j < k → F k j = false := by
  unfold reps
  rw [List.mem_filter, List.mem_range, List.all_eq_true]
  constructor
  · rintro ⟨h1, h2⟩
    exact ⟨h1, fun j hj => by simpa using h2 j (List.mem_range.mpr hj)⟩
  · rintro ⟨h1, h2⟩
    exact ⟨h1, fun j hj => by rw [h2 j (List.mem_range.mp hj)]; rfl⟩
theorem reps_nodup (F : Nat → Nat → Bool) (n : Nat) : (reps F n).Nodup := List.nodup_range.sublist List.filter_sublist
theorem reps_le (F : Nat → Nat → Bool) (n : Nat) : (reps F n).length ≤ n := by
  have := List.length_filter_le (fun k => (List.range k).all fun j => !F k j) (List.range n)
  rwa [List.length_range] at this
theorem has_rep {F : Nat → Nat → Bool} {n : Nat} (rf : ∀ k, F k k = true) (tr : ∀ a b c, a < n → b < n → c < n → F a b = true → F b c = true → F a c = true) : ∀ k, k < n → ∃ a, a ∈ reps F n ∧ F k a = true ∧ a ≤ k := by
  intro k
  induction k using Nat.strongRecOn with
  | ind k ih =>
    intro hk
    by_cases h : ∃ j, j < k ∧ F k j = true
    · obtain ⟨j, hj, e⟩ := h
      obtain ⟨a, h1, h2, h3⟩ := ih j hj (by omega)
      exact ⟨a, h1, tr k j a hk (by omega) (mem_reps.mp h1).1 e h2, by omega⟩
    · refine ⟨k, mem_reps.mpr ⟨hk, fun j hj => ?_⟩, rf k, Nat.le_refl _⟩
      cases e : F k j with
      | false => rfl
      | true => exact absurd ⟨j, hj, e⟩ h
theorem nodup_sub {l m : List Nat} (h : l.Nodup) (s : ∀ x, x ∈ l → x ∈ m) : l.length ≤ m.length := by
  induction l generalizing m with
  | nil => exact Nat.zero_le _
  | cons x l ih =>
    obtain ⟨h1, h2⟩ := List.nodup_cons.mp h
    have hm := s x List.mem_cons_self
    have := ih (m := m.erase x) h2 fun y hy => by
      have hne : y ≠ x := fun e => h1 (e ▸ hy)
      exact (List.mem_erase_of_ne hne).mpr (s y (List.mem_cons_of_mem _ hy))
    rw [List.length_erase_of_mem hm] at this
    have hp : 0 < m.length := List.length_pos_of_mem hm
    rw [List.length_cons]
    omega
theorem nodup_eq {l m : List Nat} (h : l.Nodup) (s : ∀ x, x ∈ l → x ∈ m) (e : m.length ≤ l.length) : ∀ x, x ∈ m → x ∈ l := by
  intro x hx
  refine Classical.byContradiction fun hn => ?_
  have := nodup_sub (l := x :: l) (m := m) (List.nodup_cons.mpr ⟨hn, h⟩) fun y hy => by
    rcases List.mem_cons.mp hy with rfl | hy
    · exact hx
    · exact s y hy
  rw [List.length_cons] at this
  omega
def cnt (T : List Q) (r : Nat) : Nat := (reps (E T r) T.length).length
theorem reps_sub {r : Nat} : ∀ x, x ∈ reps (E T r) T.length → x ∈ reps (E T (r + 1)) T.length := fun x hx => by
  obtain ⟨h1, h2⟩ := mem_reps.mp hx
  refine mem_reps.mpr ⟨h1, fun j hj => ?_⟩
  cases e : E T (r + 1) x j with
  | false => rfl
  | true => have := E_down e; rw [h2 j hj] at this; cases this
theorem cnt_mono (r : Nat) : cnt T r ≤ cnt T (r + 1) := nodup_sub (reps_nodup _ _) reps_sub
theorem cnt_stable (C : TabOk T) {r : Nat} (h : cnt T (r + 1) ≤ cnt T r) : Stable T r := by
  have hs := nodup_eq (reps_nodup _ _) (reps_sub (T := T) (r := r)) h
  intro k j hk hj e
  obtain ⟨a, a1, a2, a3⟩ := has_rep (F := E T (r + 1)) (n := T.length) (E_refl _) (fun a b c ha hb hc => E_trans C ha hb hc) k hk
  obtain ⟨b, b1, b2, b3⟩ := has_rep (F := E T (r + 1)) (n := T.length) (E_refl _) (fun a b c ha hb hc => E_trans C ha hb hc) j hj
  have ha := (mem_reps.mp a1).1
  have hb := (mem_reps.mp b1).1
  have hab : E T r a b = true := E_trans C ha hk hb (E_symm C hk ha (E_down a2)) (E_trans C hk hj hb e (E_down b2))
  have hba := E_symm C ha hb hab
  obtain ⟨_, ra⟩ := mem_reps.mp (hs a a1)
  obtain ⟨_, rb⟩ := mem_reps.mp (hs b b1)
  have : a = b := by
    rcases Nat.lt_trichotomy a b with h | h | h
    · rw [rb a h] at hba; cases hba
    · exact h
    · rw [ra b h] at hab; cases hab
  subst this
  exact E_trans C hk ha hj a2 (E_symm C hj ha b2)
theorem stable_cnt (C : TabOk T) {r : Nat} (h : Stable T r) : cnt T (r + 1) = cnt T r := by
  refine Nat.le_antisymm ?_ (cnt_mono r)
  refine nodup_sub (reps_nodup _ _) fun x hx => ?_
  obtain ⟨h1, h2⟩ := mem_reps.mp hx
  refine mem_reps.mpr ⟨h1, fun j hj => ?_⟩
  cases e : E T r x j with
  | false => rfl
  | true =>
    have := h x j h1 (by omega) e
    rw [h2 j hj] at this; cases this
/-- some early turn is stable -/
theorem stable_ex (C : TabOk T) (hn : 0 < T.length) : ∃ r, r < T.length ∧ Stable T r ∧ ∀ s, s < r → ¬ Stable T s := by
  have h0 : 1 ≤ cnt T 0 := by
    have : (0 : Nat) ∈ reps (E T 0) T.length := mem_reps.mpr ⟨hn, fun j hj => absurd hj (by omega)⟩
    exact List.length_pos_of_mem this
  have key : ∀ m, (∃ r, r < m ∧ Stable T r ∧ ∀ s, s < r → ¬ Stable T s) ∨ (m + 1 ≤ cnt T m ∧ ∀ s, s < m → ¬ Stable T s) := by
    intro m
    induction m with
    | zero => exact .inr ⟨h0, fun s hs => absurd hs (by omega)⟩
    | succ m ih =>
      rcases ih with ⟨r, h1, h2⟩ | ⟨h1, h2⟩
      · exact .inl ⟨r, by omega, h2⟩
      · by_cases q : Stable T m
        · exact .inl ⟨m, by omega, q, h2⟩
        · refine .inr ⟨?_, fun s hs => ?_⟩
          · have := cnt_mono (T := T) m
            have : ¬ cnt T (m + 1) ≤ cnt T m := fun z => q (cnt_stable C z)
            omega
          · by_cases e : s = m
            · subst e; exact q
            · exact h2 s (by omega)
  rcases key T.length with h | ⟨h, _⟩
  · exact h
  · have := reps_le (E T T.length) T.length
    unfold cnt at h
    omega
end
end K11

namespace K11
open PySem PySem.Spec PyProof.Rows L2 PV
/-! ### parts -/
@[simp] theorem ev_sl_nh (a h : Opd) (s : S) : sliceM a none (some h) s = opsM [a, .ex (intM h)] (fun ds s => match ds with
    | [x, .int j] => (match sliceD none (some j) x with | some r => .ok r s | none => .stuck)
    | _ => .stuck) s := rfl
theorem sIx_neg {n m d : Nat} (h : 0 < m) (hm : m ≤ n) : HT.sIx n d (some (-(m : Int))) = n - m := by
  have := HT.clip_eq (-(m : Int)) n d
  rw [if_pos (by omega)] at this
  omega
theorem cut_front {xs ys : List D} {m : Nat} (h : 0 < m) (hm : ys.length = m) : sliceD none (some (-(m : Int))) (.tup (xs ++ ys)) = some (false, .tup xs) := by
  have e : cutL (xs ++ ys) none (some (-(m : Int))) = xs := by
    unfold cutL
    rw [HT.sIx_none, sIx_neg h (by rw [List.length_append]; omega), List.drop_zero, Nat.sub_zero, List.length_append, hm, Nat.add_sub_cancel, List.take_left]
  show some (false, D.tup (cutL (xs ++ ys) none (some (-(m : Int))))) = _
  rw [e]
theorem cut_back {xs ys : List D} {m : Nat} (h : 0 < m) (hm : ys.length = m) : sliceD (some (-(m : Int))) none (.tup (xs ++ ys)) = some (false, .tup ys) := by
  have e : cutL (xs ++ ys) (some (-(m : Int))) none = ys := by
    unfold cutL
    rw [HT.sIx_none, sIx_neg h (by rw [List.length_append]; omega), List.length_append, hm, Nat.add_sub_cancel, List.drop_left, List.take_of_length_le (by omega)]
  show some (false, D.tup (cutL (xs ++ ys) (some (-(m : Int))) none)) = _
  rw [e]
def memB (xs : List Str) (x : Str) : Bool := decide (x ∈ xs)
theorem flts_strs : ∀ xs : List Str, flts (xs.map D.str) = some (xs.map V.str)
  | [] => rfl
  | x :: xs => by simp [flts, D.flt, flts_strs xs]
theorem inV_strs {x : Str} : ∀ xs : List Str, inV (.str x) (xs.map V.str) = decide (x ∈ xs)
  | [] => by simp [inV]
  | y :: xs => by
    have ih := inV_strs (x := x) xs
    unfold inV at ih ⊢
    rw [List.map_cons, List.any_cons, ih]
    have : eqV (.str y) (.str x) = decide (x = y) := by
      show decide (y = x) = _
      rw [Bool.eq_iff_iff, decide_eq_true_iff, decide_eq_true_iff]
      exact eq_comm
    rw [this, Bool.eq_iff_iff]
    simp
theorem in_tup {n : Bool} {x : Str} {xs : List Str} : inD n (.str x) (.tup (xs.map D.str)) = some (false, .bl (if n then !memB xs x else memB xs x)) := by
  unfold inD
  simp only [flts_strs]
  simp [D.flt, inV_strs, memB]
theorem in_lst {n : Bool} {x : Str} {xs : List Str} : inD n (.str x) (.lst (xs.map D.str)) = some (false, .bl (if n then !memB xs x else memB xs x)) := by
  unfold inD
  simp only [flts_strs]
  simp [D.flt, inV_strs, memB]
theorem iw_tup {x : Str} : inD false (.str x) (.tup [.str "if", .str "while"]) = some (false, .bl (memB ["if", "while"] x)) := in_tup (n := false) (xs := ["if", "while"])
theorem iw_lst {x : Str} : inD false (.str x) (.lst [.str "if", .str "while"]) = some (false, .bl (memB ["if", "while"] x)) := in_lst (n := false) (xs := ["if", "while"])
theorem ix0 {d : D} {ds : List D} : ixD (.tup (d :: ds)) (.int 0) = some (false, d) := by
  rw [v_ixT, show (0 : Int) = ((0 : Nat) : Int) from rfl, at_nat]; rfl
def partsD (q : Q) : D := .tup [q.does, .tup (q.goals.map fun (g : Nat) => D.int g)]
theorem put234 {a0 a1 a5 : Slot} {t : Str × Str × Nat} : (Tg.tp [.nm 2, .nm 3, .nm 4]).put (triD t) [a0, a1, none, none, none, a5] = some [a0, a1, some (.sh, .str t.1), some (.sh, .str t.2.1), some (.sh, .int t.2.2), a5] := by
  unfold triD
  rw [Tg.put]
  rfl
theorem put445 {a0 a1 a2 a3 : Slot} {t : Str × Str × Nat} : (Tg.tp [.nm 4, .nm 4, .nm 5]).put (triD t) [a0, a1, a2, a3, none, none] = some [a0, a1, a2, a3, some (.sh, .str t.2.1), some (.sh, .int t.2.2)] := by
  unfold triD
  rw [Tg.put]
  rfl
theorem sh_loop {a0 a1 a5 : Slot} : ∀ (l : List (Str × Str × Nat)) (acc : List D), acc.length + l.length ≤ sizeLine →
    lcL (.tp [.nm 2, .nm 3, .nm 4]) yesM (tupM [(varM 2), (varM 3)]) [2, 3, 4] (l.map triD) acc [a0, a1, none, none, none, a5] = .ok (acc ++ l.map pairD) [a0, a1, none, none, none, a5]
  | [], acc, _ => by simp [lcL]
  | t :: l, acc, h => by
    rw [List.length_cons] at h
    have ih := sh_loop (a0 := a0) (a1 := a1) (a5 := a5) l (acc ++ [pairD t]) (by rw [List.length_append]; simp only [List.length_cons, List.length_nil]; omega)
    have z2 : (2 : Nat) ≤ sizeLine := by decide
    have hz : acc.length < sizeLine := by omega
    rw [List.map_cons, lcL, put234]
    unfold pairD at *
    simp (implicitDefEqProofs := false) [nox, hz, z2, killAll, ih]
theorem gs_loop {a0 a1 a2 a3 : Slot} : ∀ (l : List (Str × Str × Nat)) (acc : List D), acc.length + l.length ≤ sizeLine →
    lcL (.tp [.nm 4, .nm 4, .nm 5]) yesM (varM 5) [4, 5] (l.map triD) acc [a0, a1, a2, a3, none, none] = .ok (acc ++ l.map fun t => D.int t.2.2) [a0, a1, a2, a3, none, none]
  | [], acc, _ => by simp [lcL]
  | t :: l, acc, h => by
    rw [List.length_cons] at h
    have ih := gs_loop (a0 := a0) (a1 := a1) (a2 := a2) (a3 := a3) l (acc ++ [.int t.2.2]) (by rw [List.length_append]; simp only [List.length_cons, List.length_nil]; omega)
    have hz : acc.length < sizeLine := by omega
    rw [List.map_cons, lcL, put445]
    simp (implicitDefEqProofs := false) [nox, hz, killAll, ih]
section
variable {W : World} {k : Nat} {q : Q}
theorem parts (h : q.ok) : sem W (k + 1) 0 [q.d] = .ret false (partsD q) [] := by
  have z0 : (0 : Nat) ≤ sizeLine := by decide
  have z2 : (2 : Nat) ≤ sizeLine := by decide
  have z3 : (3 : Nat) ≤ sizeLine := by decide
  rw [se0]
  cases q with
  | en =>
    refine runF_rt (s := [some (.sh, .tup [.str "end"]), none, none, none, none, none]) ?_ rfl rfl
    rw [show initS [] 6 [Q.en.d] = [some (.sh, .tup [.str "end"]), none, none, none, none, none] from rfl]
    have i0 : ixD (.tup [.str "end"]) (.int 0) = some (false, .str "end") := ix0
    unfold b0 partsD
    rw [show Q.en.does = .tup [.str "end"] from rfl, show (Q.en.goals.map fun (g : Nat) => D.int g) = [] from rfl]
    generalize D.tup [.str "end"] = S at *
    simp (implicitDefEqProofs := false) [i0, z0, z2]
  | gt b l =>
    obtain ⟨h1, h2, h3⟩ := h
    have e1 := sh_loop (a0 := some (.sh, .tup [.str "get", .str b, .tup (l.map triD)])) (a1 := none) (a5 := none) l [] (by rw [sizeLine_eq]; simp only [List.length_nil]; omega)
    have e2 := gs_loop (a0 := some (.sh, .tup [.str "get", .str b, .tup (l.map triD)])) (a1 := some (.sh, .tup (l.map pairD))) (a2 := none) (a3 := none) l [] (by rw [sizeLine_eq]; simp only [List.length_nil]; omega)
    rw [List.nil_append] at e1 e2
    have i0 : ixD (.tup [.str "get", .str b, .tup (l.map triD)]) (.int 0) = some (false, .str "get") := ix0
    have i1 : ixD (.tup [.str "get", .str b, .tup (l.map triD)]) (.int 1) = some (false, .str b) := rfl
    have i2 : ixD (.tup [.str "get", .str b, .tup (l.map triD)]) (.int 2) = some (false, .tup (l.map triD)) := rfl
    have k1 : killAll [some (.sh, D.tup [.str "get", .str b, .tup (l.map triD)]), none, none, none, none, none] [2, 3, 4] = [some (.sh, .tup [.str "get", .str b, .tup (l.map triD)]), none, none, none, none, none] := rfl
    have k2 : killAll [some (.sh, D.tup [.str "get", .str b, .tup (l.map triD)]), some (.sh, D.tup (l.map pairD)), none, none, none, none] [4, 5] = [some (.sh, .tup [.str "get", .str b, .tup (l.map triD)]), some (.sh, .tup (l.map pairD)), none, none, none, none] := rfl
    have ne : ¬ (("get" : Str) = "end") := by decide
    have eg : (l.map (·.2.2)).map (fun (g : Nat) => D.int g) = l.map fun t => D.int t.2.2 := by rw [List.map_map]; rfl
    refine runF_rt (s := [some (.sh, .tup [.str "get", .str b, .tup (l.map triD)]), some (.sh, .tup (l.map pairD)), none, none, none, none]) ?_ rfl rfl
    rw [show initS [] 6 [(Q.gt b l).d] = [some (.sh, .tup [.str "get", .str b, .tup (l.map triD)]), none, none, none, none, none] from rfl]
    unfold b0 partsD Q.does Q.goals
    simp only []
    rw [eg]
    generalize D.tup [.str "get", .str b, .tup (l.map triD)] = S at *
    generalize l.map triD = ts at *
    generalize l.map pairD = ps at *
    generalize (l.map fun t => D.int t.2.2) = gs at *
    simp (implicitDefEqProofs := false) [i0, i1, i2, k1, k2, e1, e2, ne, toTup, z2, z3]
  | br w fr g o =>
    obtain ⟨hw, _, h2, h3⟩ := h
    have i0 : ixD (Q.br w fr g o).d (.int 0) = some (false, .str w) := ix0
    have c1 : sliceD none (some (-2)) (Q.br w fr g o).d = some (false, .tup (.str w :: fr.map At.d)) := cut_front (m := 2) (by decide) rfl
    have c2 : sliceD (some (-2)) none (Q.br w fr g o).d = some (false, .tup [.int g, .int o]) := cut_back (m := 2) (by decide) rfl
    have n1 : ¬ (w = "end") := by rcases hw with rfl | rfl <;> decide
    have n2 : ¬ (w = "get") := by rcases hw with rfl | rfl <;> decide
    have n3 : memB ["if", "while"] w = true := by unfold memB; rcases hw with rfl | rfl <;> simp
    have e3 := iw_tup (x := w)
    refine runF_rt (s := [some (.sh, (Q.br w fr g o).d), none, none, none, none, none]) ?_ rfl rfl
    rw [show initS [] 6 [(Q.br w fr g o).d] = [some (.sh, (Q.br w fr g o).d), none, none, none, none, none] from rfl]
    unfold b0 partsD
    rw [show (Q.br w fr g o).does = .tup (.str w :: fr.map At.d) from rfl, show ((Q.br w fr g o).goals.map fun (g : Nat) => D.int g) = [.int g, .int o] from rfl]
    generalize (Q.br w fr g o).d = S at *
    generalize D.tup (.str w :: fr.map At.d) = F at *
    simp (implicitDefEqProofs := false) [i0, c1, c2, eq_false n1, eq_false n2, n3, e3, z2]
  | pl w fr g =>
    obtain ⟨w1, w2, w3, w4, _, h2, h3⟩ := h
    have i0 : ixD (Q.pl w fr g).d (.int 0) = some (false, .str w) := ix0
    have c1 : sliceD none (some (-1)) (Q.pl w fr g).d = some (false, .tup (.str w :: fr.map At.d)) := cut_front (m := 1) (by decide) rfl
    have c2 : sliceD (some (-1)) none (Q.pl w fr g).d = some (false, .tup [.int g]) := cut_back (m := 1) (by decide) rfl
    have n3 : memB ["if", "while"] w = false := by unfold memB; simp [w1, w2]
    have e3 := iw_tup (x := w)
    refine runF_rt (s := [some (.sh, (Q.pl w fr g).d), none, none, none, none, none]) ?_ rfl rfl
    rw [show initS [] 6 [(Q.pl w fr g).d] = [some (.sh, (Q.pl w fr g).d), none, none, none, none, none] from rfl]
    unfold b0 partsD
    rw [show (Q.pl w fr g).does = .tup (.str w :: fr.map At.d) from rfl, show ((Q.pl w fr g).goals.map fun (g : Nat) => D.int g) = [.int g] from rfl]
    generalize (Q.pl w fr g).d = S at *
    generalize D.tup (.str w :: fr.map At.d) = F at *
    simp (implicitDefEqProofs := false) [i0, c1, c2, eq_false w3, eq_false w4, n3, e3, z2]
end
end K11

namespace K11
open PySem PySem.Spec PyProof.Rows L2 PV
theorem lsh_loop {a0 a1 : Slot} : ∀ (l : List (Str × Str × Nat)) (acc : List D), acc.length + l.length ≤ sizeLine →
    lcL (.nm 2) yesM (sliceM (.sl 2) none (some (.ex (constM (.int 2))))) [2] (l.map triD) acc [a0, a1, none] = .ok (acc ++ l.map pairD) [a0, a1, none]
  | [], acc, _ => by simp [lcL]
  | t :: l, acc, h => by
    rw [List.length_cons] at h
    have ih := lsh_loop (a0 := a0) (a1 := a1) l (acc ++ [pairD t]) (by rw [List.length_append]; simp only [List.length_cons, List.length_nil]; omega)
    have hz : acc.length < sizeLine := by omega
    have hc : sliceD none (some 2) (triD t) = some (false, pairD t) := rfl
    rw [show acc ++ (t :: l).map pairD = acc ++ [pairD t] ++ l.map pairD by simp, ← ih]
    rw [List.map_cons, lcL, ev_putN]
    generalize pairD t = P at *
    generalize triD t = T at *
    simp (implicitDefEqProofs := false) [nox, hz, killAll, hc]
theorem lgs_loop {a0 a1 : Slot} : ∀ (l : List (Str × Str × Nat)) (acc : List D), acc.length + l.length ≤ sizeLine →
    lcL (.nm 2) yesM (binM ixD (.sl 2) (.ex (constM (.int 2)))) [2] (l.map triD) acc [a0, a1, none] = .ok (acc ++ l.map fun t => D.int t.2.2) [a0, a1, none]
  | [], acc, _ => by simp [lcL]
  | t :: l, acc, h => by
    rw [List.length_cons] at h
    have ih := lgs_loop (a0 := a0) (a1 := a1) l (acc ++ [.int t.2.2]) (by rw [List.length_append]; simp only [List.length_cons, List.length_nil]; omega)
    have hz : acc.length < sizeLine := by omega
    have hc : ixD (triD t) (.int 2) = some (false, .int t.2.2) := rfl
    rw [show acc ++ (t :: l).map (fun t => D.int t.2.2) = acc ++ [D.int t.2.2] ++ l.map fun t => D.int t.2.2 by simp, ← ih]
    rw [List.map_cons, lcL, ev_putN]
    generalize D.int t.2.2 = P at *
    generalize triD t = T at *
    simp (implicitDefEqProofs := false) [nox, hz, killAll, hc]
section
variable {W : World} {k : Nat} {q : Q}
theorem lparts (h : q.ok) : sem W (k + 1) 10 [q.d] = .ret false (partsD q) [] := by
  have z0 : (0 : Nat) ≤ sizeLine := by decide
  have z2 : (2 : Nat) ≤ sizeLine := by decide
  have z3 : (3 : Nat) ≤ sizeLine := by decide
  rw [se10]
  cases q with
  | en =>
    refine runF_rt (s := [some (.sh, .tup [.str "end"]), none, none]) ?_ rfl rfl
    rw [show initS [] 3 [Q.en.d] = [some (.sh, .tup [.str "end"]), none, none] from rfl]
    have i0 : ixD (.tup [.str "end"]) (.int 0) = some (false, .str "end") := ix0
    unfold b10 partsD
    rw [show Q.en.does = .tup [.str "end"] from rfl, show (Q.en.goals.map fun (g : Nat) => D.int g) = [] from rfl]
    generalize D.tup [.str "end"] = S at *
    simp (implicitDefEqProofs := false) [i0, z0, z2]
  | gt b l =>
    obtain ⟨h1, h2, h3⟩ := h
    have e1 := lsh_loop (a0 := some (.sh, .tup [.str "get", .str b, .tup (l.map triD)])) (a1 := none) l [] (by rw [sizeLine_eq]; simp only [List.length_nil]; omega)
    have e2 := lgs_loop (a0 := some (.sh, .tup [.str "get", .str b, .tup (l.map triD)])) (a1 := none) l [] (by rw [sizeLine_eq]; simp only [List.length_nil]; omega)
    rw [List.nil_append] at e1 e2
    have i0 : ixD (.tup [.str "get", .str b, .tup (l.map triD)]) (.int 0) = some (false, .str "get") := ix0
    have i1 : ixD (.tup [.str "get", .str b, .tup (l.map triD)]) (.int 1) = some (false, .str b) := rfl
    have i2 : ixD (.tup [.str "get", .str b, .tup (l.map triD)]) (.int 2) = some (false, .tup (l.map triD)) := rfl
    have k1 : killAll [some (.sh, D.tup [.str "get", .str b, .tup (l.map triD)]), none, none] [2] = [some (.sh, .tup [.str "get", .str b, .tup (l.map triD)]), none, none] := rfl
    have ne : ¬ (("get" : Str) = "end") := by decide
    have eg : (l.map (·.2.2)).map (fun (g : Nat) => D.int g) = l.map fun t => D.int t.2.2 := by rw [List.map_map]; rfl
    refine runF_rt (s := [some (.sh, .tup [.str "get", .str b, .tup (l.map triD)]), none, none]) ?_ rfl rfl
    rw [show initS [] 3 [(Q.gt b l).d] = [some (.sh, .tup [.str "get", .str b, .tup (l.map triD)]), none, none] from rfl]
    unfold b10 partsD Q.does Q.goals
    simp only []
    rw [eg]
    generalize D.tup [.str "get", .str b, .tup (l.map triD)] = S at *
    generalize l.map triD = ts at *
    generalize l.map pairD = ps at *
    generalize (l.map fun t => D.int t.2.2) = gs at *
    simp (implicitDefEqProofs := false) [i0, i1, i2, k1, e1, e2, ne, toTup, z2, z3]
  | br w fr g o =>
    obtain ⟨hw, _, h2, h3⟩ := h
    have i0 : ixD (Q.br w fr g o).d (.int 0) = some (false, .str w) := ix0
    have c1 : sliceD none (some (-2)) (Q.br w fr g o).d = some (false, .tup (.str w :: fr.map At.d)) := cut_front (m := 2) (by decide) rfl
    have c2 : sliceD (some (-2)) none (Q.br w fr g o).d = some (false, .tup [.int g, .int o]) := cut_back (m := 2) (by decide) rfl
    have n1 : ¬ (w = "end") := by rcases hw with rfl | rfl <;> decide
    have n2 : ¬ (w = "get") := by rcases hw with rfl | rfl <;> decide
    have n3 : memB ["if", "while"] w = true := by unfold memB; rcases hw with rfl | rfl <;> simp
    have e3 := iw_lst (x := w)
    refine runF_rt (s := [some (.sh, (Q.br w fr g o).d), some (.sh, .int 2), none]) ?_ rfl rfl
    rw [show initS [] 3 [(Q.br w fr g o).d] = [some (.sh, (Q.br w fr g o).d), none, none] from rfl]
    unfold b10 partsD
    rw [show (Q.br w fr g o).does = .tup (.str w :: fr.map At.d) from rfl, show ((Q.br w fr g o).goals.map fun (g : Nat) => D.int g) = [.int g, .int o] from rfl]
    generalize (Q.br w fr g o).d = S at *
    generalize D.tup (.str w :: fr.map At.d) = F at *
    simp (implicitDefEqProofs := false) [i0, c1, c2, eq_false n1, eq_false n2, n3, e3, z2]
  | pl w fr g =>
    obtain ⟨w1, w2, w3, w4, _, h2, h3⟩ := h
    have i0 : ixD (Q.pl w fr g).d (.int 0) = some (false, .str w) := ix0
    have c1 : sliceD none (some (-1)) (Q.pl w fr g).d = some (false, .tup (.str w :: fr.map At.d)) := cut_front (m := 1) (by decide) rfl
    have c2 : sliceD (some (-1)) none (Q.pl w fr g).d = some (false, .tup [.int g]) := cut_back (m := 1) (by decide) rfl
    have n3 : memB ["if", "while"] w = false := by unfold memB; simp [w1, w2]
    have e3 := iw_lst (x := w)
    refine runF_rt (s := [some (.sh, (Q.pl w fr g).d), some (.sh, .int 1), none]) ?_ rfl rfl
    rw [show initS [] 3 [(Q.pl w fr g).d] = [some (.sh, (Q.pl w fr g).d), none, none] from rfl]
    unfold b10 partsD
    rw [show (Q.pl w fr g).does = .tup (.str w :: fr.map At.d) from rfl, show ((Q.pl w fr g).goals.map fun (g : Nat) => D.int g) = [.int g] from rfl]
    generalize (Q.pl w fr g).d = S at *
    generalize D.tup (.str w :: fr.map At.d) = F at *
    simp (implicitDefEqProofs := false) [i0, c1, c2, eq_false w3, eq_false w4, n3, e3, z2]
/-- with_goals -/
def gsD (gs : List Nat) : List D := gs.map fun (g : Nat) => D.int g
theorem wg_loop {a0 a1 : Slot} : ∀ (l : List (Str × Str × Nat)) (gs : List Nat) (acc : List D), gs.length = l.length → acc.length + l.length ≤ sizeLine →
    lcL (.tp [.nm 2, .nm 3]) yesM (tupM [(binM ixD (.sl 2) (.ex (constM (.int 0)))), (binM ixD (.sl 2) (.ex (constM (.int 1)))), (varM 3)]) [2, 3] (((l.map triD).zip (gsD gs)).map fun q => D.tup [q.1, q.2]) acc [a0, a1, none, none] = .ok (acc ++ (reL l gs).map triD) [a0, a1, none, none]
  | [], gs, acc, _, _ => by cases gs <;> simp [lcL, reL]
  | t :: l, [], acc, h, _ => by simp at h
  | t :: l, g :: gs, acc, hl, h => by
    rw [List.length_cons] at h
    have hl' : gs.length = l.length := by simpa using hl
    have ih := wg_loop (a0 := a0) (a1 := a1) l gs (acc ++ [triD (t.1, t.2.1, g)]) hl' (by rw [List.length_append]; simp only [List.length_cons, List.length_nil]; omega)
    have hz : acc.length < sizeLine := by omega
    have z3 : (3 : Nat) ≤ sizeLine := by decide
    have i0 : ixD (triD t) (.int 0) = some (false, .str t.1) := rfl
    have i1 : ixD (triD t) (.int 1) = some (false, .str t.2.1) := rfl
    have pu : (Tg.tp [.nm 2, .nm 3]).put (D.tup [triD t, .int g]) [a0, a1, none, none] = some [a0, a1, some (.sh, triD t), some (.sh, .int g)] := by
      rw [Tg.put]; rfl
    rw [reL, show acc ++ ((t.1, t.2.1, g) :: reL l gs).map triD = acc ++ [triD (t.1, t.2.1, g)] ++ (reL l gs).map triD by simp, ← ih]
    show lcL _ _ _ _ (D.tup [triD t, .int g] :: ((l.map triD).zip (gsD gs)).map fun q => D.tup [q.1, q.2]) _ _ = _
    rw [lcL, pu]
    rw [show triD (t.1, t.2.1, g) = .tup [.str t.1, .str t.2.1, .int g] from rfl]
    generalize triD t = T at *
    simp (implicitDefEqProofs := false) [nox, hz, killAll, i0, i1, z3]
end
end K11

namespace K11
open PySem PySem.Spec PyProof.Rows L2 PV
/-! ### with_goals -/
section
variable {W : World} {k : Nat} {q : Q} {gs : List Nat}
theorem with_goals (h : q.ok) (hl : gs.length = q.goals.length) : sem W (k + 2) 3 [q.d, .lst (gsD gs)] = .ret false (q.re gs).d [] := by
  have z3 : (3 : Nat) ≤ sizeLine := by decide
  rw [se3]
  cases q with
  | en =>
    refine runF_rt (s := [some (.sh, .tup [.str "end"]), some (.sh, .lst (gsD gs)), none, none]) ?_ rfl rfl
    rw [show initS [] 4 [Q.en.d, .lst (gsD gs)] = [some (.sh, .tup [.str "end"]), some (.sh, .lst (gsD gs)), none, none] from rfl]
    have i0 : ixD (.tup [.str "end"]) (.int 0) = some (false, .str "end") := ix0
    rw [show (Q.en.re gs).d = .tup [.str "end"] from rfl]
    unfold b3
    generalize D.tup [.str "end"] = S at *
    simp (implicitDefEqProofs := false) [i0]
  | gt b l =>
    obtain ⟨h1, h2, h3⟩ := h
    have hl' : gs.length = l.length := by simpa [Q.goals] using hl
    have e1 := wg_loop (a0 := some (.sh, .tup [.str "get", .str b, .tup (l.map triD)])) (a1 := some (.sh, .lst (gsD gs))) l gs [] hl' (by rw [sizeLine_eq]; simp only [List.length_nil]; omega)
    rw [List.nil_append] at e1
    have i0 : ixD (.tup [.str "get", .str b, .tup (l.map triD)]) (.int 0) = some (false, .str "get") := ix0
    have i1 : ixD (.tup [.str "get", .str b, .tup (l.map triD)]) (.int 1) = some (false, .str b) := rfl
    have i2 : ixD (.tup [.str "get", .str b, .tup (l.map triD)]) (.int 2) = some (false, .tup (l.map triD)) := rfl
    have k1 : killAll [some (.sh, D.tup [.str "get", .str b, .tup (l.map triD)]), some (.sh, .lst (gsD gs)), none, none] [2, 3] = [some (.sh, .tup [.str "get", .str b, .tup (l.map triD)]), some (.sh, .lst (gsD gs)), none, none] := rfl
    have ne : ¬ (("get" : Str) = "end") := by decide
    refine runF_rt (s := [some (.sh, .tup [.str "get", .str b, .tup (l.map triD)]), some (.sh, .lst (gsD gs)), none, none]) ?_ rfl rfl
    rw [show initS [] 4 [(Q.gt b l).d, .lst (gsD gs)] = [some (.sh, .tup [.str "get", .str b, .tup (l.map triD)]), some (.sh, .lst (gsD gs)), none, none] from rfl]
    rw [show ((Q.gt b l).re gs).d = .tup [.str "get", .str b, .tup ((reL l gs).map triD)] from rfl]
    have ez : zipTD (l.map triD) (gsD gs) = ((l.map triD).zip (gsD gs)).map fun q => D.tup [q.1, q.2] := rfl
    rw [← ez] at e1
    unfold b3
    generalize (reL l gs).map triD = RL at *
    generalize D.tup [.str "get", .str b, .tup (l.map triD)] = S at *
    generalize l.map triD = ts at *
    generalize gsD gs = GS at *
    simp (implicitDefEqProofs := false) [i0, i1, i2, k1, e1, ne, toTup, z3]
  | br w fr g o =>
    match gs, hl with
    | [a, c], _ =>
      have hp := parts (W := W) (k := k) h
      obtain ⟨hw, _, h2, h3⟩ := h
      have i0 : ixD (Q.br w fr g o).d (.int 0) = some (false, .str w) := ix0
      have n1 : ¬ (w = "end") := by rcases hw with rfl | rfl <;> decide
      have n2 : ¬ (w = "get") := by rcases hw with rfl | rfl <;> decide
      have ip : ixD (partsD (Q.br w fr g o)) (.int 0) = some (false, .tup (.str w :: fr.map At.d)) := ix0
      have hs : (D.str w :: fr.map At.d).length + 2 ≤ sizeLine := by simp only [List.length_cons, List.length_map]; rw [sizeLine_eq]; omega
      refine runF_rt (s := [some (.sh, (Q.br w fr g o).d), some (.sh, .lst [.int a, .int c]), none, none]) ?_ rfl rfl
      rw [show initS [] 4 [(Q.br w fr g o).d, .lst (gsD [a, c])] = [some (.sh, (Q.br w fr g o).d), some (.sh, .lst [.int a, .int c]), none, none] from rfl]
      rw [show ((Q.br w fr g o).re [a, c]).d = .tup ((.str w :: fr.map At.d) ++ [.int a, .int c]) from rfl]
      unfold b3
      generalize partsD (Q.br w fr g o) = PD at *
      generalize (Q.br w fr g o).d = S at *
      generalize (D.str w :: fr.map At.d) = F at *
      simp (implicitDefEqProofs := false) [i0, eq_false n1, eq_false n2, hp, ip, toTup, hs]
  | pl w fr g =>
    match gs, hl with
    | [a], _ =>
      have hp := parts (W := W) (k := k) h
      obtain ⟨w1, w2, w3, w4, _, h2, h3⟩ := h
      have i0 : ixD (Q.pl w fr g).d (.int 0) = some (false, .str w) := ix0
      have ip : ixD (partsD (Q.pl w fr g)) (.int 0) = some (false, .tup (.str w :: fr.map At.d)) := ix0
      have hs : (D.str w :: fr.map At.d).length + 1 ≤ sizeLine := by simp only [List.length_cons, List.length_map]; rw [sizeLine_eq]; omega
      refine runF_rt (s := [some (.sh, (Q.pl w fr g).d), some (.sh, .lst [.int a]), none, none]) ?_ rfl rfl
      rw [show initS [] 4 [(Q.pl w fr g).d, .lst (gsD [a])] = [some (.sh, (Q.pl w fr g).d), some (.sh, .lst [.int a]), none, none] from rfl]
      rw [show ((Q.pl w fr g).re [a]).d = .tup ((.str w :: fr.map At.d) ++ [.int a]) from rfl]
      unfold b3
      generalize partsD (Q.pl w fr g) = PD at *
      generalize (Q.pl w fr g).d = S at *
      generalize (D.str w :: fr.map At.d) = F at *
      simp (implicitDefEqProofs := false) [i0, eq_false w3, eq_false w4, hp, ip, toTup, hs]
end
end K11

namespace K11
open PySem PySem.Spec PyProof.Rows L2 PV
/-! ### numbers of keys -/
def ix : List NestedKey → NestedKey → Option Nat
  | [], _ => none
  | x :: xs, k => if x = k then some 0 else (ix xs k).map (· + 1)
def en : Nat → List NestedKey → List (NestedKey × Int)
  | _, [] => []
  | i, x :: xs => (x, (i : Int)) :: en (i + 1) xs
theorem en_get {k : NestedKey} : ∀ (xs : List NestedKey) (o : Nat), nget (en o xs) k = (ix xs k).map fun i => ((o + i : Nat) : Int)
  | [], _ => rfl
  | x :: xs, o => by
    have ih := en_get (k := k) xs (o + 1)
    unfold nget at ih ⊢
    rw [en, ix]
    by_cases e : x = k
    · subst e; simp
    · rw [List.find?_cons_of_neg (by simpa using e), if_neg e, ih]
      cases ix xs k with
      | none => rfl
      | some i => simp; omega
theorem en_app {k : NestedKey} : ∀ (xs : List NestedKey) (o : Nat), en o (xs ++ [k]) = en o xs ++ [(k, ((o + xs.length : Nat) : Int))]
  | [], o => rfl
  | x :: xs, o => by
    rw [List.cons_append, en, en, en_app xs (o + 1), List.cons_append, List.length_cons]
    congr 4
    omega
theorem en_len : ∀ (xs : List NestedKey) (o : Nat), (en o xs).length = xs.length
  | [], _ => rfl
  | x :: xs, o => by rw [en, List.length_cons, List.length_cons, en_len xs]
theorem ix_some {k : NestedKey} : ∀ {xs : List NestedKey} {i : Nat}, ix xs k = some i → xs[i]? = some k
  | [], _, h => by cases h
  | x :: xs, i, h => by
    rw [ix] at h
    by_cases e : x = k
    · rw [if_pos e] at h; cases h; subst e; rfl
    · rw [if_neg e] at h
      obtain ⟨j, h1, rfl⟩ := Option.map_eq_some_iff.mp h
      simpa using ix_some h1
theorem ix_mem {k : NestedKey} : ∀ {xs : List NestedKey}, k ∈ xs ↔ (ix xs k).isSome = true
  | [] => by simp [ix]
  | x :: xs => by
    rw [ix, List.mem_cons]
    by_cases e : x = k
    · rw [if_pos e]; simp [e]
    · rw [if_neg e, ix_mem (xs := xs), Option.isSome_map]
      exact ⟨fun h => h.elim (fun h => absurd h.symm e) id, .inr⟩
theorem ix_app {k : NestedKey} {ys : List NestedKey} : ∀ {xs : List NestedKey} {i : Nat}, ix xs k = some i → ix (xs ++ ys) k = some i
  | [], _, h => by cases h
  | x :: xs, i, h => by
    rw [ix] at h
    rw [List.cons_append, ix]
    by_cases e : x = k
    · rw [if_pos e] at h ⊢; exact h
    · rw [if_neg e] at h ⊢
      obtain ⟨j, h1, rfl⟩ := Option.map_eq_some_iff.mp h
      rw [ix_app h1]; rfl
theorem ix_new {k : NestedKey} : ∀ {xs : List NestedKey}, ix xs k = none → ix (xs ++ [k]) k = some xs.length
  | [], _ => by simp [ix]
  | x :: xs, h => by
    rw [ix] at h
    rw [List.cons_append, ix]
    by_cases e : x = k
    · rw [if_pos e] at h; cases h
    · rw [if_neg e] at h ⊢
      rw [ix_new (xs := xs) (by simpa using h)]; rfl
def num : List NestedKey → List NestedKey → List Nat × List NestedKey
  | nm, [] => ([], nm)
  | nm, k :: ks => match ix nm k with
    | some i => (i :: (num nm ks).1, (num nm ks).2)
    | none => (nm.length :: (num (nm ++ [k]) ks).1, (num (nm ++ [k]) ks).2)
structure NumOk (nm ks : List NestedKey) (r : List Nat × List NestedKey) : Prop where
  len : r.1.length = ks.length
  ext : ∃ t, r.2 = nm ++ t
  mem : ∀ k, k ∈ r.2 ↔ k ∈ nm ∨ k ∈ ks
  nd : nm.Nodup → r.2.Nodup
  at_ : ∀ i, i < ks.length → ix r.2 (ks.getD i .none) = some (r.1.getD i 0)
theorem num_ok : ∀ (ks nm : List NestedKey), NumOk nm ks (num nm ks)
  | [], nm => ⟨rfl, ⟨[], by simp [num]⟩, fun k => by simp [num], fun h => h, fun i h => absurd h (by simp)⟩
  | k :: ks, nm => by
    rw [num]
    cases e : ix nm k with
    | some i =>
      have o := num_ok ks nm
      obtain ⟨t, ht⟩ := o.ext
      refine ⟨by simp [o.len], o.ext, fun x => ?_, o.nd, fun j hj => ?_⟩
      · rw [o.mem, List.mem_cons]
        constructor
        · rintro (h | h)
          · exact .inl h
          · exact .inr (.inr h)
        · rintro (h | h | h)
          · exact .inl h
          · subst h; exact .inl (ix_mem.mpr (by rw [e]; rfl))
          · exact .inr h
      · cases j with
        | zero =>
          show ix (num nm ks).2 k = some i
          rw [ht]
          exact ix_app e
        | succ j => exact o.at_ j (by simpa using hj)
    | none =>
      have o := num_ok ks (nm ++ [k])
      obtain ⟨t, ht⟩ := o.ext
      refine ⟨by simp [o.len], ⟨[k] ++ t, by rw [ht, List.append_assoc]⟩, fun x => ?_, fun h => o.nd ?_, fun j hj => ?_⟩
      · rw [o.mem, List.mem_cons, List.mem_append, List.mem_singleton]
        constructor
        · rintro ((h | h) | h)
          · exact .inl h
          · exact .inr (.inl h)
          · exact .inr (.inr h)
        · rintro (h | h | h)
          · exact .inl (.inl h)
          · exact .inl (.inr h)
          · exact .inr h
      · rw [List.nodup_append]
        refine ⟨h, by simp, fun a ha b hb => ?_⟩
        rw [List.mem_singleton.mp hb]
        rintro rfl
        have := ix_mem.mp ha
        rw [e] at this; cases this
      · cases j with
        | zero =>
          show ix (num (nm ++ [k]) ks).2 k = some nm.length
          rw [ht]
          exact ix_app (ix_new e)
        | succ j => exact o.at_ j (by simpa using hj)
theorem num_eq {ks : List NestedKey} {i j : Nat} (hi : i < ks.length) (hj : j < ks.length) : (num [] ks).1.getD i 0 = (num [] ks).1.getD j 0 ↔ ks.getD i .none = ks.getD j .none := by
  have o := num_ok ks []
  have h1 := o.at_ i hi
  have h2 := o.at_ j hj
  constructor
  · intro e
    rw [e] at h1
    have a := ix_some h1
    have b := ix_some h2
    rw [a] at b
    exact Option.some.inj b
  · intro e
    rw [e, h2] at h1
    exact (Option.some.inj h1).symm
theorem nodup_subK {α : Type} [DecidableEq α] {l m : List α} (h : l.Nodup) (s : ∀ x, x ∈ l → x ∈ m) : l.length ≤ m.length := by
  induction l generalizing m with
  | nil => exact Nat.zero_le _
  | cons x l ih =>
    obtain ⟨h1, h2⟩ := List.nodup_cons.mp h
    have hm := s x List.mem_cons_self
    have := ih (m := m.erase x) h2 fun y hy => by
      have hne : y ≠ x := fun e => h1 (e ▸ hy)
      exact (List.mem_erase_of_ne hne).mpr (s y (List.mem_cons_of_mem _ hy))
    rw [List.length_erase_of_mem hm] at this
    have hp : 0 < m.length := List.length_pos_of_mem hm
    rw [List.length_cons]
    omega
/-- as many names as classes -/
theorem num_cnt {ks : List NestedKey} {F : Nat → Nat → Bool} (hF : ∀ i j, i < ks.length → j < ks.length → (F i j = true ↔ ks.getD i .none = ks.getD j .none)) : (num [] ks).2.length = (reps F ks.length).length := by
  have o := num_ok ks []
  have nd := o.nd List.nodup_nil
  have hnd : ((reps F ks.length).map fun i => ks.getD i .none).Nodup := by
    have key : ∀ l : List Nat, l.Nodup → (∀ x, x ∈ l → x ∈ reps F ks.length) → (l.map fun i => ks.getD i .none).Nodup := by
      intro l
      induction l with
      | nil => intro _ _; exact List.nodup_nil
      | cons x l ih =>
        intro h s
        obtain ⟨h1, h2⟩ := List.nodup_cons.mp h
        rw [List.map_cons]
        refine List.nodup_cons.mpr ⟨fun m => ?_, ih h2 fun y hy => s y (List.mem_cons_of_mem _ hy)⟩
        obtain ⟨y, hy, e⟩ := List.mem_map.mp m
        obtain ⟨x1, x2⟩ := mem_reps.mp (s x List.mem_cons_self)
        obtain ⟨y1, y2⟩ := mem_reps.mp (s y (List.mem_cons_of_mem _ hy))
        have hxy := (hF x y x1 y1).mpr e.symm
        have hyx := (hF y x y1 x1).mpr e
        rcases Nat.lt_trichotomy x y with h | h | h
        · rw [y2 x h] at hyx; cases hyx
        · exact h1 (h ▸ hy)
        · rw [x2 y h] at hxy; cases hxy
    exact key _ (reps_nodup _ _) fun x hx => hx
  have getm : ∀ i, i < ks.length → ks.getD i .none ∈ ks := fun i hi => by
    simp [List.getD, List.getElem?_eq_getElem hi]
  refine Nat.le_antisymm ?_ ?_
  · have := nodup_subK (l := (num [] ks).2) (m := (reps F ks.length).map fun i => ks.getD i .none) nd fun k hk => by
      have hk2 := ((o.mem k).mp hk).elim (fun h => absurd h (by simp)) id
      obtain ⟨i, hi, rfl⟩ := List.mem_iff_getElem.mp hk2
      have eg : ∀ j (hj : j < ks.length), ks.getD j .none = ks[j] := fun j hj => by simp [List.getD, List.getElem?_eq_getElem hj]
      have : ∃ a, a ∈ reps F ks.length ∧ ks.getD a .none = ks.getD i .none := by
        induction i using Nat.strongRecOn with
        | ind i ih =>
          by_cases q : ∃ j, j < i ∧ F i j = true
          · obtain ⟨j, hj, e⟩ := q
            have hj2 : j < ks.length := by omega
            obtain ⟨a, h1, h2⟩ := ih j hj hj2 ((o.mem _).mpr (.inr (List.getElem_mem hj2))) (List.getElem_mem hj2)
            exact ⟨a, h1, h2.trans ((hF i j hi hj2).mp e).symm⟩
          · refine ⟨i, mem_reps.mpr ⟨hi, fun j hj => ?_⟩, rfl⟩
            cases e : F i j with
            | false => rfl
            | true => exact absurd ⟨j, hj, e⟩ q
      obtain ⟨a, h1, h2⟩ := this
      exact List.mem_map.mpr ⟨a, h1, h2.trans (eg i hi)⟩
    rwa [List.length_map] at this
  · have := nodup_subK hnd (m := (num [] ks).2) fun k hk => by
      obtain ⟨i, hi, rfl⟩ := List.mem_map.mp hk
      exact (o.mem _).mpr (.inr (getm i (mem_reps.mp hi).1))
    rwa [List.length_map] at this
/-! ### the keys of each turn -/
def key0 (q : Q) : NestedKey := .tup [q.nk, .tup []]
def keyS (N : List Nat) (T : List Q) (k : Nat) : NestedKey := .tup [.num (N.getD k 0), .tup ((gl T k).map fun g => .num (N.getD g 0))]
theorem map_getD {α : Type} {f : Nat → NestedKey} {n i : Nat} (h : i < n) : ((List.range n).map f).getD i .none = f i := by
  simp [List.getD, h]
theorem keyS_eq {T : List Q} {N : List Nat} {r : Nat} (C : TabOk T) (hN : ∀ k j, k < T.length → j < T.length → (N.getD k 0 = N.getD j 0 ↔ E T r k j = true)) {k j : Nat} (hk : k < T.length) (hj : j < T.length) : keyS N T k = keyS N T j ↔ E T (r + 1) k j = true := by
  rw [E_succ]
  constructor
  · intro h
    unfold keyS at h
    injection h with h
    injection h with h1 h2
    injection h1 with h1
    injection h2 with h2 _
    injection h2 with h2
    have e := (hN k j hk hj).mp (by omega)
    refine ⟨e, fun i hi => ?_⟩
    have hl := gl_len C hk hj e
    have g1 := gl_lt C hk hi
    have g2 := gl_lt C hj (i := i) (by omega)
    refine (hN _ _ g1 g2).mp ?_
    have := congrArg (fun l => l[i]?) h2
    simp only [List.getElem?_map] at this
    have e1 : (gl T k)[i]? = some ((gl T k).getD i 0) := by simp [List.getD, List.getElem?_eq_getElem hi]
    have e2 : (gl T j)[i]? = some ((gl T j).getD i 0) := by simp [List.getD, List.getElem?_eq_getElem (show i < (gl T j).length by omega)]
    rw [e1, e2] at this
    simp only [Option.map_some, Option.some.injEq, NestedKey.num.injEq] at this
    omega
  · rintro ⟨e, h⟩
    unfold keyS
    have hl := gl_len C hk hj e
    congr 2
    · have := (hN k j hk hj).mpr e
      rw [this]
    · congr 2
      apply List.ext_getElem
      · simp [hl]
      · intro i h1 h2
        rw [List.length_map] at h1 h2
        rw [List.getElem_map, List.getElem_map]
        have := (hN _ _ (gl_lt C hk h1) (gl_lt C hj h2)).mpr (h i h1)
        have e1 : (gl T k).getD i 0 = (gl T k)[i] := by simp [List.getD, List.getElem?_eq_getElem h1]
        have e2 : (gl T j).getD i 0 = (gl T j)[i] := by simp [List.getD, List.getElem?_eq_getElem h2]
        rw [e1, e2] at this
        rw [this]
theorem key0_eq {q q' : Q} : key0 q = key0 q' ↔ q.nk = q'.nk := by
  unfold key0
  constructor
  · intro h
    injection h with h
    injection h with h _
  · intro h
    rw [h]
end K11

namespace K11
open PySem PySem.Spec PyProof.Rows L2 PV
/-! ### classes -/
theorem at_nk (a : At) : a.d.nk = some a.nk := by
  cases a <;> simp [At.d, At.nk, D.nk, D.nks]
theorem ats_nk : ∀ l : List At, D.nks (l.map At.d) = some (l.map At.nk)
  | [] => by simp [D.nks]
  | a :: l => by simp [D.nks, at_nk, ats_nk l]
theorem prs_nk : ∀ l : List (Str × Str × Nat), D.nks (l.map pairD) = some (l.map fun t => .tup [.text t.1, .text t.2.1])
  | [] => by simp [D.nks]
  | t :: l => by simp [D.nks, D.nk, pairD, prs_nk l]
theorem does_nk (q : Q) : q.does.nk = some q.nk := by
  cases q with
  | en => simp [Q.does, Q.nk, D.nk, D.nks]
  | gt b l => simp [Q.does, Q.nk, D.nk, D.nks, prs_nk]
  | br w fr g o => simp [Q.does, Q.nk, D.nk, D.nks, ats_nk]
  | pl w fr g => simp [Q.does, Q.nk, D.nk, D.nks, ats_nk]
theorem dall {n : Nat} : ∀ {l : List NestedKey}, (∀ k, k ∈ l → k.depth ≤ n) → NestedKey.depthAll l ≤ n
  | [], _ => by simp [NestedKey.depthAll]
  | k :: l, h => by
    rw [NestedKey.depthAll]
    have h1 := h k List.mem_cons_self
    have h2 := dall (l := l) fun x hx => h x (List.mem_cons_of_mem _ hx)
    omega
theorem at_dep (a : At) : a.nk.depth ≤ 1 := by cases a <;> simp [At.nk, NestedKey.depth, NestedKey.depthAll]
theorem nk_dep (q : Q) : q.nk.depth ≤ 4 := by
  cases q with
  | en => simp [Q.nk, NestedKey.depth, NestedKey.depthAll]
  | gt b l =>
    have := dall (n := 1) (l := l.map fun t => NestedKey.tup [.text t.1, .text t.2.1]) fun k hk => by
      obtain ⟨t, _, rfl⟩ := List.mem_map.mp hk
      simp [NestedKey.depth, NestedKey.depthAll]
    simp only [Q.nk, NestedKey.depth, NestedKey.depthAll]
    omega
  | br w fr g o =>
    have := dall (n := 1) (l := fr.map At.nk) fun k hk => by
      obtain ⟨t, _, rfl⟩ := List.mem_map.mp hk
      exact at_dep t
    simp only [Q.nk, NestedKey.depth, NestedKey.depthAll]
    omega
  | pl w fr g =>
    have := dall (n := 1) (l := fr.map At.nk) fun k hk => by
      obtain ⟨t, _, rfl⟩ := List.mem_map.mp hk
      exact at_dep t
    simp only [Q.nk, NestedKey.depth, NestedKey.depthAll]
    omega
/-- contents and key of a tuple -/
structure KeyOk (p : List D × NestedKey) : Prop where
  k : ∃ l, D.nks p.1 = some l ∧ p.2 = .tup l
  d : p.2.depth ≤ 8
def k0 (q : Q) : List D × NestedKey := ([q.does, .tup []], key0 q)
def kS (N : List Nat) (T : List Q) (k : Nat) : List D × NestedKey := ([.int (N.getD k 0 : Nat), .tup ((gl T k).map fun g => .int (N.getD g 0 : Nat))], keyS N T k)
theorem k0_ok (q : Q) : KeyOk (k0 q) := by
  refine ⟨⟨[q.nk, .tup []], by simp [k0, D.nks, D.nk, does_nk], rfl⟩, ?_⟩
  have := nk_dep q
  simp only [k0, key0, NestedKey.depth, NestedKey.depthAll]
  omega
theorem nums_nk {N : List Nat} : ∀ l : List Nat, D.nks (l.map fun g => D.int (N.getD g 0 : Nat)) = some (l.map fun g => NestedKey.num (N.getD g 0))
  | [] => by simp [D.nks]
  | g :: l => by simp only [List.map_cons, D.nks, D.nk, nums_nk l, Option.bind_some, Option.map_some]
theorem kS_ok (N : List Nat) (T : List Q) (k : Nat) : KeyOk (kS N T k) := by
  refine ⟨⟨[.num (N.getD k 0), .tup ((gl T k).map fun g => .num (N.getD g 0))], by simp only [kS, D.nks, D.nk, nums_nk, Option.bind_some, Option.map_some], rfl⟩, ?_⟩
  have := dall (n := 0) (l := (gl T k).map fun g => NestedKey.num (N.getD g 0)) fun k hk => by
    obtain ⟨t, _, rfl⟩ := List.mem_map.mp hk
    simp [NestedKey.depth]
  simp only [kS, keyS, NestedKey.depth, NestedKey.depthAll]
  omega
section
variable {W : World} {a0 a1 a2 a3 a4 a5 a6 a7 a8 a9 a10 a11 : Slot}
theorem sd_loop : ∀ (ks : List (List D × NestedKey)) (nm : List NestedKey) (acc : List D), (∀ p, p ∈ ks → KeyOk p) → nm.length + ks.length ≤ 1000 → acc.length + ks.length ≤ sizeLine →
    lcL (.nm 9) yesM (setdM W 4 (varM 9) (unM lenN (.sl 4))) [9] (ks.map fun p => .tup p.1) acc [a0, a1, a2, a3, some (.ow, .dnt W (en 0 nm)), a5, a6, a7, a8, none, a10, a11] =
      .ok (acc ++ gsD (num nm (ks.map (·.2))).1) [a0, a1, a2, a3, some (.ow, .dnt W (en 0 (num nm (ks.map (·.2))).2)), a5, a6, a7, a8, none, a10, a11]
  | [], nm, acc, _, _, _ => by simp [lcL, num, gsD]
  | p :: ks, nm, acc, hk, hz, hz2 => by
    rw [List.length_cons] at hz hz2
    obtain ⟨⟨l, e1, e2⟩, hd⟩ := hk p List.mem_cons_self
    have hk' : ∀ p, p ∈ ks → KeyOk p := fun q hq => hk q (List.mem_cons_of_mem _ hq)
    have hacc : acc.length < sizeLine := by omega
    have hel : (en 0 nm).length = nm.length := en_len nm 0
    have hel2 : (en 0 nm).length < sizeLine := by rw [hel, sizeLine_eq]; omega
    have eg := en_get (k := p.2) nm 0
    rw [e2] at eg hd
    have hid : isDnt W [a0, a1, a2, a3, some (.ow, .dnt W (en 0 nm)), a5, a6, a7, a8, some (.sh, .tup p.1), a10, a11] 4 = true := gd_yes rfl
    have elN : lenN (.dnt W (en 0 nm)) = some (false, .int nm.length) := by
      show some (false, D.int ((en 0 nm).length : Nat)) = _
      rw [hel]
    have hgd : gd (W = W) = true := gd_yes rfl
    rw [List.map_cons, List.map_cons, lcL, ev_putN, e2]
    rw [num]
    cases q : ix nm (.tup l) with
    | some i =>
      rw [q] at eg
      have eg : nget (en 0 nm) (.tup l) = some (i : Int) := by rw [eg]; simp
      have ih := sd_loop ks nm (acc ++ [.int i]) hk' (by omega) (by rw [List.length_append]; simp only [List.length_cons, List.length_nil]; omega)
      show _ = Res.ok (acc ++ gsD (i :: (num nm (ks.map (·.2))).1)) [a0, a1, a2, a3, some (.ow, .dnt W (en 0 (num nm (ks.map (·.2))).2)), a5, a6, a7, a8, none, a10, a11]
      rw [show acc ++ gsD (i :: (num nm (ks.map (·.2))).1) = acc ++ [.int i] ++ gsD (num nm (ks.map (·.2))).1 by simp [gsD], ← ih]
      generalize en 0 nm = EN at *
      generalize p.1 = P at *
      simp (implicitDefEqProofs := false) [-v_lenN, nox, hid, e1, hd, hel2, eg, elN, hgd, hacc, killAll]
    | none =>
      rw [q] at eg
      have eg : nget (en 0 nm) (.tup l) = none := by rw [eg]; rfl
      have ih := sd_loop ks (nm ++ [.tup l]) (acc ++ [.int nm.length]) hk' (by rw [List.length_append]; simp only [List.length_cons, List.length_nil]; omega) (by rw [List.length_append]; simp only [List.length_cons, List.length_nil]; omega)
      have ea : en 0 (nm ++ [.tup l]) = en 0 nm ++ [(.tup l, (nm.length : Int))] := by rw [en_app]; simp
      rw [ea] at ih
      show _ = Res.ok (acc ++ gsD (nm.length :: (num (nm ++ [.tup l]) (ks.map (·.2))).1)) [a0, a1, a2, a3, some (.ow, .dnt W (en 0 (num (nm ++ [.tup l]) (ks.map (·.2))).2)), a5, a6, a7, a8, none, a10, a11]
      rw [show acc ++ gsD (nm.length :: (num (nm ++ [.tup l]) (ks.map (·.2))).1) = acc ++ [.int nm.length] ++ gsD (num (nm ++ [.tup l]) (ks.map (·.2))).1 by simp [gsD], ← ih]
      generalize en 0 nm = EN at *
      generalize p.1 = P at *
      simp (implicitDefEqProofs := false) [-v_lenN, nox, hid, e1, hd, hel2, eg, elN, hgd, hacc, killAll]
theorem ix_gs {N : List Nat} {g : Nat} (h : g < N.length) : ixD (.lst (gsD N)) (.int g) = some (false, .int (N.getD g 0 : Nat)) := by
  unfold gsD
  rw [v_ixL, at_nat, List.getElem?_map, List.getElem?_eq_getElem h]
  simp [List.getD, List.getElem?_eq_getElem h]
theorem gn_loop {N : List Nat} : ∀ (gs : List Nat) (acc : List D), (∀ g, g ∈ gs → g < N.length) → acc.length + gs.length ≤ sizeLine →
    lcL (.nm 11) yesM (binM ixD (.sl 5) (.sl 11)) [11] (gsD gs) acc [a0, a1, a2, a3, a4, some (.ow, .lst (gsD N)), a6, a7, a8, a9, a10, none] = .ok (acc ++ gs.map fun g => D.int (N.getD g 0 : Nat)) [a0, a1, a2, a3, a4, some (.ow, .lst (gsD N)), a6, a7, a8, a9, a10, none]
  | [], acc, _, _ => by simp [lcL, gsD]
  | g :: gs, acc, hg, h => by
    rw [List.length_cons] at h
    have ih := gn_loop gs (acc ++ [.int (N.getD g 0 : Nat)]) (fun x hx => hg x (List.mem_cons_of_mem _ hx)) (by rw [List.length_append]; simp only [List.length_cons, List.length_nil]; omega)
    have hz : acc.length < sizeLine := by omega
    have ei := ix_gs (hg g List.mem_cons_self)
    rw [show acc ++ (g :: gs).map (fun g => D.int (N.getD g 0 : Nat)) = acc ++ [D.int (N.getD g 0 : Nat)] ++ gs.map fun g => D.int (N.getD g 0 : Nat) by simp, ← ih]
    show lcL _ _ _ _ (D.int g :: gsD gs) _ _ = _
    rw [lcL, ev_putN]
    generalize gsD N = GN at *
    generalize N.getD g 0 = y at *
    simp (implicitDefEqProofs := false) [-v_ixL, nox, hz, ei, killAll]
end
end K11

namespace K11
open PySem PySem.Spec PyProof.Rows L2 PV
def tabD (T : List Q) : D := .tup (T.map Q.d)
def splD (T : List Q) : D := .lst (T.map partsD)
theorem spl_at {T : List Q} {k : Nat} (h : k < T.length) : ixD (splD T) (.int k) = some (false, partsD (st T k)) := by
  unfold splD st
  rw [v_ixL, at_nat, List.getElem?_map, List.getElem?_eq_getElem h]
  simp [List.getD, List.getElem?_eq_getElem h]
theorem tab_at {T : List Q} {k : Nat} (h : k < T.length) : ixD (tabD T) (.int k) = some (false, (st T k).d) := by
  unfold tabD st
  rw [v_ixT, at_nat, List.getElem?_map, List.getElem?_eq_getElem h]
  simp [List.getD, List.getElem?_eq_getElem h]
theorem tab_len {T : List Q} : lenD (tabD T) = some (false, .int T.length) := by
  show some (false, D.int ((List.length (T.map Q.d) : Nat) : Int)) = _
  rw [List.length_map]
theorem pt1 {q : Q} : ixD (partsD q) (.int 1) = some (false, .tup (gsD q.goals)) := rfl
theorem pt0 {q : Q} : ixD (partsD q) (.int 0) = some (false, q.does) := rfl
noncomputable def kyM : M (Bool × D) := (tupM [(binM ixD (.sl 5) (.sl 10)), (unM toTup (.ex (compM (itM (binM ixD (.ex (binM ixD (.sl 1) (.sl 10))) (.ex (constM (.int 1))))) (.nm 11) yesM (binM ixD (.sl 5) (.sl 11)) [11])))])
section
variable {a0 a2 a3 a4 a6 a7 a8 a9 : Slot} {T : List Q} {N : List Nat}
theorem ky_one {k : Nat} (C : TabOk T) (hN : N.length = T.length) (hk : k < T.length) : kyM [a0, some (.sh, splD T), a2, a3, a4, some (.ow, .lst (gsD N)), a6, a7, a8, a9, some (.sh, .int k), none] =
    .ok (false, .tup (kS N T k).1) [a0, some (.sh, splD T), a2, a3, a4, some (.ow, .lst (gsD N)), a6, a7, a8, a9, some (.sh, .int k), none] := by
  have e1 := spl_at hk
  have e2 := pt1 (q := st T k)
  have e3 := ix_gs (N := N) (g := k) (by omega)
  have hgl : ∀ g, g ∈ gl T k → g < N.length := fun g hg => by rw [hN]; exact C.gs _ (st_mem hk) g hg
  have hlen : (gl T k).length ≤ 60 := by
    have ho := C.ok _ (st_mem hk)
    unfold gl
    cases e : st T k with
    | en => simp [Q.goals]
    | gt b l => rw [e] at ho; simpa [Q.goals] using ho.2.1
    | br w fr g o => simp [Q.goals]
    | pl w fr g => simp [Q.goals]
  have e4 := gn_loop (a0 := a0) (a1 := some (.sh, splD T)) (a2 := a2) (a3 := a3) (a4 := a4) (a6 := a6) (a7 := a7) (a8 := a8) (a9 := a9) (a10 := some (.sh, .int k)) (gl T k) [] hgl (by rw [sizeLine_eq]; simp only [List.length_nil]; omega)
  rw [List.nil_append] at e4
  have ek : killAll [a0, some (.sh, splD T), a2, a3, a4, some (.ow, .lst (gsD N)), a6, a7, a8, a9, some (.sh, .int k), none] [11] = [a0, some (.sh, splD T), a2, a3, a4, some (.ow, .lst (gsD N)), a6, a7, a8, a9, some (.sh, .int k), none] := rfl
  have z2 : (2 : Nat) ≤ sizeLine := by decide
  unfold kyM kS
  rw [show (st T k).goals = gl T k from rfl] at e2
  simp only []
  generalize (gl T k).map (fun g => D.int (N.getD g 0 : Nat)) = R at *
  generalize gsD (gl T k) = G at *
  generalize partsD (st T k) = P at *
  generalize splD T = S at *
  generalize gsD N = GN at *
  generalize N.getD k 0 = y at *
  simp (implicitDefEqProofs := false) [-v_ixL, -v_ixT, e1, e2, e3, e4, ek, toTup, z2]
theorem ky_loop (C : TabOk T) (hN : N.length = T.length) : ∀ (js : List Nat) (acc : List D), (∀ j, j ∈ js → j < T.length) → acc.length + js.length ≤ sizeLine →
    lcL (.nm 10) yesM kyM [10] (js.map fun i => .int (0 + (i : Nat))) acc [a0, some (.sh, splD T), a2, a3, a4, some (.ow, .lst (gsD N)), a6, a7, a8, a9, none, none] =
      .ok (acc ++ (js.map (kS N T)).map fun p => D.tup p.1) [a0, some (.sh, splD T), a2, a3, a4, some (.ow, .lst (gsD N)), a6, a7, a8, a9, none, none]
  | [], acc, _, _ => by simp [lcL]
  | j :: js, acc, h, hz => by
    rw [List.length_cons] at hz
    have hacc : acc.length < sizeLine := by omega
    have ih := ky_loop C hN js (acc ++ [.tup (kS N T j).1]) (fun i hi => h i (List.mem_cons_of_mem _ hi)) (by rw [List.length_append]; simp only [List.length_cons, List.length_nil]; omega)
    have e1 := ky_one (a0 := a0) (a2 := a2) (a3 := a3) (a4 := a4) (a6 := a6) (a7 := a7) (a8 := a8) (a9 := a9) C hN (h j List.mem_cons_self)
    rw [show acc ++ ((j :: js).map (kS N T)).map (fun p => D.tup p.1) = acc ++ [D.tup (kS N T j).1] ++ (js.map (kS N T)).map fun p => D.tup p.1 by simp, ← ih]
    rw [List.map_cons, lcL, ev_putN, Int.zero_add]
    generalize D.tup (kS N T j).1 = KD at *
    generalize splD T = S at *
    generalize gsD N = GN at *
    generalize kyM = KM at *
    simp (implicitDefEqProofs := false) [nox, e1, hacc, killAll]
end
noncomputable def clB (W : World) : M Fl := (seqM (setM 4 (emptyN W))
    (seqM (setM 5 (compM (itM (varM 2)) (.nm 9) yesM (setdM W 4 (varM 9) (unM lenN (.sl 4))) [9]))
    (seqM (iteM (truB (binM (eqS false) (.ex (unM lenN (.sl 4))) (.sl 3))) (retM (moveM 5)) nxM)
    (seqM (setM 3 (unM lenN (.sl 4)))
    (setM 2 (compM (rng1M (unM lenD (.sl 0))) (.nm 10) yesM kyM [10]))))))
def nio : Slot → Bool
  | some (.io, _) => false
  | _ => true
section
variable {a0 a1 a2 a3 a4 a5 a6 a7 a8 a9 a10 a11 x : Slot} {o : Own} {d : D}
theorem pc4 (h : nio x = true) : putS [a0, a1, a2, a3, x, a5, a6, a7, a8, a9, a10, a11] 4 o d = some [a0, a1, a2, a3, some (o, d), a5, a6, a7, a8, a9, a10, a11] := by
  match x, h with
  | none, _ => rfl
  | some (.sh, _), _ => rfl
  | some (.ow, _), _ => rfl
theorem pc5 (h : nio x = true) : putS [a0, a1, a2, a3, a4, x, a6, a7, a8, a9, a10, a11] 5 o d = some [a0, a1, a2, a3, a4, some (o, d), a6, a7, a8, a9, a10, a11] := by
  match x, h with
  | none, _ => rfl
  | some (.sh, _), _ => rfl
  | some (.ow, _), _ => rfl
theorem pc2 (h : nio x = true) : putS [a0, a1, x, a3, a4, a5, a6, a7, a8, a9, a10, a11] 2 o d = some [a0, a1, some (o, d), a3, a4, a5, a6, a7, a8, a9, a10, a11] := by
  match x, h with
  | none, _ => rfl
  | some (.sh, _), _ => rfl
  | some (.ow, _), _ => rfl
end
theorem nio_sh {d : D} : nio (some (.sh, d)) = true := rfl
theorem nio_ow {d : D} : nio (some (.ow, d)) = true := rfl
def cS (T : List Q) (ks : List (List D × NestedKey)) (o2 : Own) (c : Nat) (s4 s5 : Slot) : S := [some (.sh, tabD T), some (.sh, splD T), some (o2, .lst (ks.map fun p => .tup p.1)), some (.sh, .int c), s4, s5, none, none, none, none, none, none]
theorem cl_turn {W : World} {T : List Q} {ks : List (List D × NestedKey)} {o2 : Own} {c : Nat} {s4 s5 : Slot} (C : TabOk T) (ho : o2 ≠ .io) (hl : ks.length = T.length) (hk : ∀ p, p ∈ ks → KeyOk p) (h4 : nio s4 = true) (h5 : nio s5 = true) :
    if (num [] (ks.map (·.2))).2.length = c then ∃ s, clB W (cS T ks o2 c s4 s5) = .ok (.rt true (.lst (gsD (num [] (ks.map (·.2))).1))) s
    else ∃ t4 t5 : Slot, nio t4 = true ∧ nio t5 = true ∧ clB W (cS T ks o2 c s4 s5) = .ok .nx (cS T ((List.range T.length).map (kS (num [] (ks.map (·.2))).1 T)) .ow (num [] (ks.map (·.2))).2.length t4 t5) := by
  have hn := C.n1
  have hlen : (num [] (ks.map (·.2))).1.length = T.length := by rw [(num_ok _ _).len, List.length_map, hl]
  have e5 := sd_loop (W := W) (a0 := some (.sh, tabD T)) (a1 := some (.sh, splD T)) (a2 := some (.sh, .lst (ks.map fun p => .tup p.1))) (a3 := some (.sh, .int c)) (a5 := s5) (a6 := none) (a7 := none) (a8 := none) (a10 := none) (a11 := none) ks [] [] hk (by simp only [List.length_nil]; omega) (by rw [sizeLine_eq]; simp only [List.length_nil]; omega)
  rw [List.nil_append] at e5
  have e6 := ky_loop (a0 := some (.sh, tabD T)) (a2 := some (.sh, .lst (ks.map fun p => .tup p.1))) (a3 := some (.sh, .int ((num [] (ks.map (·.2))).2.length : Nat))) (a4 := some (.ow, .dnt W (en 0 (num [] (ks.map (·.2))).2))) (a6 := none) (a7 := none) (a8 := none) (a9 := none) C hlen (List.range T.length) [] (fun j hj => List.mem_range.mp hj) (by rw [sizeLine_eq, List.length_range]; simp only [List.length_nil]; omega)
  rw [List.nil_append] at e6
  have e6 : lcL (.nm 10) yesM kyM [10] (intsD 0 T.length) [] _ = _ := e6
  have eN : lenN (.dnt W (en 0 (num [] (ks.map (·.2))).2)) = some (false, .int ((num [] (ks.map (·.2))).2.length : Nat)) := by
    show some (false, D.int ((en 0 _).length : Nat)) = _
    rw [en_len]
  have er : rngD (.int T.length) = some (intsD 0 T.length) := rng_nat (by rw [sizeLine_eq]; omega)
  have et := tab_len (T := T)
  have en0 : en 0 [] = [] := rfl
  rw [en0] at e5
  unfold clB cS
  generalize (num [] (ks.map (·.2))).1 = N at *
  generalize hnm : (num [] (ks.map (·.2))).2 = NM at *
  have ceq : decide ((NM.length : Int) = (c : Int)) = decide (NM.length = c) := by rw [Bool.eq_iff_iff, decide_eq_true_iff, decide_eq_true_iff]; omega
  generalize ((List.range T.length).map (kS N T)) = KS at *
  generalize en 0 NM = EN at *
  generalize kyM = KM at *
  generalize (ks.map fun p => D.tup p.1) = KL at *
  generalize (KS.map fun p => D.tup p.1) = KL2 at *
  generalize gsD N = GN at *
  generalize tabD T = TD at *
  generalize splD T = SD at *
  by_cases q : NM.length = c
  · rw [if_pos q]
    have q2 : (NM.length : Int) = (c : Int) := by omega
    refine ⟨[some (.sh, TD), some (.sh, SD), some (.sh, .lst KL), some (.sh, .int c), some (.ow, .dnt W EN), none, none, none, none, none, none, none], ?_⟩
    cases o2 with
    | io => exact absurd rfl ho
    | sh => simp (implicitDefEqProofs := false) [-v_lenN, -ev_putS, pc4, pc5, h4, h5, killAll, e5, eN, q2]
    | ow => simp (implicitDefEqProofs := false) [-v_lenN, -ev_putS, pc4, pc5, h4, h5, killAll, e5, eN, q2]
  · rw [if_neg q]
    have q2 : ¬ ((NM.length : Int) = (c : Int)) := by omega
    refine ⟨some (.ow, .dnt W EN), some (.ow, .lst GN), rfl, rfl, ?_⟩
    have p3 : ∀ {a0 a1 a2 a4 a5 a6 a7 a8 a9 a10 a11 : Slot} {d e : D}, putS [a0, a1, a2, some (.sh, d), a4, a5, a6, a7, a8, a9, a10, a11] 3 .sh e = some [a0, a1, a2, some (.sh, e), a4, a5, a6, a7, a8, a9, a10, a11] := rfl
    cases o2 with
    | io => exact absurd rfl ho
    | sh => simp (implicitDefEqProofs := false) [-v_lenN, -ev_putS, pc4, pc5, pc2, p3, nio_sh, h4, h5, killAll, e5, eN, q2, et, er, e6]
    | ow => simp (implicitDefEqProofs := false) [-v_lenN, -ev_putS, pc4, pc5, pc2, p3, nio_sh, h4, h5, killAll, e5, eN, q2, et, er, e6]
end K11

namespace K11
open PySem PySem.Spec PyProof.Rows L2 PV
/-- numbers that tell who is alike -/
structure NumsOk (T : List Q) (N : List Nat) : Prop where
  len : N.length = T.length
  al : ∀ k j, k < T.length → j < T.length → (N.getD k 0 = N.getD j 0 ↔ Al T k j)
theorem cl_loop {W : World} {T : List Q} (C : TabOk T) (hn : 0 < T.length) {rs : Nat} (hs : Stable T rs) (hm : ∀ s, s < rs → ¬ Stable T s) : ∀ (m r : Nat) (ks : List (List D × NestedKey)) (o2 : Own) (c : Nat) (s4 s5 : Slot), r + m = rs + 1 → o2 ≠ .io → ks.length = T.length → (∀ p, p ∈ ks → KeyOk p) →
    (∀ k j, k < T.length → j < T.length → ((ks.map (·.2)).getD k .none = (ks.map (·.2)).getD j .none ↔ E T r k j = true)) → c = (if r = 0 then 0 else cnt T (r - 1)) → nio s4 = true → nio s5 = true →
    ∃ (N : List Nat) (s : S), NumsOk T N ∧ whileM (truM (.ex (constM (.bl true)))) (clB W) (cS T ks o2 c s4 s5) = .ok (.rt true (.lst (gsD N))) s := by
  intro m
  induction m with
  | zero =>
    intro r ks o2 c s4 s5 er ho hl hk hE hc h4 h5
    have hr : r = rs + 1 := by omega
    have hcnt : (num [] (ks.map (·.2))).2.length = cnt T r := by
      have := num_cnt (ks := ks.map (·.2)) (F := E T r) fun i j hi hj => (hE i j (by simpa [hl] using hi) (by simpa [hl] using hj)).symm
      rw [this, List.length_map, hl]; rfl
    have hcc : (num [] (ks.map (·.2))).2.length = c := by
      rw [hcnt, hc, hr, if_neg (by omega)]
      exact stable_cnt C hs
    have t := cl_turn (W := W) C ho hl hk h4 h5 (c := c)
    rw [if_pos hcc] at t
    obtain ⟨s, t⟩ := t
    refine ⟨(num [] (ks.map (·.2))).1, s, ⟨by rw [(num_ok _ _).len, List.length_map, hl], fun k j hk' hj' => ?_⟩, ?_⟩
    · rw [num_eq (by simpa [hl] using hk') (by simpa [hl] using hj'), hE k j hk' hj', ← hs.al C hk' hj', hr]
      exact ⟨E_down, hs k j hk' hj'⟩
    · rw [whileM_eq]
      unfold wstep
      rw [show truM (.ex (constM (.bl true))) (cS T ks o2 c s4 s5) = .ok true (cS T ks o2 c s4 s5) from rfl, Res.bind_ok, if_pos rfl, t]
      rfl
  | succ m ih =>
    intro r ks o2 c s4 s5 er ho hl hk hE hc h4 h5
    have hcnt : (num [] (ks.map (·.2))).2.length = cnt T r := by
      have := num_cnt (ks := ks.map (·.2)) (F := E T r) fun i j hi hj => (hE i j (by simpa [hl] using hi) (by simpa [hl] using hj)).symm
      rw [this, List.length_map, hl]; rfl
    have hcc : ¬ (num [] (ks.map (·.2))).2.length = c := by
      rw [hcnt, hc]
      by_cases q : r = 0
      · rw [if_pos q]
        have : (0 : Nat) ∈ reps (E T r) T.length := mem_reps.mpr ⟨hn, fun j hj => absurd hj (by omega)⟩
        have := List.length_pos_of_mem this
        unfold cnt
        omega
      · rw [if_neg q]
        intro z
        refine hm (r - 1) (by omega) (cnt_stable C ?_)
        rw [show r - 1 + 1 = r by omega]
        omega
    have t := cl_turn (W := W) C ho hl hk h4 h5 (c := c)
    rw [if_neg hcc] at t
    obtain ⟨t4, t5, f4, f5, t⟩ := t
    have hN : ∀ k j, k < T.length → j < T.length → ((num [] (ks.map (·.2))).1.getD k 0 = (num [] (ks.map (·.2))).1.getD j 0 ↔ E T r k j = true) := fun k j hk' hj' => by
      rw [num_eq (by simpa [hl] using hk') (by simpa [hl] using hj'), hE k j hk' hj']
    obtain ⟨N, s, h1, h2⟩ := ih (r + 1) ((List.range T.length).map (kS (num [] (ks.map (·.2))).1 T)) .ow (num [] (ks.map (·.2))).2.length t4 t5 (by omega) (by decide) (by simp) (fun p hp => by
      obtain ⟨k, _, rfl⟩ := List.mem_map.mp hp
      exact kS_ok _ _ _) (fun k j hk' hj' => by
      have e : ((List.range T.length).map (kS (num [] (ks.map (·.2))).1 T)).map (·.2) = (List.range T.length).map (keyS (num [] (ks.map (·.2))).1 T) := by rw [List.map_map]; rfl
      rw [e, map_getD (α := Nat) hk', map_getD (α := Nat) hj']
      exact keyS_eq C hN hk' hj') (by rw [if_neg (by omega), hcnt]; rfl) f4 f5
    refine ⟨N, s, h1, ?_⟩
    rw [whileM_eq]
    unfold wstep
    rw [show truM (.ex (constM (.bl true))) (cS T ks o2 c s4 s5) = .ok true (cS T ks o2 c s4 s5) from rfl, Res.bind_ok, if_pos rfl, t]
    exact h2
section
variable {W : World} {k : Nat} {a0 a1 a2 a3 a4 a5 a6 a7 a8 a9 a10 a11 : Slot}
theorem sp_loop : ∀ (T : List Q) (acc : List D), (∀ q, q ∈ T → q.ok) → acc.length + T.length ≤ sizeLine →
    lcL (.nm 6) yesM (callM (sem W (k + 1) 0) [.ex (varM 6)]) [6] (T.map Q.d) acc [a0, a1, a2, a3, a4, a5, none, a7, a8, a9, a10, a11] = .ok (acc ++ T.map partsD) [a0, a1, a2, a3, a4, a5, none, a7, a8, a9, a10, a11]
  | [], acc, _, _ => by simp [lcL]
  | q :: T, acc, h, hz => by
    rw [List.length_cons] at hz
    have hacc : acc.length < sizeLine := by omega
    have ih := sp_loop T (acc ++ [partsD q]) (fun x hx => h x (List.mem_cons_of_mem _ hx)) (by rw [List.length_append]; simp only [List.length_cons, List.length_nil]; omega)
    have e := parts (W := W) (k := k) (h q List.mem_cons_self)
    rw [show acc ++ (q :: T).map partsD = acc ++ [partsD q] ++ T.map partsD by simp, ← ih]
    rw [List.map_cons, lcL, ev_putN]
    generalize partsD q = P at *
    generalize q.d = X at *
    simp (implicitDefEqProofs := false) [nox, e, hacc, killAll]
theorem put78 {q : Q} : (Tg.tp [.nm 7, .nm 8]).put (partsD q) [a0, a1, a2, a3, a4, a5, a6, none, none, a9, a10, a11] = some [a0, a1, a2, a3, a4, a5, a6, some (.sh, q.does), some (.sh, .tup (gsD q.goals)), a9, a10, a11] := by
  unfold partsD
  rw [Tg.put]
  rfl
theorem k0_loop : ∀ (T : List Q) (acc : List D), acc.length + T.length ≤ sizeLine →
    lcL (.tp [.nm 7, .nm 8]) yesM (tupM [(varM 7), (tupM [])]) [7, 8] (T.map partsD) acc [a0, a1, a2, a3, a4, a5, a6, none, none, a9, a10, a11] = .ok (acc ++ (T.map k0).map fun p => D.tup p.1) [a0, a1, a2, a3, a4, a5, a6, none, none, a9, a10, a11]
  | [], acc, _ => by simp [lcL]
  | q :: T, acc, hz => by
    rw [List.length_cons] at hz
    have hacc : acc.length < sizeLine := by omega
    have z0 : (0 : Nat) ≤ sizeLine := by decide
    have z2 : (2 : Nat) ≤ sizeLine := by decide
    have ih := k0_loop T (acc ++ [.tup (k0 q).1]) (by rw [List.length_append]; simp only [List.length_cons, List.length_nil]; omega)
    rw [show acc ++ ((q :: T).map k0).map (fun p => D.tup p.1) = acc ++ [.tup (k0 q).1] ++ (T.map k0).map fun p => D.tup p.1 by simp, ← ih]
    rw [List.map_cons, lcL, put78, show (k0 q).1 = [q.does, .tup []] from rfl]
    generalize q.does = X at *
    simp (implicitDefEqProofs := false) [nox, hacc, z0, z2, killAll]
theorem classes {T : List Q} (C : TabOk T) (hn : 0 < T.length) : ∃ N : List Nat, NumsOk T N ∧ sem W (k + 2) 1 [tabD T] = .ret true (.lst (gsD N)) [] := by
  obtain ⟨rs, _, hs, hm⟩ := stable_ex C hn
  have h1 := C.n1
  obtain ⟨N, s, hN, el⟩ := cl_loop (W := W) C hn hs hm (rs + 1) 0 (T.map k0) .ow 0 none none (by omega) (by decide) (by simp) (fun p hp => by
    obtain ⟨q, _, rfl⟩ := List.mem_map.mp hp
    exact k0_ok q) (fun i j hi hj => by
    have e : ∀ i, i < T.length → ((T.map k0).map (·.2)).getD i .none = key0 (st T i) := fun i hi => by
      unfold st
      simp [List.getD, List.getElem?_eq_getElem hi, k0]
    rw [e i hi, e j hj, key0_eq]
    exact ⟨fun h => decide_eq_true h, fun h => of_decide_eq_true h⟩) rfl rfl rfl
  refine ⟨N, hN, ?_⟩
  have e1 := sp_loop (W := W) (k := k) (a0 := some (.sh, tabD T)) (a1 := none) (a2 := none) (a3 := none) (a4 := none) (a5 := none) (a7 := none) (a8 := none) (a9 := none) (a10 := none) (a11 := none) T [] C.ok (by rw [sizeLine_eq]; simp only [List.length_nil]; omega)
  have e2 := k0_loop (a0 := some (.sh, tabD T)) (a1 := some (.sh, splD T)) (a2 := none) (a3 := none) (a4 := none) (a5 := none) (a6 := none) (a9 := none) (a10 := none) (a11 := none) T [] (by rw [sizeLine_eq]; simp only [List.length_nil]; omega)
  rw [List.nil_append] at e1 e2
  rw [se1]
  have eb : b1 W (sem W (k + 1)) = seqM (setM 1 (compM (itM (varM 0)) (.nm 6) yesM (callM (sem W (k + 1) 0) [.ex (varM 6)]) [6])) (seqM (setM 2 (compM (itM (varM 1)) (.tp [(.nm 7), (.nm 8)]) yesM (tupM [(varM 7), (tupM [])]) [7, 8])) (seqM (setM 3 (constM (.int 0))) (whileM (truM (.ex (constM (.bl true)))) (clB W)))) := rfl
  rw [eb]
  refine runF_rt (s := s) ?_ rfl rfl
  rw [show initS [] 12 [tabD T] = [some (.sh, tabD T), none, none, none, none, none, none, none, none, none, none, none] from rfl]
  have ei : itM (varM 0) [some (.sh, tabD T), none, none, none, none, none, none, none, none, none, none, none] = .ok (T.map Q.d) [some (.sh, tabD T), none, none, none, none, none, none, none, none, none, none, none] := by
    unfold tabD
    simp (implicitDefEqProofs := false)
  have ei2 : itM (varM 1) [some (.sh, tabD T), some (.ow, splD T), none, none, none, none, none, none, none, none, none, none] = .ok (T.map partsD) [some (.sh, tabD T), some (.sh, splD T), none, none, none, none, none, none, none, none, none, none] := by
    unfold splD
    simp (implicitDefEqProofs := false)
  have es : D.lst (T.map partsD) = splD T := rfl
  unfold cS at el
  generalize whileM (truM (.ex (constM (.bl true)))) (clB W) = WH at *
  generalize ((T.map k0).map fun p => D.tup p.1) = KL at *
  generalize gsD N = GN at *
  generalize T.map Q.d = QL at *
  generalize T.map partsD = PL at *
  generalize tabD T = TD at *
  generalize splD T = SD at *
  simp (implicitDefEqProofs := false) [-ev_itM, ei, ei2, killAll, e1, e2, es]
  exact el
end
end K11

namespace K11
open PySem PySem.Spec PyProof.Rows L2 PV
/-! ### alike -/
noncomputable def alB (T : List Q) (k j : Nat) : Bool := gd (Al T k j)
theorem alB_nums {T : List Q} {N : List Nat} (h : NumsOk T N) {k j : Nat} (hk : k < T.length) (hj : j < T.length) : decide (N.getD k 0 = N.getD j 0) = alB T k j := by
  unfold alB
  rw [Bool.eq_iff_iff, decide_eq_true_iff, gd_iff]
  exact h.al k j hk hj
theorem alike {W : World} {k i j : Nat} {T : List Q} (C : TabOk T) (hi : i < T.length) (hj : j < T.length) : sem W (k + 3) 2 [tabD T, .int i, .int j] = .ret false (.bl (alB T i j)) [] := by
  obtain ⟨N, hN, e⟩ := classes (W := W) (k := k) C (by omega)
  have e1 := ix_gs (N := N) (g := i) (by rw [hN.len]; exact hi)
  have e2 := ix_gs (N := N) (g := j) (by rw [hN.len]; exact hj)
  have e3 : eqS false (.int (N.getD i 0 : Nat)) (.int (N.getD j 0 : Nat)) = some (false, .bl (alB T i j)) := by
    rw [v_eqI, ← alB_nums hN hi hj]
    have : decide (((N.getD i 0 : Nat) : Int) = ((N.getD j 0 : Nat) : Int)) = decide (N.getD i 0 = N.getD j 0) := by
      rw [Bool.eq_iff_iff, decide_eq_true_iff, decide_eq_true_iff]; omega
    rw [if_neg Bool.false_ne_true, this]
  rw [se2]
  refine runF_rt (s := [some (.sh, tabD T), some (.sh, .int i), some (.sh, .int j), some (.ow, .lst (gsD N))]) ?_ rfl rfl
  rw [show initS [] 4 [tabD T, .int i, .int j] = [some (.sh, tabD T), some (.sh, .int i), some (.sh, .int j), none] from rfl]
  unfold b2
  generalize gsD N = GN at *
  generalize tabD T = TD at *
  generalize alB T i j = q at *
  generalize ((N.getD i 0 : Nat) : Int) = x at *
  generalize ((N.getD j 0 : Nat) : Int) = y at *
  simp (implicitDefEqProofs := false) [-v_ixL, -v_eqI, e, e1, e2, e3]
/-! ### matrices -/
def mtL (F : Nat → Nat → Bool) (n : Nat) : List (List Bool) := (List.range n).map fun k => (List.range n).map (F k)
def blD (l : List Bool) : List D := l.map D.bl
def mlD (M : List (List Bool)) : D := .lst (M.map fun r => .lst (blD r))
def mtD (F : Nat → Nat → Bool) (n : Nat) : D := mlD (mtL F n)
theorem mt_row {F : Nat → Nat → Bool} {n k : Nat} (h : k < n) : ixD (mtD F n) (.int k) = some (false, .lst (blD ((List.range n).map (F k)))) := by
  unfold mtD mlD mtL
  rw [v_ixL, at_nat, List.getElem?_map, List.getElem?_map, List.getElem?_range h]
  rfl
theorem mt_at {F : Nat → Nat → Bool} {n k j : Nat} (h : j < n) : ixD (.lst (blD ((List.range n).map (F k)))) (.int j) = some (false, .bl (F k j)) := by
  unfold blD
  rw [v_ixL, at_nat, List.getElem?_map, List.getElem?_map, List.getElem?_range h]
  rfl
theorem bl_pys : ∀ l : List Bool, D.pys (blD l) = some (l.map PyData.bool)
  | [] => by simp [blD, D.pys]
  | b :: l => by
    have := bl_pys l
    unfold blD at this ⊢
    simp [D.pys, D.py, this]
theorem ml_pys : ∀ M : List (List Bool), D.pys (M.map fun r => D.lst (blD r)) = some (M.map fun r => PyData.list (r.map PyData.bool))
  | [] => by simp [D.pys]
  | r :: M => by simp [D.pys, D.py, bl_pys, ml_pys M]
theorem bl_lay : ∀ l : List Bool, PyData.canLayAll0 (l.map PyData.bool) = true ∧ PyData.depthAll (l.map PyData.bool) = 0
  | [] => by simp [PyData.canLayAll0, PyData.depthAll]
  | b :: l => by
    have := bl_lay l
    simp [PyData.canLayAll0, PyData.depthAll, PyData.canLay0, PyData.depth, this]
theorem ml_lay : ∀ M : List (List Bool), PyData.canLayAll0 (M.map fun r => PyData.list (r.map PyData.bool)) = true ∧ PyData.depthAll (M.map fun r => PyData.list (r.map PyData.bool)) ≤ 1
  | [] => by simp [PyData.canLayAll0, PyData.depthAll]
  | r :: M => by
    have h1 := bl_lay r
    have h2 := ml_lay M
    constructor
    · simp [PyData.canLayAll0, PyData.canLay0, h1.1, h2.1]
    · simp only [List.map_cons, PyData.depthAll, PyData.depth, h1.2]
      omega
theorem ml_shp (M : List (List Bool)) : (mlD M).shp = some (.list (M.map fun r => PyData.list (r.map PyData.bool))) := by
  have h := ml_lay M
  have hp : (mlD M).py = some (.list (M.map fun r => PyData.list (r.map PyData.bool))) := by
    unfold mlD
    simp [D.py, ml_pys]
  unfold D.shp
  rw [hp]
  have : SeqAt.shaped (.list (M.map fun r => PyData.list (r.map PyData.bool))) = true := by
    unfold SeqAt.shaped
    rw [Bool.and_eq_true, decide_eq_true_eq]
    refine ⟨by simpa [PyData.canLay0] using h.1, ?_⟩
    simp only [PyData.depth]
    omega
  simp [this]
theorem bl_eqv : ∀ l m : List Bool, PyData.eqvAll (l.map PyData.bool) (m.map PyData.bool) = decide (l = m)
  | [], [] => by simp [PyData.eqvAll]
  | [], b :: m => by simp [PyData.eqvAll]
  | a :: l, [] => by simp [PyData.eqvAll]
  | a :: l, b :: m => by
    simp only [List.map_cons, PyData.eqvAll, PyData.eqv, bl_eqv l m, List.cons.injEq, Bool.decide_and]
    congr 1
theorem ml_eqv : ∀ L M : List (List Bool), PyData.eqvAll (L.map fun r => PyData.list (r.map PyData.bool)) (M.map fun r => PyData.list (r.map PyData.bool)) = decide (L = M)
  | [], [] => by simp [PyData.eqvAll]
  | [], b :: m => by simp [PyData.eqvAll]
  | a :: l, [] => by simp [PyData.eqvAll]
  | a :: l, b :: m => by
    simp only [List.map_cons, PyData.eqvAll, PyData.eqv, bl_eqv, ml_eqv l m, List.cons.injEq, Bool.decide_and]
theorem ml_eq {L M : List (List Bool)} : eqS false (mlD L) (mlD M) = some (false, .bl (decide (L = M))) := by
  show eqDD false _ _ = _
  unfold eqDD eqD
  rw [ml_shp, ml_shp]
  simp [PyData.eqv, ml_eqv]
/-- does of two states: equal as their keys are -/
theorem mt_eq_iff {F G : Nat → Nat → Bool} {n : Nat} : mtL F n = mtL G n ↔ ∀ k j, k < n → j < n → F k j = G k j := by
  constructor
  · intro h k j hk hj
    have h1 := congrArg (fun M => M[k]?) h
    unfold mtL at h1
    simp only [List.getElem?_map, List.getElem?_range hk, Option.map_some, Option.some.injEq] at h1
    have h2 := congrArg (fun M => M[j]?) h1
    simpa [List.getElem?_map, List.getElem?_range hj] using h2
  · intro h
    unfold mtL
    apply List.map_congr_left
    intro k hk
    apply List.map_congr_left
    intro j hj
    exact h k j (List.mem_range.mp hk) (List.mem_range.mp hj)
/-! ### == of does -/
mutual
theorem nk_eqv : ∀ {d e : D} {k l : NestedKey} {p q : PyData}, d.nk = some k → e.nk = some l → d.py = some p → e.py = some q → PyData.eqv p q = NestedKey.beq k l
  | .int i, e, _, _, _, _, h1, h2, h3, h4 => by
    simp only [D.nk, Option.some.injEq] at h1; simp only [D.py, Option.some.injEq] at h3; subst h1 h3
    cases e with
    | int j => simp only [D.nk, Option.some.injEq] at h2; simp only [D.py, Option.some.injEq] at h4; subst h2 h4; simp only [PyData.eqv, NestedKey.beq]; rfl
    | str y => simp only [D.nk, Option.some.injEq] at h2; simp only [D.py, Option.some.injEq] at h4; subst h2 h4; simp only [PyData.eqv, NestedKey.beq]
    | tup es =>
      simp only [D.nk] at h2; simp only [D.py] at h4
      obtain ⟨a, _, rfl⟩ := Option.map_eq_some_iff.mp h2
      obtain ⟨b, _, rfl⟩ := Option.map_eq_some_iff.mp h4
      simp only [PyData.eqv, NestedKey.beq]
    | _ => simp [D.nk] at h2
  | .str x, e, _, _, _, _, h1, h2, h3, h4 => by
    simp only [D.nk, Option.some.injEq] at h1; simp only [D.py, Option.some.injEq] at h3; subst h1 h3
    cases e with
    | int j => simp only [D.nk, Option.some.injEq] at h2; simp only [D.py, Option.some.injEq] at h4; subst h2 h4; simp only [PyData.eqv, NestedKey.beq]
    | str y => simp only [D.nk, Option.some.injEq] at h2; simp only [D.py, Option.some.injEq] at h4; subst h2 h4; simp only [PyData.eqv, NestedKey.beq]; rfl
    | tup es =>
      simp only [D.nk] at h2; simp only [D.py] at h4
      obtain ⟨a, _, rfl⟩ := Option.map_eq_some_iff.mp h2
      obtain ⟨b, _, rfl⟩ := Option.map_eq_some_iff.mp h4
      simp only [PyData.eqv, NestedKey.beq]
    | _ => simp [D.nk] at h2
  | .tup ds, e, _, _, _, _, h1, h2, h3, h4 => by
    simp only [D.nk] at h1; simp only [D.py] at h3
    obtain ⟨a, a1, rfl⟩ := Option.map_eq_some_iff.mp h1
    obtain ⟨b, b1, rfl⟩ := Option.map_eq_some_iff.mp h3
    cases e with
    | int j => simp only [D.nk, Option.some.injEq] at h2; simp only [D.py, Option.some.injEq] at h4; subst h2 h4; simp only [PyData.eqv, NestedKey.beq]
    | str y => simp only [D.nk, Option.some.injEq] at h2; simp only [D.py, Option.some.injEq] at h4; subst h2 h4; simp only [PyData.eqv, NestedKey.beq]
    | tup es =>
      simp only [D.nk] at h2; simp only [D.py] at h4
      obtain ⟨c, c1, rfl⟩ := Option.map_eq_some_iff.mp h2
      obtain ⟨d, d1, rfl⟩ := Option.map_eq_some_iff.mp h4
      simp only [PyData.eqv, NestedKey.beq]
      exact nks_eqv a1 c1 b1 d1
    | _ => simp [D.nk] at h2
  | .non, _, _, _, _, _, h1, _, _, _ => by simp [D.nk] at h1
  | .bl _, _, _, _, _, _, h1, _, _, _ => by simp [D.nk] at h1
  | .lst _, _, _, _, _, _, h1, _, _, _ => by simp [D.nk] at h1
  | .fro _, _, _, _, _, _, h1, _, _, _ => by simp [D.nk] at h1
  | .dct _, _, _, _, _, _, h1, _, _, _ => by simp [D.nk] at h1
  | .dcl _, _, _, _, _, _, h1, _, _, _ => by simp [D.nk] at h1
  | .dnt _ _, _, _, _, _, _, h1, _, _, _ => by simp [D.nk] at h1
  | .ty _, _, _, _, _, _, h1, _, _, _ => by simp [D.nk] at h1
theorem nks_eqv : ∀ {d e : List D} {k l : List NestedKey} {p q : List PyData}, D.nks d = some k → D.nks e = some l → D.pys d = some p → D.pys e = some q → PyData.eqvAll p q = NestedKey.beqAll k l
  | [], e, _, _, _, _, h1, h2, h3, h4 => by
    simp only [D.nks, Option.some.injEq] at h1; simp only [D.pys, Option.some.injEq] at h3; subst h1 h3
    cases e with
    | nil => simp only [D.nks, Option.some.injEq] at h2; simp only [D.pys, Option.some.injEq] at h4; subst h2 h4; simp only [PyData.eqvAll, NestedKey.beqAll]
    | cons x es =>
      simp only [D.nks] at h2; simp only [D.pys] at h4
      obtain ⟨a, _, h2⟩ := Option.bind_eq_some_iff.mp h2
      obtain ⟨as, _, rfl⟩ := Option.map_eq_some_iff.mp h2
      obtain ⟨b, _, h4⟩ := Option.bind_eq_some_iff.mp h4
      obtain ⟨bs, _, rfl⟩ := Option.map_eq_some_iff.mp h4
      simp only [PyData.eqvAll, NestedKey.beqAll]
  | y :: ds, e, _, _, _, _, h1, h2, h3, h4 => by
    simp only [D.nks] at h1; simp only [D.pys] at h3
    obtain ⟨c, c1, h1⟩ := Option.bind_eq_some_iff.mp h1
    obtain ⟨cs, cs1, rfl⟩ := Option.map_eq_some_iff.mp h1
    obtain ⟨d, d1, h3⟩ := Option.bind_eq_some_iff.mp h3
    obtain ⟨dss, ds1, rfl⟩ := Option.map_eq_some_iff.mp h3
    cases e with
    | nil => simp only [D.nks, Option.some.injEq] at h2; simp only [D.pys, Option.some.injEq] at h4; subst h2 h4; simp only [PyData.eqvAll, NestedKey.beqAll]
    | cons x es =>
      simp only [D.nks] at h2; simp only [D.pys] at h4
      obtain ⟨a, a1, h2⟩ := Option.bind_eq_some_iff.mp h2
      obtain ⟨as, as1, rfl⟩ := Option.map_eq_some_iff.mp h2
      obtain ⟨b, b1, h4⟩ := Option.bind_eq_some_iff.mp h4
      obtain ⟨bs, bs1, rfl⟩ := Option.map_eq_some_iff.mp h4
      simp only [PyData.eqvAll, NestedKey.beqAll, nk_eqv c1 a1 d1 b1, nks_eqv cs1 as1 ds1 bs1]
end
end K11

namespace K11
open PySem PySem.Spec PyProof.Rows L2 PV
/-! ### == of does -/
def shD (n : Nat) (d : D) : Prop := ∃ p, d.py = some p ∧ p.canLay0 = true ∧ p.depth ≤ n
theorem shD.mono {n m : Nat} {d : D} (h : shD n d) (hm : n ≤ m) : shD m d := let ⟨p, a, b, c⟩ := h; ⟨p, a, b, Nat.le_trans c hm⟩
theorem sh_int {i : Int} : shD 0 (.int i) := ⟨_, rfl, by simp [PyData.canLay0], by simp [PyData.depth]⟩
theorem sh_str {x : Str} (h : okS x = true) : shD 0 (.str x) := ⟨_, rfl, by simpa [PyData.canLay0, okS] using h, by simp [PyData.depth]⟩
theorem sh_pys {n : Nat} : ∀ {ds : List D}, (∀ d, d ∈ ds → shD n d) → ∃ ps, D.pys ds = some ps ∧ PyData.canLayAll0 ps = true ∧ PyData.depthAll ps ≤ n
  | [], _ => ⟨[], by simp [D.pys], by simp [PyData.canLayAll0], by simp [PyData.depthAll]⟩
  | d :: ds, h => by
    obtain ⟨p, a, b, c⟩ := h d List.mem_cons_self
    obtain ⟨ps, a', b', c'⟩ := sh_pys fun e m => h e (List.mem_cons_of_mem _ m)
    refine ⟨p :: ps, by simp [D.pys, a, a'], by simp [PyData.canLayAll0, b, b'], ?_⟩
    simp only [PyData.depthAll]
    omega
theorem sh_tup {n : Nat} {ds : List D} (h : ∀ d, d ∈ ds → shD n d) : shD (n + 1) (.tup ds) := by
  obtain ⟨ps, a, b, c⟩ := sh_pys h
  exact ⟨.tuple ps, by simp [D.py, a], by simpa [PyData.canLay0] using b, by simp only [PyData.depth]; omega⟩
theorem sh_lst {n : Nat} {ds : List D} (h : ∀ d, d ∈ ds → shD n d) : shD (n + 1) (.lst ds) := by
  obtain ⟨ps, a, b, c⟩ := sh_pys h
  exact ⟨.list ps, by simp [D.py, a], by simpa [PyData.canLay0] using b, by simp only [PyData.depth]; omega⟩
theorem shD.shp {n : Nat} {d : D} (h : shD n d) (hn : n ≤ 64) : ∃ p, d.py = some p ∧ d.shp = some p := by
  obtain ⟨p, a, b, c⟩ := h
  refine ⟨p, a, ?_⟩
  unfold D.shp
  rw [a]
  have : SeqAt.shaped p = true := by
    unfold SeqAt.shaped
    rw [b, decide_eq_true (by omega)]; rfl
  simp [this]
theorem sh_at {a : At} (h : a.ok) : shD 1 a.d := by
  cases a with
  | s x => exact (sh_str h).mono (by omega)
  | n i => exact sh_int.mono (by omega)
  | v i =>
    refine sh_tup (n := 0) fun d hd => ?_
    rcases List.mem_cons.mp hd with rfl | hd
    · exact sh_str (by decide +kernel)
    · rw [List.mem_singleton.mp hd]; exact sh_int
theorem sh_does {q : Q} (h : q.ok) : shD 4 q.does := by
  cases q with
  | en =>
    refine (sh_tup (n := 0) fun d hd => ?_).mono (by omega)
    rw [List.mem_singleton.mp hd]
    exact sh_str (by decide +kernel)
  | gt b l =>
    obtain ⟨h1, h2, h3⟩ := h
    refine (sh_tup (n := 2) fun d hd => ?_).mono (by omega)
    rcases List.mem_cons.mp hd with rfl | hd
    · exact (sh_str (by decide +kernel)).mono (by omega)
    · rcases List.mem_cons.mp hd with rfl | hd
      · exact (sh_str h1).mono (by omega)
      · rw [List.mem_singleton.mp hd]
        refine sh_tup (n := 1) fun d hd => ?_
        obtain ⟨t, ht, rfl⟩ := List.mem_map.mp hd
        obtain ⟨h4, h5⟩ := h3 t ht
        refine sh_tup (n := 0) fun d hd => ?_
        rcases List.mem_cons.mp hd with rfl | hd
        · exact sh_str h4
        · rw [List.mem_singleton.mp hd]; exact sh_str h5
  | br w fr g o =>
    refine (sh_tup (n := 1) fun d hd => ?_).mono (by omega)
    rcases List.mem_cons.mp hd with rfl | hd
    · exact (sh_str h.2.1).mono (by omega)
    · obtain ⟨a, ha, rfl⟩ := List.mem_map.mp hd
      exact sh_at (h.2.2.2 a ha)
  | pl w fr g =>
    refine (sh_tup (n := 1) fun d hd => ?_).mono (by omega)
    rcases List.mem_cons.mp hd with rfl | hd
    · exact (sh_str h.2.2.2.2.1).mono (by omega)
    · obtain ⟨a, ha, rfl⟩ := List.mem_map.mp hd
      exact sh_at (h.2.2.2.2.2.2 a ha)
theorem does_tup (q : Q) : ∃ l, q.does = .tup l := by cases q <;> exact ⟨_, rfl⟩
theorem does_eq {q q' : Q} (h : q.ok) (h' : q'.ok) : eqS false q.does q'.does = some (false, .bl (decide (q.nk = q'.nk))) := by
  obtain ⟨p, p1, p2⟩ := (sh_does h).shp (by decide)
  obtain ⟨r, r1, r2⟩ := (sh_does h').shp (by decide)
  have e := nk_eqv (does_nk q) (does_nk q') p1 r1
  obtain ⟨l, el⟩ := does_tup q
  obtain ⟨l', el'⟩ := does_tup q'
  rw [el] at p2 ⊢
  rw [el'] at r2 ⊢
  show eqDD false _ _ = _
  unfold eqDD eqD
  rw [p2, r2, NestedKey.decide_eq, ← e]
  rfl
theorem E0_eq {T : List Q} (C : TabOk T) {k j : Nat} (hk : k < T.length) (hj : j < T.length) : eqS false (st T k).does (st T j).does = some (false, .bl (E T 0 k j)) := does_eq (C.ok _ (st_mem hk)) (C.ok _ (st_mem hj))
/-! ### the law's table of parts and its first matrix -/
section
variable {W : World} {k : Nat} {a0 a1 a2 a3 a4 a5 a6 a7 a8 a9 a10 a11 : Slot} {o2 : Own}
theorem lp_loop : ∀ (T : List Q) (acc : List D), (∀ q, q ∈ T → q.ok) → acc.length + T.length ≤ sizeLine →
    lcL (.nm 10) yesM (callM (sem W (k + 1) 10) [.ex (varM 10)]) [10] (T.map Q.d) acc [a0, a1, a2, a3, a4, a5, a6, a7, a8, a9, none, a11] = .ok (acc ++ T.map partsD) [a0, a1, a2, a3, a4, a5, a6, a7, a8, a9, none, a11]
  | [], acc, _, _ => by simp [lcL]
  | q :: T, acc, h, hz => by
    rw [List.length_cons] at hz
    have hacc : acc.length < sizeLine := by omega
    have ih := lp_loop T (acc ++ [partsD q]) (fun x hx => h x (List.mem_cons_of_mem _ hx)) (by rw [List.length_append]; simp only [List.length_cons, List.length_nil]; omega)
    have e := lparts (W := W) (k := k) (h q List.mem_cons_self)
    rw [show acc ++ (q :: T).map partsD = acc ++ [partsD q] ++ T.map partsD by simp, ← ih]
    rw [List.map_cons, lcL, ev_putN]
    generalize partsD q = P at *
    generalize q.d = X at *
    simp (implicitDefEqProofs := false) [nox, e, hacc, killAll]
noncomputable def m0C : M (Bool × D) := binM (eqS false) (.ex (binM ixD (.ex (binM ixD (.sl 2) (.sl 6))) (.ex (constM (.int 0))))) (.ex (binM ixD (.ex (binM ixD (.sl 2) (.sl 8))) (.ex (constM (.int 0)))))
theorem m0_in {T : List Q} (C : TabOk T) {k : Nat} (hk : k < T.length) : ∀ (js : List Nat) (acc : List D), (∀ j, j ∈ js → j < T.length) → acc.length + js.length ≤ sizeLine →
    lcL (.nm 8) yesM m0C [8] (js.map fun i => .int (0 + (i : Nat))) acc [a0, a1, some (o2, splD T), a3, a4, a5, some (.sh, .int k), a7, none, a9, a10, a11] =
      .ok (acc ++ blD (js.map (E T 0 k))) [a0, a1, some (o2, splD T), a3, a4, a5, some (.sh, .int k), a7, none, a9, a10, a11]
  | [], acc, _, _ => by simp [lcL, blD]
  | j :: js, acc, h, hz => by
    rw [List.length_cons] at hz
    have hacc : acc.length < sizeLine := by omega
    have ih := m0_in C hk js (acc ++ [.bl (E T 0 k j)]) (fun i hi => h i (List.mem_cons_of_mem _ hi)) (by rw [List.length_append]; simp only [List.length_cons, List.length_nil]; omega)
    have e1 := spl_at hk
    have e2 := spl_at (h j List.mem_cons_self)
    have e3 := pt0 (q := st T k)
    have e4 := pt0 (q := st T j)
    have e5 := E0_eq C hk (h j List.mem_cons_self)
    rw [show acc ++ blD ((j :: js).map (E T 0 k)) = acc ++ [D.bl (E T 0 k j)] ++ blD (js.map (E T 0 k)) by simp [blD], ← ih]
    rw [List.map_cons, lcL, ev_putN, Int.zero_add]
    unfold m0C
    generalize E T 0 k j = B at *
    generalize partsD (st T k) = P at *
    generalize partsD (st T j) = P' at *
    generalize (st T k).does = X at *
    generalize (st T j).does = X' at *
    generalize splD T = S at *
    simp (implicitDefEqProofs := false) [nox, e1, e2, e3, e4, e5, hacc, killAll]
theorem m0_out {T : List Q} (C : TabOk T) : ∀ (ks : List Nat) (acc : List D), (∀ j, j ∈ ks → j < T.length) → acc.length + ks.length ≤ sizeLine →
    lcL (.nm 6) yesM (compM (rng1M (varM 1)) (.nm 8) yesM m0C [8]) [6] (ks.map fun i => .int (0 + (i : Nat))) acc [a0, some (.sh, .int T.length), some (o2, splD T), a3, a4, a5, none, a7, none, a9, a10, a11] =
      .ok (acc ++ ks.map fun k => .lst (blD ((List.range T.length).map (E T 0 k)))) [a0, some (.sh, .int T.length), some (o2, splD T), a3, a4, a5, none, a7, none, a9, a10, a11]
  | [], acc, _, _ => by simp [lcL]
  | k :: ks, acc, h, hz => by
    rw [List.length_cons] at hz
    have hacc : acc.length < sizeLine := by omega
    have h1 := C.n1
    have ih := m0_out C ks (acc ++ [.lst (blD ((List.range T.length).map (E T 0 k)))]) (fun i hi => h i (List.mem_cons_of_mem _ hi)) (by rw [List.length_append]; simp only [List.length_cons, List.length_nil]; omega)
    have e1 := m0_in (o2 := o2) (a0 := a0) (a1 := some (.sh, .int T.length)) (a3 := a3) (a4 := a4) (a5 := a5) (a7 := a7) (a9 := a9) (a10 := a10) (a11 := a11) C (h k List.mem_cons_self) (List.range T.length) [] (fun j hj => List.mem_range.mp hj) (by rw [sizeLine_eq, List.length_range]; simp only [List.length_nil]; omega)
    rw [List.nil_append] at e1
    have e1 : lcL (.nm 8) yesM m0C [8] (intsD 0 T.length) [] _ = _ := e1
    have er : rngD (.int T.length) = some (intsD 0 T.length) := rng_nat (by rw [sizeLine_eq]; omega)
    rw [show acc ++ (k :: ks).map (fun k => D.lst (blD ((List.range T.length).map (E T 0 k)))) = acc ++ [D.lst (blD ((List.range T.length).map (E T 0 k)))] ++ ks.map (fun k => D.lst (blD ((List.range T.length).map (E T 0 k)))) by simp, ← ih]
    rw [List.map_cons, lcL, ev_putN, Int.zero_add]
    generalize blD ((List.range T.length).map (E T 0 k)) = B at *
    generalize m0C = MC at *
    generalize splD T = S at *
    simp (implicitDefEqProofs := false) [nox, e1, er, hacc, killAll]
end
end K11

namespace K11
open PySem PySem.Spec PyProof.Rows L2 PV
/-! ### a turn of the law's alikeness -/
theorem gs_at {gs : List Nat} {i : Nat} (h : i < gs.length) : ixD (.tup (gsD gs)) (.int i) = some (false, .int (gs.getD i 0 : Nat)) := by
  unfold gsD
  rw [v_ixT, at_nat, List.getElem?_map, List.getElem?_eq_getElem h]
  simp [List.getD, List.getElem?_eq_getElem h]
theorem gs_len {gs : List Nat} : lenD (.tup (gsD gs)) = some (false, .int gs.length) := by
  show some (false, D.int ((List.length (gsD gs) : Nat) : Int)) = _
  unfold gsD
  rw [List.length_map]
theorem gl60 {T : List Q} (C : TabOk T) {k : Nat} (hk : k < T.length) : (gl T k).length ≤ 60 := by
  have ho := C.ok _ (st_mem hk)
  unfold gl
  cases e : st T k with
  | en => simp [Q.goals]
  | gt b l => rw [e] at ho; simpa [Q.goals] using ho.2.1
  | br w fr g o => simp [Q.goals]
  | pl w fr g => simp [Q.goals]
theorem bls_bl : ∀ l : List Bool, bls (blD l) = some l
  | [] => rfl
  | b :: l => by
    have := bls_bl l
    unfold blD at this ⊢
    simp [bls, this]
theorem all_bl {l : List Bool} : allD (.lst (blD l)) = some (false, .bl (l.all id)) := by
  unfold allD
  simp only [bls_bl]
  rfl
/-- the goals of k and j, alike? -/
def gB (T : List Q) (r k j i : Nat) : Bool := E T r ((gl T k).getD i 0) ((gl T j).getD i 0)
noncomputable def cgE : M (Bool × D) := (binM ixD (.ex (binM ixD (.sl 3) (.ex (binM ixD (.ex (binM ixD (.ex (binM ixD (.sl 2) (.sl 6))) (.ex (constM (.int 1))))) (.sl 11))))) (.ex (binM ixD (.ex (binM ixD (.ex (binM ixD (.sl 2) (.sl 8))) (.ex (constM (.int 1))))) (.sl 11))))
section
variable {W : World} {a0 a1 a2 a3 a4 a5 a6 a7 a8 a9 a10 a11 : Slot} {T : List Q} {r : Nat} {o3 o2 : Own}
theorem cg_loop (C : TabOk T) {k j : Nat} (hk : k < T.length) (hj : j < T.length) (hl : (gl T k).length = (gl T j).length) : ∀ (is : List Nat) (acc : List D), (∀ i, i ∈ is → i < (gl T k).length) → acc.length + is.length ≤ sizeLine →
    lcL (.nm 11) yesM cgE [11] (is.map fun i => .int (0 + (i : Nat))) acc [a0, a1, some (o2, splD T), some (o3, mtD (E T r) T.length), a4, a5, some (.sh, .int k), a7, some (.sh, .int j), a9, a10, none] =
      .ok (acc ++ blD (is.map (gB T r k j))) [a0, a1, some (o2, splD T), some (o3, mtD (E T r) T.length), a4, a5, some (.sh, .int k), a7, some (.sh, .int j), a9, a10, none]
  | [], acc, _, _ => by simp [lcL, blD]
  | i :: is, acc, h, hz => by
    rw [List.length_cons] at hz
    have hacc : acc.length < sizeLine := by omega
    have ih := cg_loop C hk hj hl is (acc ++ [.bl (gB T r k j i)]) (fun i hi => h i (List.mem_cons_of_mem _ hi)) (by rw [List.length_append]; simp only [List.length_cons, List.length_nil]; omega)
    have hi := h i List.mem_cons_self
    have e1 := spl_at hk
    have e2 := spl_at hj
    have e3 : ixD (partsD (st T k)) (.int 1) = some (false, .tup (gsD (gl T k))) := pt1
    have e4 : ixD (partsD (st T j)) (.int 1) = some (false, .tup (gsD (gl T j))) := pt1
    have e5 := gs_at hi
    have e6 := gs_at (gs := gl T j) (i := i) (by omega)
    have e7 := mt_row (F := E T r) (gl_lt C hk hi)
    have e8 : ixD (.lst (blD ((List.range T.length).map (E T r ((gl T k).getD i 0))))) (.int ((gl T j).getD i 0 : Nat)) = some (false, D.bl (gB T r k j i)) := mt_at (gl_lt C hj (i := i) (by omega))
    rw [show acc ++ blD ((i :: is).map (gB T r k j)) = acc ++ [D.bl (gB T r k j i)] ++ blD (is.map (gB T r k j)) by simp [blD], ← ih]
    rw [List.map_cons, lcL, ev_putN, Int.zero_add]
    unfold cgE
    generalize gB T r k j i = B at *
    generalize blD ((List.range T.length).map (E T r ((gl T k).getD i 0))) = RW at *
    generalize partsD (st T k) = P at *
    generalize partsD (st T j) = P' at *
    generalize gsD (gl T k) = X at *
    generalize gsD (gl T j) = X' at *
    generalize splD T = S at *
    generalize mtD (E T r) T.length = MT at *
    generalize (gl T k).getD i 0 = g at *
    generalize (gl T j).getD i 0 = g' at *
    simp (implicitDefEqProofs := false) [-v_ixT, -v_ixL, nox, e1, e2, e3, e4, e5, e6, e7, e8, hacc, killAll]
theorem E_next {k j : Nat} : E T (r + 1) k j = (if E T r k j = true then ((List.range (gl T k).length).map (gB T r k j)).all id else false) := by
  rw [E]
  cases E T r k j with
  | false => rfl
  | true =>
    rw [if_pos rfl, List.all_map]
    rfl
theorem pn8 {x : Slot} {o : Own} {d : D} (h : nio x = true) : putS [a0, a1, a2, a3, a4, a5, a6, a7, x, a9, a10, a11] 8 o d = some [a0, a1, a2, a3, a4, a5, a6, a7, some (o, d), a9, a10, a11] := by
  match x, h with
  | none, _ => rfl
  | some (.sh, _), _ => rfl
  | some (.ow, _), _ => rfl
theorem pn9 {x : Slot} {o : Own} {d : D} (h : nio x = true) : putS [a0, a1, a2, a3, a4, a5, a6, a7, a8, x, a10, a11] 9 o d = some [a0, a1, a2, a3, a4, a5, a6, a7, a8, some (o, d), a10, a11] := by
  match x, h with
  | none, _ => rfl
  | some (.sh, _), _ => rfl
  | some (.ow, _), _ => rfl
theorem pn7 {x : Slot} {o : Own} {d : D} (h : nio x = true) : putS [a0, a1, a2, a3, a4, a5, a6, x, a8, a9, a10, a11] 7 o d = some [a0, a1, a2, a3, a4, a5, a6, some (o, d), a8, a9, a10, a11] := by
  match x, h with
  | none, _ => rfl
  | some (.sh, _), _ => rfl
  | some (.ow, _), _ => rfl
theorem pn6 {x : Slot} {o : Own} {d : D} (h : nio x = true) : putS [a0, a1, a2, a3, a4, a5, x, a7, a8, a9, a10, a11] 6 o d = some [a0, a1, a2, a3, a4, a5, some (o, d), a7, a8, a9, a10, a11] := by
  match x, h with
  | none, _ => rfl
  | some (.sh, _), _ => rfl
  | some (.ow, _), _ => rfl
theorem pn4 {x : Slot} {o : Own} {d : D} (h : nio x = true) : putS [a0, a1, a2, a3, x, a5, a6, a7, a8, a9, a10, a11] 4 o d = some [a0, a1, a2, a3, some (o, d), a5, a6, a7, a8, a9, a10, a11] := by
  match x, h with
  | none, _ => rfl
  | some (.sh, _), _ => rfl
  | some (.ow, _), _ => rfl
noncomputable def ceB : M Fl := (seqM (setM 9 (iteM (truM (.ex (binM ixD (.ex (binM ixD (.sl 3) (.sl 6))) (.sl 8)))) (compM (rng1M (unM lenD (.ex (binM ixD (.ex (binM ixD (.sl 2) (.sl 6))) (.ex (constM (.int 1))))))) (.nm 11) yesM cgE [11]) (lstM [(constM (.bl false))])))
    (dropM (growM appD 7 (unM allD (.sl 9)))))
theorem ce_one (C : TabOk T) {k j : Nat} {acc : List D} {s9 : Slot} (hk : k < T.length) (hj : j < T.length) (hz : acc.length < sizeLine) (h9 : nio s9 = true) :
    ∃ t9 : Slot, nio t9 = true ∧ ceB [a0, a1, some (o2, splD T), some (o3, mtD (E T r) T.length), a4, a5, some (.sh, .int k), some (.ow, .lst acc), some (.sh, .int j), s9, a10, none] =
      .ok .nx [a0, a1, some (o2, splD T), some (o3, mtD (E T r) T.length), a4, a5, some (.sh, .int k), some (.ow, .lst (acc ++ [.bl (E T (r + 1) k j)])), some (.sh, .int j), t9, a10, none] := by
  have e7 := mt_row (F := E T r) hk
  have e8 := mt_at (F := E T r) (k := k) hj
  have ow_ne : (Own.ow = Own.sh) = False := by simp
  rw [E_next]
  by_cases q : E T r k j = true
  · rw [if_pos q]
    rw [q] at e8
    have e1 := spl_at hk
    have e3 : ixD (partsD (st T k)) (.int 1) = some (false, .tup (gsD (gl T k))) := pt1
    have e4 := gs_len (gs := gl T k)
    have h60 := gl60 C hk
    have er : rngD (.int (gl T k).length) = some (intsD 0 (gl T k).length) := rng_nat (by rw [sizeLine_eq]; omega)
    have e5 := cg_loop (a0 := a0) (a1 := a1) (a4 := a4) (a5 := a5) (a7 := some (.ow, .lst acc)) (a9 := s9) (a10 := a10) (r := r) (o3 := o3) (o2 := o2) C hk hj (gl_len C hk hj q) (List.range (gl T k).length) [] (fun j hj => List.mem_range.mp hj) (by rw [sizeLine_eq, List.length_range]; simp only [List.length_nil]; omega)
    rw [List.nil_append] at e5
    have e5 : lcL (.nm 11) yesM cgE [11] (intsD 0 (gl T k).length) [] _ = _ := e5
    have e6 := all_bl (l := (List.range (gl T k).length).map (gB T r k j))
    refine ⟨some (.ow, .lst (blD ((List.range (gl T k).length).map (gB T r k j)))), rfl, ?_⟩
    unfold ceB
    generalize ((List.range (gl T k).length).map (gB T r k j)).all id = AL at *
    generalize blD ((List.range (gl T k).length).map (gB T r k j)) = B at *
    generalize blD ((List.range T.length).map (E T r k)) = RW at *
    generalize cgE = CG at *
    generalize partsD (st T k) = P at *
    generalize gsD (gl T k) = X at *
    generalize splD T = S at *
    generalize mtD (E T r) T.length = MT at *
    simp (implicitDefEqProofs := false) [-v_ixT, -v_ixL, -v_lenT, -ev_putS, pn9, h9, nox, e1, e3, e4, er, e5, e6, e7, e8, hz, killAll]
  · rw [if_neg q]
    have q2 : E T r k j = false := by simpa using q
    rw [q2] at e8
    have z1 : (1 : Nat) ≤ sizeLine := by decide
    have e6 : allD (.lst [.bl false]) = some (false, .bl false) := all_bl (l := [false])
    refine ⟨some (.ow, .lst [.bl false]), rfl, ?_⟩
    unfold ceB
    generalize blD ((List.range T.length).map (E T r k)) = RW at *
    generalize cgE = CG at *
    generalize splD T = S at *
    generalize mtD (E T r) T.length = MT at *
    simp (implicitDefEqProofs := false) [-v_ixT, -v_ixL, -v_lenT, -ev_putS, pn9, h9, nox, e6, e7, e8, hz, z1, killAll]
theorem ce_loop (C : TabOk T) {k : Nat} (hk : k < T.length) : ∀ (js : List Nat) (acc : List D) (s8 s9 : Slot), (∀ j, j ∈ js → j < T.length) → acc.length + js.length ≤ sizeLine → nio s8 = true → nio s9 = true →
    ∃ t8 t9 : Slot, nio t8 = true ∧ nio t9 = true ∧ forL (.nm 8) ceB (js.map fun i => .int (0 + (i : Nat))) [a0, a1, some (o2, splD T), some (o3, mtD (E T r) T.length), a4, a5, some (.sh, .int k), some (.ow, .lst acc), s8, s9, a10, none] =
      .ok .nx [a0, a1, some (o2, splD T), some (o3, mtD (E T r) T.length), a4, a5, some (.sh, .int k), some (.ow, .lst (acc ++ blD (js.map (E T (r + 1) k)))), t8, t9, a10, none]
  | [], acc, s8, s9, _, _, h8, h9 => ⟨s8, s9, h8, h9, by simp [blD]⟩
  | j :: js, acc, s8, s9, h, hz, h8, h9 => by
    rw [List.length_cons] at hz
    have hacc : acc.length < sizeLine := by omega
    obtain ⟨t9, f9, e1⟩ := ce_one (a0 := a0) (a1 := a1) (a4 := a4) (a5 := a5) (a10 := a10) (r := r) (o3 := o3) (o2 := o2) (acc := acc) C hk (h j List.mem_cons_self) hacc h9
    obtain ⟨u8, u9, g8, g9, ih⟩ := ce_loop C hk js (acc ++ [.bl (E T (r + 1) k j)]) (some (.sh, .int j)) t9 (fun i hi => h i (List.mem_cons_of_mem _ hi)) (by rw [List.length_append]; simp only [List.length_cons, List.length_nil]; omega) rfl f9
    refine ⟨u8, u9, g8, g9, ?_⟩
    rw [show acc ++ blD ((j :: js).map (E T (r + 1) k)) = acc ++ [D.bl (E T (r + 1) k j)] ++ blD (js.map (E T (r + 1) k)) by simp [blD], ← ih]
    rw [List.map_cons, ev_for1, ev_putN, Int.zero_add, pn8 h8]
    simp only [e1, Res.bind_ok]
noncomputable def roB : M Fl := (seqM (setM 7 (lstM []))
    (seqM (forM (rng1M (varM 1)) (.nm 8) ceB)
    (dropM (growM appD 5 (varM 7)))))
theorem ro_loop (C : TabOk T) : ∀ (ks : List Nat) (acc : List D) (s6 s7 s8 s9 : Slot), (∀ j, j ∈ ks → j < T.length) → acc.length + ks.length ≤ sizeLine → nio s6 = true → nio s7 = true → nio s8 = true → nio s9 = true →
    ∃ t6 t7 t8 t9 : Slot, nio t6 = true ∧ nio t7 = true ∧ nio t8 = true ∧ nio t9 = true ∧ forL (.nm 6) roB (ks.map fun i => .int (0 + (i : Nat))) [a0, some (.sh, .int T.length), some (o2, splD T), some (o3, mtD (E T r) T.length), a4, some (.ow, .lst acc), s6, s7, s8, s9, a10, none] =
      .ok .nx [a0, some (.sh, .int T.length), some (o2, splD T), some (o3, mtD (E T r) T.length), a4, some (.ow, .lst (acc ++ ks.map fun k => .lst (blD ((List.range T.length).map (E T (r + 1) k))))), t6, t7, t8, t9, a10, none]
  | [], acc, s6, s7, s8, s9, _, _, h6, h7, h8, h9 => ⟨s6, s7, s8, s9, h6, h7, h8, h9, by simp⟩
  | k :: ks, acc, s6, s7, s8, s9, h, hz, h6, h7, h8, h9 => by
    rw [List.length_cons] at hz
    have hacc : acc.length < sizeLine := by omega
    have h1 := C.n1
    obtain ⟨t8, t9, f8, f9, e1⟩ := ce_loop (a0 := a0) (a1 := some (.sh, .int T.length)) (a4 := a4) (a5 := some (.ow, .lst acc)) (a10 := a10) (r := r) (o3 := o3) (o2 := o2) C (h k List.mem_cons_self) (List.range T.length) [] s8 s9 (fun j hj => List.mem_range.mp hj) (by rw [sizeLine_eq, List.length_range]; simp only [List.length_nil]; omega) h8 h9
    rw [List.nil_append] at e1
    have e1 : forL (.nm 8) ceB (intsD 0 T.length) _ = _ := e1
    have er : rngD (.int T.length) = some (intsD 0 T.length) := rng_nat (by rw [sizeLine_eq]; omega)
    obtain ⟨u6, u7, u8, u9, g6, g7, g8, g9, ih⟩ := ro_loop C ks (acc ++ [.lst (blD ((List.range T.length).map (E T (r + 1) k)))]) (some (.sh, .int k)) (some (.sh, .lst (blD ((List.range T.length).map (E T (r + 1) k))))) t8 t9 (fun i hi => h i (List.mem_cons_of_mem _ hi)) (by rw [List.length_append]; simp only [List.length_cons, List.length_nil]; omega) rfl rfl f8 f9
    refine ⟨u6, u7, u8, u9, g6, g7, g8, g9, ?_⟩
    rw [show acc ++ (k :: ks).map (fun k => D.lst (blD ((List.range T.length).map (E T (r + 1) k)))) = acc ++ [D.lst (blD ((List.range T.length).map (E T (r + 1) k)))] ++ ks.map (fun k => D.lst (blD ((List.range T.length).map (E T (r + 1) k)))) by simp, ← ih]
    rw [List.map_cons, ev_for1, ev_putN, Int.zero_add, pn6 h6]
    have ow_ne : (Own.ow = Own.sh) = False := by simp
    have eb : roB [a0, some (.sh, .int T.length), some (o2, splD T), some (o3, mtD (E T r) T.length), a4, some (.ow, .lst acc), some (.sh, .int k), s7, s8, s9, a10, none] = .ok .nx [a0, some (.sh, .int T.length), some (o2, splD T), some (o3, mtD (E T r) T.length), a4, some (.ow, .lst (acc ++ [.lst (blD ((List.range T.length).map (E T (r + 1) k)))])), some (.sh, .int k), some (.sh, .lst (blD ((List.range T.length).map (E T (r + 1) k)))), t8, t9, a10, none] := by
      have z0 : (0 : Nat) ≤ sizeLine := by decide
      unfold roB
      generalize blD ((List.range T.length).map (E T (r + 1) k)) = B at *
      generalize ceB = CB at *
      generalize splD T = S at *
      generalize mtD (E T r) T.length = MT at *
      simp (implicitDefEqProofs := false) [-ev_putS, pn7, h7, e1, er, hacc, z0]
    simp only [eb, Res.bind_ok]
noncomputable def tuB : M Fl := (seqM (setM 5 (lstM []))
    (seqM (forM (rng1M (varM 1)) (.nm 6) roB)
    (seqM (iteM (truB (binM (eqS false) (.sl 5) (.sl 3))) (retM (moveM 3)) nxM)
    (setM 3 (varM 5)))))
theorem tu_loop (C : TabOk T) (hn : 0 < T.length) {rs : Nat} (hs : Stable T rs) (hm : ∀ s, s < rs → ¬ Stable T s) : ∀ (ds : List Int) (r : Nat) (o3 : Own) (s4 s5 s6 s7 s8 s9 : Slot), r ≤ rs → rs - r < ds.length → o3 ≠ .io → nio s4 = true → nio s5 = true → nio s6 = true → nio s7 = true → nio s8 = true → nio s9 = true →
    ∃ (fr : Bool) (s : S), forL (.nm 4) tuB (ds.map .int) [a0, some (.sh, .int T.length), some (o2, splD T), some (o3, mtD (E T r) T.length), s4, s5, s6, s7, s8, s9, a10, none] = .ok (.rt fr (mtD (alB T) T.length)) s
  | [], r, o3, s4, s5, s6, s7, s8, s9, _, hl, _, _, _, _, _, _, _ => absurd hl (by simp)
  | d :: ds, r, o3, s4, s5, s6, s7, s8, s9, hr, hl, h3, h4, h5, h6, h7, h8, h9 => by
    have h1 := C.n1
    obtain ⟨t6, t7, t8, t9, f6, f7, f8, f9, e1⟩ := ro_loop (a0 := a0) (a4 := some (.sh, .int d)) (a10 := a10) (r := r) (o3 := o3) (o2 := o2) C (List.range T.length) [] s6 s7 s8 s9 (fun j hj => List.mem_range.mp hj) (by rw [sizeLine_eq, List.length_range]; simp only [List.length_nil]; omega) h6 h7 h8 h9
    rw [List.nil_append] at e1
    have em : D.lst ((List.range T.length).map fun k => .lst (blD ((List.range T.length).map (E T (r + 1) k)))) = mtD (E T (r + 1)) T.length := by
      unfold mtD mlD mtL
      rw [List.map_map]; rfl
    rw [em] at e1
    have e1 : forL (.nm 6) roB (intsD 0 T.length) _ = _ := e1
    have er : rngD (.int T.length) = some (intsD 0 T.length) := rng_nat (by rw [sizeLine_eq]; omega)
    have ee : eqS false (mtD (E T (r + 1)) T.length) (mtD (E T r) T.length) = some (false, .bl (decide (mtL (E T (r + 1)) T.length = mtL (E T r) T.length))) := ml_eq
    have z0 : (0 : Nat) ≤ sizeLine := by decide
    rw [List.map_cons, ev_for1, ev_putN, pn4 h4]
    by_cases q : r = rs
    · subst q
      have hq : mtL (E T (r + 1)) T.length = mtL (E T r) T.length := mt_eq_iff.mpr fun k j hk hj => by
        rw [Bool.eq_iff_iff]
        exact ⟨E_down, hs k j hk hj⟩
      have ha : mtD (alB T) T.length = mtD (E T r) T.length := by
        unfold mtD
        rw [mt_eq_iff.mpr fun k j hk hj => ?_]
        unfold alB
        rw [Bool.eq_iff_iff, gd_iff]
        exact (hs.al C hk hj).symm
      rw [ha]
      rw [decide_eq_true hq] at ee
      cases o3 with
      | io => exact absurd rfl h3
      | sh =>
        refine ⟨false, [a0, some (.sh, .int T.length), some (o2, splD T), some (.sh, mtD (E T r) T.length), some (.sh, .int d), some (.ow, mtD (E T (r + 1)) T.length), t6, t7, t8, t9, a10, none], ?_⟩
        unfold tuB
        generalize roB = RB at *
        generalize splD T = S at *
        generalize mtD (E T r) T.length = MT at *
        generalize mtD (E T (r + 1)) T.length = MT2 at *
        simp (implicitDefEqProofs := false) [-ev_putS, pc5, h5, e1, er, ee, z0]
      | ow =>
        refine ⟨true, [a0, some (.sh, .int T.length), some (o2, splD T), none, some (.sh, .int d), some (.ow, mtD (E T (r + 1)) T.length), t6, t7, t8, t9, a10, none], ?_⟩
        unfold tuB
        generalize roB = RB at *
        generalize splD T = S at *
        generalize mtD (E T r) T.length = MT at *
        generalize mtD (E T (r + 1)) T.length = MT2 at *
        simp (implicitDefEqProofs := false) [-ev_putS, pc5, h5, e1, er, ee, z0]
    · have hq : ¬ mtL (E T (r + 1)) T.length = mtL (E T r) T.length := fun e => by
        have := mt_eq_iff.mp e
        refine hm r (by omega) fun k j hk hj h => ?_
        rw [this k j hk hj]; exact h
      rw [decide_eq_false hq] at ee
      rw [List.length_cons] at hl
      obtain ⟨fr, s, ih⟩ := tu_loop C hn hs hm ds (r + 1) .sh (some (.sh, .int d)) (some (.sh, mtD (E T (r + 1)) T.length)) t6 t7 t8 t9 (by omega) (by omega) (by decide) rfl rfl f6 f7 f8 f9
      refine ⟨fr, s, ?_⟩
      rw [← ih]
      have eb : tuB [a0, some (.sh, .int T.length), some (o2, splD T), some (o3, mtD (E T r) T.length), some (.sh, .int d), s5, s6, s7, s8, s9, a10, none] = .ok .nx [a0, some (.sh, .int T.length), some (o2, splD T), some (.sh, mtD (E T (r + 1)) T.length), some (.sh, .int d), some (.sh, mtD (E T (r + 1)) T.length), t6, t7, t8, t9, a10, none] := by
        unfold tuB
        generalize roB = RB at *
        generalize splD T = S at *
        generalize mtD (E T r) T.length = MT at *
        generalize mtD (E T (r + 1)) T.length = MT2 at *
        cases o3 with
        | io => exact absurd rfl h3
        | sh =>
          have p3 : ∀ {d e : D} {b1 b2 b4 b5 b6 b7 b8 b9 : Slot}, putS [a0, b1, b2, some (.sh, d), b4, b5, b6, b7, b8, b9, a10, none] 3 .sh e = some [a0, b1, b2, some (.sh, e), b4, b5, b6, b7, b8, b9, a10, none] := rfl
          simp (implicitDefEqProofs := false) [-ev_putS, pc5, p3, h5, e1, er, ee, z0]
        | ow =>
          have p3 : ∀ {d e : D} {b1 b2 b4 b5 b6 b7 b8 b9 : Slot}, putS [a0, b1, b2, some (.ow, d), b4, b5, b6, b7, b8, b9, a10, none] 3 .sh e = some [a0, b1, b2, some (.sh, e), b4, b5, b6, b7, b8, b9, a10, none] := rfl
          simp (implicitDefEqProofs := false) [-ev_putS, pc5, p3, h5, e1, er, ee, z0]
      simp only [eb, Res.bind_ok]
end
end K11

namespace K11
open PySem PySem.Spec PyProof.Rows L2 PV
/-! ### the law's alikeness -/
theorem lalike {W : World} {k : Nat} {T : List Q} (C : TabOk T) (hn : 0 < T.length) : ∃ fr : Bool, sem W (k + 2) 11 [tabD T] = .ret fr (mtD (alB T) T.length) [] := by
  obtain ⟨rs, hrs, hs, hm⟩ := stable_ex C hn
  have h1 := C.n1
  have e1 := lp_loop (W := W) (k := k) (a0 := some (.sh, tabD T)) (a1 := some (.sh, .int T.length)) (a2 := none) (a3 := none) (a4 := none) (a5 := none) (a6 := none) (a7 := none) (a8 := none) (a9 := none) (a11 := none) T [] C.ok (by rw [sizeLine_eq]; simp only [List.length_nil]; omega)
  rw [List.nil_append] at e1
  have es : D.lst (T.map partsD) = splD T := rfl
  have e2 := m0_out (o2 := .ow) (a0 := some (.sh, tabD T)) (a3 := none) (a4 := none) (a5 := none) (a7 := none) (a9 := none) (a10 := none) (a11 := none) C (List.range T.length) [] (fun j hj => List.mem_range.mp hj) (by rw [sizeLine_eq, List.length_range]; simp only [List.length_nil]; omega)
  rw [List.nil_append] at e2
  have e2 : lcL (.nm 6) yesM (compM (rng1M (varM 1)) (.nm 8) yesM m0C [8]) [6] (intsD 0 T.length) [] _ = _ := e2
  have em : D.lst ((List.range T.length).map fun k => .lst (blD ((List.range T.length).map (E T 0 k)))) = mtD (E T 0) T.length := by
    unfold mtD mlD mtL
    rw [List.map_map]; rfl
  have er : rngD (.int T.length) = some (intsD 0 T.length) := rng_nat (by rw [sizeLine_eq]; omega)
  have ei : intsD 0 T.length = ((List.range T.length).map fun i => (0 + (i : Nat) : Int)).map .int := by
    unfold intsD; rw [List.map_map]; rfl
  obtain ⟨fr, s, e3⟩ := tu_loop (a0 := some (.sh, tabD T)) (a10 := none) (o2 := .ow) C hn hs hm ((List.range T.length).map fun i => (0 + (i : Nat) : Int)) 0 .ow none none none none none none (by omega) (by rw [List.length_map, List.length_range]; omega) (by decide) rfl rfl rfl rfl rfl rfl
  rw [← ei] at e3
  have el : lenD (tabD T) = some (false, .int T.length) := tab_len
  refine ⟨fr, ?_⟩
  rw [se11]
  refine runF_rt (s := s) ?_ rfl rfl
  have eb : b11 W (sem W (k + 1)) = seqM (setM 1 (unM lenD (.sl 0))) (seqM (setM 2 (compM (itM (varM 0)) (.nm 10) yesM (callM (sem W (k + 1) 10) [.ex (varM 10)]) [10])) (seqM (setM 3 (compM (rng1M (varM 1)) (.nm 6) yesM (compM (rng1M (varM 1)) (.nm 8) yesM m0C [8]) [6])) (seqM (forM (rng1M (varM 1)) (.nm 4) tuB) (retM (moveM 3))))) := rfl
  rw [eb]
  rw [show initS [] 12 [tabD T] = [some (.sh, tabD T), none, none, none, none, none, none, none, none, none, none, none] from rfl]
  have it0 : ∀ {x : Slot}, itM (varM 0) [some (.sh, tabD T), x, none, none, none, none, none, none, none, none, none, none] = .ok (T.map Q.d) [some (.sh, tabD T), x, none, none, none, none, none, none, none, none, none, none] := by
    intro x
    unfold tabD
    simp (implicitDefEqProofs := false)
  generalize ((List.range T.length).map fun k => D.lst (blD ((List.range T.length).map (E T 0 k)))) = MLL at *
  generalize tuB = TB at *
  generalize compM (rng1M (varM 1)) (.nm 8) yesM m0C [8] = MC at *
  generalize mtD (alB T) T.length = R at *
  generalize mtD (E T 0) T.length = M0 at *
  generalize T.map Q.d = QL at *
  generalize T.map partsD = PL at *
  generalize tabD T = TD at *
  generalize splD T = SD at *
  simp (implicitDefEqProofs := false) [-ev_itM, -v_lenT, it0, el, er, e1, e2, e3, es, em, killAll]
end K11

namespace K11
open PySem PySem.Spec PyProof.Rows L2 PV
/-! ### the order in which the states are met -/
section
variable (A : Nat → Nat → Bool) (G : Nat → List Nat)
def ad : List Nat → List Nat → List Nat
  | O, [] => O
  | O, g :: gs => ad (if O.any (fun o => A o g) = true then O else O ++ [g]) gs
def bfs : Nat → List Nat → Nat → List Nat
  | 0, O, _ => O
  | f + 1, O, k => if k < O.length then bfs f (ad A O (G (O.getD k 0))) (k + 1) else O
def fi (O : List Nat) (g : Nat) : Nat := O.findIdx fun o => A o g
end
section
variable {A : Nat → Nat → Bool} {G : Nat → List Nat} {n : Nat}
theorem ad_pre : ∀ {gs O : List Nat}, O <+: ad A O gs
  | [], O => List.prefix_refl O
  | g :: gs, O => by
    rw [ad]
    by_cases e : O.any (fun o => A o g) = true
    · rw [if_pos e]; exact ad_pre
    · rw [if_neg e]; exact (List.prefix_append O [g]).trans ad_pre
structure OrdOk (A : Nat → Nat → Bool) (n : Nat) (O : List Nat) : Prop where
  pw : O.Pairwise fun a b => A a b = false
  lt : ∀ o, o ∈ O → o < n
theorem ad_ok : ∀ {gs O : List Nat}, OrdOk A n O → (∀ g, g ∈ gs → g < n) → OrdOk A n (ad A O gs)
  | [], O, h, _ => h
  | g :: gs, O, h, hg => by
    rw [ad]
    by_cases e : O.any (fun o => A o g) = true
    · rw [if_pos e]; exact ad_ok h fun x hx => hg x (List.mem_cons_of_mem _ hx)
    · rw [if_neg e]
      refine ad_ok ⟨?_, fun o ho => ?_⟩ fun x hx => hg x (List.mem_cons_of_mem _ hx)
      · rw [List.pairwise_append]
        refine ⟨h.pw, List.pairwise_singleton _ _, fun a ha b hb => ?_⟩
        rw [List.mem_singleton.mp hb]
        cases q : A a g with
        | false => rfl
        | true => exact absurd (List.any_eq_true.mpr ⟨a, ha, q⟩) e
      · rcases List.mem_append.mp ho with ho | ho
        · exact h.lt o ho
        · rw [List.mem_singleton.mp ho]; exact hg g List.mem_cons_self
theorem any_pre {O P : List Nat} {p : Nat → Bool} (h : O <+: P) (e : O.any p = true) : P.any p = true := by
  obtain ⟨t, rfl⟩ := h
  rw [List.any_append, e]; rfl
theorem ad_cov (rf : ∀ k, A k k = true) : ∀ {gs O : List Nat} {g : Nat}, g ∈ gs → (ad A O gs).any (fun o => A o g) = true
  | [], _, _, h => by simp at h
  | x :: gs, O, g, h => by
    rw [ad]
    rcases List.mem_cons.mp h with rfl | h
    · refine any_pre ad_pre ?_
      by_cases e : O.any (fun o => A o g) = true
      · rw [if_pos e]; exact e
      · rw [if_neg e, List.any_append]; simp [rf]
    · exact ad_cov rf h
theorem ord_len (rf : ∀ k, A k k = true) {O : List Nat} (h : OrdOk A n O) : O.length ≤ n := by
  have nd : O.Nodup := h.pw.imp fun {a b} e q => by
    subst q; rw [rf] at e; cases e
  have := nodup_sub (m := List.range n) nd fun x hx => List.mem_range.mpr (h.lt x hx)
  rwa [List.length_range] at this
theorem bfs_pre : ∀ {f : Nat} {O : List Nat} {k : Nat}, O <+: bfs A G f O k
  | 0, O, _ => List.prefix_refl O
  | f + 1, O, k => by
    rw [bfs]
    by_cases e : k < O.length
    · rw [if_pos e]; exact ad_pre.trans bfs_pre
    · rw [if_neg e]; exact List.prefix_refl O
/-- all goals of the first k are met -/
def Cov (A : Nat → Nat → Bool) (G : Nat → List Nat) (O : List Nat) (k : Nat) : Prop := ∀ i, i < k → i < O.length → ∀ g, g ∈ G (O.getD i 0) → O.any (fun o => A o g) = true
theorem getD_pre {O P : List Nat} (h : O <+: P) {i : Nat} (hi : i < O.length) : P.getD i 0 = O.getD i 0 := by
  obtain ⟨t, rfl⟩ := h
  simp [List.getD, List.getElem?_append_left hi]
theorem ord_at {O : List Nat} (h : OrdOk A n O) {i : Nat} (hi : i < O.length) : O.getD i 0 < n := by
  refine h.lt _ ?_
  rw [show O.getD i 0 = O[i] by simp [List.getD, List.getElem?_eq_getElem hi]]
  exact List.getElem_mem hi
theorem cov_ad (rf : ∀ k, A k k = true) {O : List Nat} {k : Nat} (hk : k < O.length) (h : Cov A G O k) : Cov A G (ad A O (G (O.getD k 0))) (k + 1) := by
  intro i hi hl g hg
  by_cases q : i < k
  · rw [getD_pre ad_pre (show i < O.length by omega)] at hg
    exact any_pre ad_pre (h i q (by omega) g hg)
  · have : i = k := by omega
    subst this
    rw [getD_pre ad_pre hk] at hg
    exact ad_cov rf hg
theorem bfs_ok (rf : ∀ k, A k k = true) (hG : ∀ o, o < n → ∀ g, g ∈ G o → g < n) : ∀ {f : Nat} {O : List Nat} {k : Nat}, n < k + f → OrdOk A n O → Cov A G O k → OrdOk A n (bfs A G f O k) ∧ Cov A G (bfs A G f O k) (bfs A G f O k).length
  | 0, O, k, hf, h, hc => by
    have := ord_len rf h
    exact ⟨h, fun i hi hl => hc i (by rw [bfs] at hl; omega) (by rw [bfs] at hl; exact hl)⟩
  | f + 1, O, k, hf, h, hc => by
    rw [bfs]
    by_cases e : k < O.length
    · rw [if_pos e]
      exact bfs_ok rf hG (by omega) (ad_ok h (hG _ (ord_at h e))) (cov_ad rf e hc)
    · rw [if_neg e]
      exact ⟨h, fun i hi hl => hc i (by omega) hl⟩
theorem fi_lt {O : List Nat} {g : Nat} (h : O.any (fun o => A o g) = true) : fi A O g < O.length := by
  obtain ⟨o, h1, h2⟩ := List.any_eq_true.mp h
  exact List.findIdx_lt_length_of_exists ⟨o, h1, h2⟩
theorem fi_at {O : List Nat} {g : Nat} (h : O.any (fun o => A o g) = true) : A (O.getD (fi A O g) 0) g = true := by
  have hl := fi_lt h
  have := List.findIdx_getElem (xs := O) (p := fun o => A o g) (w := hl)
  rw [show O.getD (fi A O g) 0 = O[fi A O g] by simp [List.getD, List.getElem?_eq_getElem hl]]
  exact this
theorem range_any {m x : Nat} {p : Nat → Bool} (hp : ∀ i, i < m → p i = decide (i = x)) : (List.range m).any p = decide (x < m) := by
  rw [Bool.eq_iff_iff, List.any_eq_true, decide_eq_true_eq]
  constructor
  · rintro ⟨i, h1, h2⟩
    have hi := List.mem_range.mp h1
    rw [hp i hi, decide_eq_true_eq] at h2
    omega
  · intro h
    exact ⟨x, List.mem_range.mpr h, by rw [hp x h]; simp⟩
/-- with alikeness being sameness the order is the row of numbers -/
theorem ad_sim (rf : ∀ k, A k k = true) {F : List Nat} {A' : Nat → Nat → Bool} (hA : ∀ i j, i < F.length → j < F.length → A' i j = decide (i = j)) : ∀ {gs O : List Nat}, ad A O gs <+: F → ad A' (List.range O.length) (gs.map (fi A F)) = List.range (ad A O gs).length
  | [], O, _ => rfl
  | g :: gs, O, h => by
    rw [ad] at h
    rw [List.map_cons, ad, ad]
    by_cases e : O.any (fun o => A o g) = true
    · rw [if_pos e] at h ⊢
      obtain ⟨t, ht⟩ := (ad_pre (A := A) (gs := gs) (O := O)).trans h
      have e1 : fi A F g = fi A O g := by
        unfold fi
        rw [← ht, List.findIdx_append]
        exact if_pos (fi_lt e)
      have hlt := fi_lt e
      have hle : O.length ≤ F.length := by rw [← ht, List.length_append]; omega
      rw [if_pos ?_]
      · exact ad_sim rf hA h
      · rw [range_any (x := fi A F g) fun i hi => hA i _ (by omega) (by omega)]
        exact decide_eq_true (by omega)
    · rw [if_neg e] at h ⊢
      obtain ⟨t, ht⟩ := (ad_pre (A := A) (gs := gs) (O := O ++ [g])).trans h
      have e1 : fi A F g = O.length := by
        unfold fi
        have : ¬ O.findIdx (fun o => A o g) < O.length := fun q => e (List.any_eq_true.mpr ⟨_, List.getElem_mem q, List.findIdx_getElem (w := q)⟩)
        rw [← ht, List.append_assoc, List.findIdx_append, if_neg this, List.singleton_append, List.findIdx_cons, rf]
        simp
      have hle : O.length < F.length := by rw [← ht, List.length_append, List.length_append]; simp only [List.length_cons, List.length_nil]; omega
      rw [if_neg ?_]
      · rw [e1, ← List.range_succ, ← ad_sim rf hA h, List.length_append]
        rfl
      · rw [range_any (x := fi A F g) fun i hi => hA i _ (by omega) (by omega), e1]
        simp
theorem bfs_sim (rf : ∀ k, A k k = true) {F : List Nat} {A' : Nat → Nat → Bool} {G' : Nat → List Nat} (hA : ∀ i j, i < F.length → j < F.length → A' i j = decide (i = j)) (hG : ∀ i, i < F.length → G' i = (G (F.getD i 0)).map (fi A F)) : ∀ {f : Nat} {O : List Nat} {k : Nat}, bfs A G f O k <+: F → bfs A' G' f (List.range O.length) k = List.range (bfs A G f O k).length
  | 0, O, k, _ => rfl
  | f + 1, O, k, h => by
    rw [bfs] at h
    rw [bfs, bfs, List.length_range]
    by_cases e : k < O.length
    · rw [if_pos e] at h ⊢
      rw [if_pos e]
      have ha := (bfs_pre (A := A) (G := G) (f := f) (O := ad A O (G (O.getD k 0))) (k := k + 1)).trans h
      have ho := (ad_pre (A := A) (gs := G (O.getD k 0)) (O := O)).trans ha
      have hk : k < F.length := Nat.lt_of_lt_of_le e ho.length_le
      rw [show (List.range O.length).getD k 0 = k by simp [List.getD, e], hG k hk, getD_pre ho e, ad_sim rf hA ha]
      exact bfs_sim rf hA hG h
    · rw [if_neg e] at h ⊢
      rw [if_neg e]
end
/-! ### the least table -/
noncomputable def order (T : List Q) : List Nat := bfs (alB T) (gl T) 101 [0] 0
noncomputable def leG (T : List Q) (o : Nat) : List Nat := (gl T o).map (fi (alB T) (order T))
noncomputable def leS (T : List Q) (o : Nat) : Q := (st T o).re (leG T o)
noncomputable def least (T : List Q) : List Q := (order T).map (leS T)
section
variable {T : List Q}
theorem al_rf (k : Nat) : alB T k k = true := gd_iff.mpr fun r => E_refl r k
theorem gl_all (C : TabOk T) : ∀ o, o < T.length → ∀ g, g ∈ gl T o → g < T.length := fun o ho g hg => C.gs _ (st_mem ho) g hg
theorem order_ok (C : TabOk T) (hn : 0 < T.length) : OrdOk (alB T) T.length (order T) ∧ Cov (alB T) (gl T) (order T) (order T).length := by
  have h1 := C.n1
  refine bfs_ok al_rf (gl_all C) (by omega) ⟨List.pairwise_singleton _ _, fun o ho => ?_⟩ fun i hi => absurd hi (by omega)
  rw [List.mem_singleton.mp ho]; exact hn
theorem order_len (C : TabOk T) (hn : 0 < T.length) : (order T).length ≤ T.length := ord_len al_rf (order_ok C hn).1
theorem order_pos : 0 < (order T).length := by
  have := (bfs_pre (A := alB T) (G := gl T) (f := 101) (O := [0]) (k := 0)).length_le
  exact this
theorem order_cov (C : TabOk T) (hn : 0 < T.length) {o g : Nat} (ho : o ∈ order T) (hg : g ∈ gl T o) : (order T).any (fun o => alB T o g) = true := by
  obtain ⟨i, hi, rfl⟩ := List.mem_iff_getElem.mp ho
  refine (order_ok C hn).2 i hi hi g ?_
  rw [show (order T).getD i 0 = (order T)[i] by simp [List.getD, List.getElem?_eq_getElem hi]]
  exact hg
theorem leG_len {o : Nat} : (leG T o).length = (st T o).goals.length := by unfold leG; rw [List.length_map]; rfl
theorem leS_goals {o : Nat} : (leS T o).goals = leG T o := re_goals leG_len
theorem leS_nk {o : Nat} : (leS T o).nk = (st T o).nk := re_nk leG_len
theorem least_len : (least T).length = (order T).length := by unfold least; rw [List.length_map]
theorem least_st {i : Nat} (hi : i < (order T).length) : st (least T) i = leS T ((order T).getD i 0) := by
  unfold st least
  simp [List.getD, List.getElem?_eq_getElem hi]
theorem least_gl {i : Nat} (hi : i < (order T).length) : gl (least T) i = leG T ((order T).getD i 0) := by
  unfold gl
  rw [least_st hi, leS_goals]
theorem order_at (C : TabOk T) (hn : 0 < T.length) {i : Nat} (hi : i < (order T).length) : (order T).getD i 0 < T.length := ord_at (order_ok C hn).1 hi
theorem order_mem {i : Nat} (hi : i < (order T).length) : (order T).getD i 0 ∈ order T := by
  rw [show (order T).getD i 0 = (order T)[i] by simp [List.getD, List.getElem?_eq_getElem hi]]
  exact List.getElem_mem hi
theorem leG_lt (C : TabOk T) (hn : 0 < T.length) {o : Nat} (ho : o ∈ order T) : ∀ x, x ∈ leG T o → x < (order T).length := fun x hx => by
  obtain ⟨g, hg, rfl⟩ := List.mem_map.mp hx
  exact fi_lt (order_cov C hn ho hg)
theorem least_ok (C : TabOk T) (hn : 0 < T.length) : TabOk (least T) := by
  refine ⟨fun q hq => ?_, fun q hq g hg => ?_, ?_⟩
  · obtain ⟨o, ho, rfl⟩ := List.mem_map.mp hq
    exact re_ok leG_len (C.ok _ (st_mem ((order_ok C hn).1.lt o ho)))
  · obtain ⟨o, ho, rfl⟩ := List.mem_map.mp hq
    rw [leS_goals] at hg
    rw [least_len]
    exact leG_lt C hn ho g hg
  · rw [least_len]; exact Nat.le_trans (order_len C hn) C.n1
theorem map_at {l : List Nat} {f : Nat → Nat} {i : Nat} (h : i < l.length) : (l.map f).getD i 0 = f (l.getD i 0) := by
  simp [List.getD, List.getElem?_eq_getElem h]
theorem mem_at {l : List Nat} {i : Nat} (h : i < l.length) : l.getD i 0 ∈ l := by
  rw [show l.getD i 0 = l[i] by simp [List.getD, List.getElem?_eq_getElem h]]
  exact List.getElem_mem h
theorem least_E (C : TabOk T) (hn : 0 < T.length) : ∀ (r i j : Nat), i < (order T).length → j < (order T).length → E (least T) r i j = E T r ((order T).getD i 0) ((order T).getD j 0)
  | 0, i, j, hi, hj => by
    rw [E, E, least_st hi, least_st hj, leS_nk, leS_nk]
  | r + 1, i, j, hi, hj => by
    rw [E, E, least_E C hn r i j hi hj]
    have oi := order_at C hn hi
    have oj := order_at C hn hj
    cases e : E T r ((order T).getD i 0) ((order T).getD j 0) with
    | false => rfl
    | true =>
      have hl := gl_len C oi oj e
      rw [Bool.true_and, Bool.true_and, least_gl hi, least_gl hj]
      unfold leG
      rw [List.length_map, Bool.eq_iff_iff, List.all_eq_true, List.all_eq_true]
      refine forall_congr' fun t => forall_congr' fun ht => ?_
      have ht := List.mem_range.mp ht
      have ht' : t < (gl T ((order T).getD j 0)).length := by omega
      rw [map_at ht, map_at ht']
      have c1 := order_cov C hn (order_mem hi) (mem_at ht)
      have c2 := order_cov C hn (order_mem hj) (mem_at ht')
      rw [least_E C hn r _ _ (fi_lt c1) (fi_lt c2)]
      have x1 := gd_iff.mp (fi_at c1) r
      have x2 := gd_iff.mp (fi_at c2) r
      have y1 := order_at C hn (fi_lt c1)
      have y2 := order_at C hn (fi_lt c2)
      have g1 := gl_lt C oi ht
      have g2 := gl_lt C oj ht'
      constructor
      · intro h
        exact E_trans C g1 y1 g2 (E_symm C y1 g1 x1) (E_trans C y1 y2 g2 h x2)
      · intro h
        exact E_trans C y1 g1 y2 x1 (E_trans C g1 g2 y2 h (E_symm C y2 g2 x2))
theorem order_ne (C : TabOk T) (hn : 0 < T.length) {i j : Nat} (hi : i < j) (hj : j < (order T).length) : ¬ Al T ((order T).getD i 0) ((order T).getD j 0) := by
  have h := (order_ok C hn).1.pw
  have := List.pairwise_iff_getElem.mp h i j (by omega) hj hi
  intro a
  have b := gd_iff.mpr a
  rw [show (order T).getD i 0 = (order T)[i] by simp [List.getD, List.getElem?_eq_getElem (show i < (order T).length by omega)], show (order T).getD j 0 = (order T)[j] by simp [List.getD, List.getElem?_eq_getElem hj]] at b
  unfold alB at this
  rw [this] at b; cases b
theorem least_al (C : TabOk T) (hn : 0 < T.length) {i j : Nat} (hi : i < (least T).length) (hj : j < (least T).length) : alB (least T) i j = decide (i = j) := by
  rw [least_len] at hi hj
  have oi := order_at C hn hi
  have oj := order_at C hn hj
  unfold alB
  rw [Bool.eq_iff_iff, gd_iff, decide_eq_true_eq]
  constructor
  · intro h
    have h1 : Al T ((order T).getD i 0) ((order T).getD j 0) := fun r => (least_E C hn r i j hi hj) ▸ h r
    rcases Nat.lt_trichotomy i j with q | q | q
    · exact absurd h1 (order_ne C hn q hj)
    · exact q
    · exact absurd (fun r => E_symm C oi oj (h1 r)) (order_ne C hn q hi)
  · rintro rfl
    exact fun r => E_refl r i
theorem least_order (C : TabOk T) (hn : 0 < T.length) : order (least T) = List.range (order T).length := by
  have h := bfs_sim (A := alB T) (G := gl T) (A' := alB (least T)) (G' := gl (least T)) (F := order T) al_rf (fun i j hi hj => least_al C hn (by rw [least_len]; exact hi) (by rw [least_len]; exact hj)) (fun i hi => least_gl hi) (f := 101) (O := [0]) (k := 0) (List.prefix_refl _)
  exact h
theorem least_fi (C : TabOk T) (hn : 0 < T.length) {g : Nat} (hg : g < (order T).length) : fi (alB (least T)) (List.range (order T).length) g = g := by
  have ha : (List.range (order T).length).any (fun o => alB (least T) o g) = true := List.any_eq_true.mpr ⟨g, List.mem_range.mpr hg, al_rf g⟩
  have h1 := fi_lt ha
  have h2 := fi_at ha
  rw [List.length_range] at h1
  rw [show (List.range (order T).length).getD (fi (alB (least T)) (List.range (order T).length) g) 0 = fi (alB (least T)) (List.range (order T).length) g by simp [List.getD, h1], least_al C hn (by rw [least_len]; exact h1) (by rw [least_len]; exact hg), decide_eq_true_eq] at h2
  exact h2
theorem range_st {L : List Q} : (List.range L.length).map (st L) = L := by
  apply List.ext_getElem
  · simp
  · intro i h1 h2
    rw [List.getElem_map, List.getElem_range]
    unfold st
    simp [List.getD, List.getElem?_eq_getElem h2]
theorem least_idem (C : TabOk T) (hn : 0 < T.length) : least (least T) = least T := by
  have e := least_order C hn
  show (order (least T)).map (leS (least T)) = least T
  conv => rhs; rw [← range_st (L := least T)]
  rw [e, least_len]
  apply List.map_congr_left
  intro i hi
  have hi := List.mem_range.mp hi
  unfold leS leG
  rw [e]
  have : (gl (least T) i).map (fi (alB (least T)) (List.range (order T).length)) = gl (least T) i := by
    conv => rhs; rw [← List.map_id (gl (least T) i)]
    apply List.map_congr_left
    intro g hg
    rw [least_gl hi] at hg
    exact least_fi C hn (leG_lt C hn (order_mem hi) g hg)
  rw [this]
  exact re_self
end
end K11

namespace K11
open PySem PySem.Spec PyProof.Rows L2 PV
/-! ### the dict of the order -/
def nmF (N : List Nat) : Nat → List Nat → List (Key × D)
  | _, [] => []
  | i, o :: O => (.inl ((N.getD o 0 : Nat) : Int), .int (i : Nat)) :: nmF N (i + 1) O
section
variable {N : List Nat} {A : Nat → Nat → Bool} {n g : Nat}
theorem nm_len : ∀ (O : List Nat) (i : Nat), (nmF N i O).length = O.length
  | [], _ => rfl
  | o :: O, i => by rw [nmF, List.length_cons, List.length_cons, nm_len O]
theorem nm_app : ∀ (O : List Nat) (i : Nat), nmF N i (O ++ [g]) = nmF N i O ++ [(.inl ((N.getD g 0 : Nat) : Int), .int ((i + O.length : Nat) : Int))]
  | [], i => rfl
  | o :: O, i => by
    rw [List.cons_append, nmF, nmF, nm_app O (i + 1), List.cons_append, List.length_cons]
    congr 5
    omega
theorem key_dec {x y : Nat} : decide ((Sum.inl ((x : Nat) : Int) : Key) = .inl ((y : Nat) : Int)) = decide (x = y) := by
  rw [Bool.eq_iff_iff, decide_eq_true_iff, decide_eq_true_iff]
  constructor
  · intro h; injection h with h; omega
  · rintro rfl; rfl
theorem nm_any : ∀ (O : List Nat) (i : Nat), (∀ o, o ∈ O → decide (N.getD o 0 = N.getD g 0) = A o g) → (nmF N i O).any (fun q => decide (q.1 = (.inl ((N.getD g 0 : Nat) : Int) : Key))) = O.any fun o => A o g
  | [], _, _ => rfl
  | o :: O, i, h => by
    rw [nmF, List.any_cons, List.any_cons, nm_any O (i + 1) fun x hx => h x (List.mem_cons_of_mem _ hx)]
    show (decide ((Sum.inl ((N.getD o 0 : Nat) : Int) : Key) = .inl ((N.getD g 0 : Nat) : Int)) || _) = _
    rw [key_dec, h o List.mem_cons_self]
theorem nm_get : ∀ (O : List Nat) (i : Nat), (∀ o, o ∈ O → decide (N.getD o 0 = N.getD g 0) = A o g) → kget (nmF N i O) (.inl ((N.getD g 0 : Nat) : Int)) = if O.any (fun o => A o g) = true then some (.int ((i + fi A O g : Nat) : Int)) else none
  | [], _, _ => rfl
  | o :: O, i, h => by
    have ih := nm_get O (i + 1) fun x hx => h x (List.mem_cons_of_mem _ hx)
    unfold kget at ih ⊢
    unfold fi at ih ⊢
    have e : decide ((Sum.inl ((N.getD o 0 : Nat) : Int) : Key) = .inl ((N.getD g 0 : Nat) : Int)) = A o g := by rw [key_dec, h o List.mem_cons_self]
    rw [nmF, List.find?_cons]
    show Option.map _ (match decide ((Sum.inl ((N.getD o 0 : Nat) : Int) : Key) = .inl ((N.getD g 0 : Nat) : Int)) with | true => _ | false => _) = _
    rw [e, List.any_cons, List.findIdx_cons]
    cases A o g with
    | true => simp
    | false =>
      rw [ih]
      cases O.any fun o => A o g with
      | true => simp; omega
      | false => simp
end
noncomputable def lbB : M Fl := iteM (truB (binM (inD true) (.ex (binM ixD (.sl 1) (.sl 5))) (.sl 3))) (seqM (setItM 3 (binM ixD (.sl 1) (.sl 5)) (unM lenD (.sl 2))) (dropM (growM appD 2 (varM 5)))) nxM
section
variable {W : World} {N : List Nat} {A : Nat → Nat → Bool} {n : Nat} {a0 a4 a6 a7 a8 : Slot} {o1 : Own}
theorem gs_lenL {gs : List Nat} : lenD (.lst (gsD gs)) = some (false, .int gs.length) := by
  show some (false, D.int ((List.length (gsD gs) : Nat) : Int)) = _
  unfold gsD
  rw [List.length_map]
theorem lb_one (HA : ∀ o g, o < n → g < n → decide (N.getD o 0 = N.getD g 0) = A o g) (hN : N.length = n) {O : List Nat} {g : Nat} (hO : ∀ o, o ∈ O → o < n) (hl : O.length ≤ 100) (hg : g < n) :
    lbB [a0, some (o1, .lst (gsD N)), some (.ow, .lst (gsD O)), some (.ow, .dct (nmF N 0 O)), a4, some (.sh, .int g), a6, a7, a8] =
      .ok .nx (if O.any (fun o => A o g) = true then [a0, some (o1, .lst (gsD N)), some (.ow, .lst (gsD O)), some (.ow, .dct (nmF N 0 O)), a4, some (.sh, .int g), a6, a7, a8] else [a0, some (o1, .lst (gsD N)), some (.ow, .lst (gsD (O ++ [g]))), some (.ow, .dct (nmF N 0 (O ++ [g]))), a4, some (.sh, .int g), a6, a7, a8]) := by
  have hA : ∀ o, o ∈ O → decide (N.getD o 0 = N.getD g 0) = A o g := fun o ho => HA o g (hO o ho) hg
  have e1 : ixD (.lst (gsD N)) (.int g) = some (false, .int (N.getD g 0 : Nat)) := ix_gs (by omega)
  have eg := nm_get O 0 hA
  have ea := nm_any O 0 hA
  by_cases q : O.any (fun o => A o g) = true
  · rw [if_pos q] at eg ⊢
    have e2 : inD true (.int (N.getD g 0 : Nat)) (.dct (nmF N 0 O)) = some (false, .bl false) := by
      show some (false, D.bl (!(kget (nmF N 0 O) (.inl ((N.getD g 0 : Nat) : Int))).isSome)) = _
      rw [eg]; rfl
    unfold lbB
    generalize nmF N 0 O = ND at *
    generalize gsD N = GN at *
    generalize ((N.getD g 0 : Nat) : Int) = x at *
    simp (implicitDefEqProofs := false) [-v_ixL, e1, e2]
  · rw [if_neg q] at eg ⊢
    have e2 : inD true (.int (N.getD g 0 : Nat)) (.dct (nmF N 0 O)) = some (false, .bl true) := by
      show some (false, D.bl (!(kget (nmF N 0 O) (.inl ((N.getD g 0 : Nat) : Int))).isSome)) = _
      rw [eg]; rfl
    have e3 := gs_lenL (gs := O)
    have e4 : setD (.dct (nmF N 0 O)) (.int (N.getD g 0 : Nat)) (.int O.length) = some (.dct (nmF N 0 (O ++ [g]))) := by
      show (if (nmF N 0 O).length < sizeLine then some (D.dct (kput (nmF N 0 O) (.inl ((N.getD g 0 : Nat) : Int)) (.int O.length))) else none) = _
      rw [if_pos (by rw [nm_len, sizeLine_eq]; omega)]
      unfold kput
      rw [ea, if_neg q, nm_app, Nat.zero_add]
    have e5 : gsD O ++ [.int g] = gsD (O ++ [g]) := by simp [gsD]
    have e6 : (gsD O).length < sizeLine := by unfold gsD; rw [List.length_map, sizeLine_eq]; omega
    unfold lbB
    generalize nmF N 0 O = ND at *
    generalize nmF N 0 (O ++ [g]) = ND' at *
    generalize gsD N = GN at *
    generalize gsD O = GO at *
    generalize gsD (O ++ [g]) = GO' at *
    generalize ((N.getD g 0 : Nat) : Int) = x at *
    simp (implicitDefEqProofs := false) [-v_ixL, -v_lenL, e1, e2, e3, e4, e5, e6]
theorem q5 {a0 a1 a2 a3 a4 a6 a7 a8 x : Slot} {o : Own} {d : D} (h : nio x = true) : putS [a0, a1, a2, a3, a4, x, a6, a7, a8] 5 o d = some [a0, a1, a2, a3, a4, some (o, d), a6, a7, a8] := by
  match x, h with
  | none, _ => rfl
  | some (.sh, _), _ => rfl
  | some (.ow, _), _ => rfl
theorem lb_loop (rf : ∀ k, A k k = true) (HA : ∀ o g, o < n → g < n → decide (N.getD o 0 = N.getD g 0) = A o g) (hN : N.length = n) (h1 : n ≤ 100) : ∀ (gs O : List Nat) (s5 : Slot), OrdOk A n O → (∀ g, g ∈ gs → g < n) → nio s5 = true →
    ∃ t5 : Slot, nio t5 = true ∧ forL (.nm 5) lbB (gsD gs) [a0, some (o1, .lst (gsD N)), some (.ow, .lst (gsD O)), some (.ow, .dct (nmF N 0 O)), a4, s5, a6, a7, a8] =
      .ok .nx [a0, some (o1, .lst (gsD N)), some (.ow, .lst (gsD (ad A O gs))), some (.ow, .dct (nmF N 0 (ad A O gs))), a4, t5, a6, a7, a8]
  | [], O, s5, _, _, h5 => ⟨s5, h5, by simp [gsD, ad]⟩
  | g :: gs, O, s5, hO, hg, h5 => by
    have hl := ord_len rf hO
    have hO' : OrdOk A n (if O.any (fun o => A o g) = true then O else O ++ [g]) := by
      have := ad_ok (gs := [g]) hO fun x hx => hg x (by rw [List.mem_singleton.mp hx]; exact List.mem_cons_self)
      exact this
    obtain ⟨t5, f5, ih⟩ := lb_loop rf HA hN h1 gs (if O.any (fun o => A o g) = true then O else O ++ [g]) (some (.sh, .int g)) hO' (fun x hx => hg x (List.mem_cons_of_mem _ hx)) rfl
    refine ⟨t5, f5, ?_⟩
    have eb := lb_one (a0 := a0) (a4 := a4) (a6 := a6) (a7 := a7) (a8 := a8) (o1 := o1) HA hN hO.lt (show O.length ≤ 100 by omega) (hg g List.mem_cons_self)
    rw [ad, ← ih]
    show forL _ _ (D.int g :: gsD gs) _ = _
    rw [ev_for1, ev_putN, q5 h5]
    by_cases q : O.any (fun o => A o g) = true
    · rw [if_pos q] at eb ⊢
      simp only [eb, Res.bind_ok]
    · rw [if_neg q] at eb ⊢
      simp only [eb, Res.bind_ok]
noncomputable def lwB (W : World) (k : Nat) : M Fl := seqM (forM (itM (binM ixD (.ex (callM (sem W (k + 1) 0) [.ex (binM ixD (.sl 0) (.ex (binM ixD (.sl 2) (.sl 4))))])) (.ex (constM (.int 1))))) (.nm 5) lbB) (augM addI 4 (constM (.int 1)))
noncomputable def lwC : M Bool := truB (binM ltD (.sl 4) (.ex (unM lenD (.sl 2))))
end
section
variable {W : World} {k : Nat} {T : List Q} {N : List Nat} {o1 : Own}
noncomputable abbrev lS (T : List Q) (N : List Nat) (o1 : Own) (O : List Nat) (x : Nat) (s5 : Slot) : S := [some (.sh, tabD T), some (o1, .lst (gsD N)), some (.ow, .lst (gsD O)), some (.ow, .dct (nmF N 0 O)), some (.sh, .int x), s5, none, none, none]
theorem lw_one (C : TabOk T) (hN : NumsOk T N) {O : List Nat} {x : Nat} {s5 : Slot} (hO : OrdOk (alB T) T.length O) (hx : x < O.length) (h5 : nio s5 = true) :
    ∃ t5 : Slot, nio t5 = true ∧ lwB W k (lS T N o1 O x s5) = .ok .nx (lS T N o1 (ad (alB T) O (gl T (O.getD x 0))) (x + 1) t5) := by
  have hg := ord_at hO hx
  obtain ⟨t5, f5, el⟩ := lb_loop (a0 := some (.sh, tabD T)) (a4 := some (.sh, .int x)) (a6 := none) (a7 := none) (a8 := none) (o1 := o1) al_rf (fun o g ho hg => alB_nums hN ho hg) hN.len C.n1 (gl T (O.getD x 0)) O s5 hO (gl_all C _ hg) h5
  refine ⟨t5, f5, ?_⟩
  have e1 : ixD (.lst (gsD O)) (.int x) = some (false, .int (O.getD x 0 : Nat)) := ix_gs hx
  have e2 := tab_at hg
  have e3 := parts (W := W) (k := k) (C.ok _ (st_mem hg))
  have e4 : ixD (partsD (st T (O.getD x 0))) (.int 1) = some (false, .tup (gsD (gl T (O.getD x 0)))) := pt1
  have e6 : addI (.int x) (.int 1) = some (false, .int ((x + 1 : Nat) : Int)) := rfl
  unfold lS lwB
  generalize lbB = LB at *
  generalize gsD N = GN at *
  generalize nmF N 0 O = ND at *
  generalize nmF N 0 (ad (alB T) O (gl T (O.getD x 0))) = ND' at *
  generalize gsD (ad (alB T) O (gl T (O.getD x 0))) = GO' at *
  generalize gsD (gl T (O.getD x 0)) = GG at *
  generalize partsD (st T (O.getD x 0)) = P at *
  generalize (st T (O.getD x 0)).d = SD at *
  generalize gsD O = GO at *
  generalize ((O.getD x 0 : Nat) : Int) = z at *
  generalize tabD T = TD at *
  simp (implicitDefEqProofs := false) [-v_ixL, -v_ixT, -v_addI2, e1, e2, e3, e4, e6, el]
theorem lw_cond {O : List Nat} {x : Nat} {s5 : Slot} : lwC (lS T N o1 O x s5) = .ok (decide (x < O.length)) (lS T N o1 O x s5) := by
  have e3 := gs_lenL (gs := O)
  have e4 : ltD (.int x) (.int O.length) = some (false, .bl (decide (x < O.length))) := by
    show some (false, D.bl (decide ((x : Int) < (O.length : Int)))) = _
    rw [show decide ((x : Int) < (O.length : Int)) = decide (x < O.length) by rw [Bool.eq_iff_iff, decide_eq_true_iff, decide_eq_true_iff]; omega]
  unfold lS lwC
  generalize decide (x < O.length) = b at *
  generalize nmF N 0 O = ND at *
  generalize gsD O = GO at *
  simp (implicitDefEqProofs := false) [-v_lenL, e3, e4]
theorem lw_loop (C : TabOk T) (hN : NumsOk T N) : ∀ (f : Nat) (O : List Nat) (x : Nat) (s5 : Slot), T.length < x + f → OrdOk (alB T) T.length O → nio s5 = true →
    ∃ (y : Nat) (t5 : Slot), nio t5 = true ∧ whileM lwC (lwB W k) (lS T N o1 O x s5) = .ok .nx (lS T N o1 (bfs (alB T) (gl T) f O x) y t5)
  | 0, O, x, s5, hf, hO, h5 => by
    have hl := ord_len al_rf hO
    refine ⟨x, s5, h5, ?_⟩
    rw [whileM_eq]
    unfold wstep
    rw [lw_cond, Res.bind_ok, decide_eq_false (by omega), if_neg Bool.false_ne_true]
    rfl
  | f + 1, O, x, s5, hf, hO, h5 => by
    by_cases e : x < O.length
    · obtain ⟨t5, f5, eb⟩ := lw_one (W := W) (k := k) (o1 := o1) C hN hO e h5
      obtain ⟨y, u5, g5, ih⟩ := lw_loop C hN f (ad (alB T) O (gl T (O.getD x 0))) (x + 1) t5 (by omega) (ad_ok hO (gl_all C _ (ord_at hO e))) f5
      refine ⟨y, u5, g5, ?_⟩
      rw [whileM_eq, bfs, if_pos e]
      unfold wstep
      rw [lw_cond, Res.bind_ok, decide_eq_true e, if_pos rfl, eb, Res.bind_ok]
      exact ih
    · refine ⟨x, s5, h5, ?_⟩
      rw [whileM_eq, bfs, if_neg e]
      unfold wstep
      rw [lw_cond, Res.bind_ok, decide_eq_false e, if_neg Bool.false_ne_true]
end
end K11

namespace K11
open PySem PySem.Spec PyProof.Rows L2 PV
/-! ### least_table -/
section
variable {W : World} {k : Nat} {T : List Q} {N : List Nat} {a0 a2 a4 a6 a7 a8 : Slot} {o1 o3 : Own}
noncomputable def rcE : M (Bool × D) := binM ixD (.sl 3) (.ex (binM ixD (.sl 1) (.sl 5)))
theorem rc_loop {A : Nat → Nat → Bool} {n : Nat} (HA : ∀ o g, o < n → g < n → decide (N.getD o 0 = N.getD g 0) = A o g) (hN : N.length = n) {O : List Nat} (hO : ∀ o, o ∈ O → o < n) : ∀ (gs : List Nat) (acc : List D), (∀ g, g ∈ gs → g < n ∧ O.any (fun o => A o g) = true) → acc.length + gs.length ≤ sizeLine →
    lcL (.nm 5) yesM rcE [5] (gsD gs) acc [a0, some (o1, .lst (gsD N)), a2, some (o3, .dct (nmF N 0 O)), a4, none, a6, a7, a8] = .ok (acc ++ gsD (gs.map (fi A O))) [a0, some (o1, .lst (gsD N)), a2, some (o3, .dct (nmF N 0 O)), a4, none, a6, a7, a8]
  | [], acc, _, _ => by simp [lcL, gsD]
  | g :: gs, acc, hg, hz => by
    rw [List.length_cons] at hz
    have hacc : acc.length < sizeLine := by omega
    obtain ⟨hg1, hg2⟩ := hg g List.mem_cons_self
    have ih := rc_loop HA hN hO gs (acc ++ [.int (fi A O g : Nat)]) (fun x hx => hg x (List.mem_cons_of_mem _ hx)) (by rw [List.length_append]; simp only [List.length_cons, List.length_nil]; omega)
    have e1 : ixD (.lst (gsD N)) (.int g) = some (false, .int (N.getD g 0 : Nat)) := ix_gs (by omega)
    have eg := nm_get (A := A) O 0 fun o ho => HA o g (hO o ho) hg1
    rw [if_pos hg2, Nat.zero_add] at eg
    have e2 : ixD (.dct (nmF N 0 O)) (.int (N.getD g 0 : Nat)) = some (false, .int (fi A O g : Nat)) := by
      show (kget (nmF N 0 O) (.inl ((N.getD g 0 : Nat) : Int))).map (fun d => (false, d)) = _
      rw [eg]; rfl
    rw [show acc ++ gsD ((g :: gs).map (fi A O)) = acc ++ [D.int (fi A O g : Nat)] ++ gsD (gs.map (fi A O)) by simp [gsD], ← ih]
    show lcL _ _ _ _ (D.int g :: gsD gs) _ _ = _
    rw [lcL, ev_putN]
    unfold rcE
    generalize nmF N 0 O = ND at *
    generalize gsD N = GN at *
    generalize ((N.getD g 0 : Nat) : Int) = x at *
    generalize ((fi A O g : Nat) : Int) = y at *
    simp (implicitDefEqProofs := false) [-v_ixL, nox, e1, e2, hacc, killAll]
noncomputable def rsB (W : World) (k : Nat) : M Fl := (seqM (setM 8 (compM (itM (binM ixD (.ex (callM (sem W (k + 2) 0) [.ex (binM ixD (.sl 0) (.sl 7))])) (.ex (constM (.int 1))))) (.nm 5) yesM rcE [5]))
    (dropM (growM appD 6 (callM (sem W (k + 2) 3) [.ex (binM ixD (.sl 0) (.sl 7)), .ex (varM 8)]))))
theorem q7 {a0 a1 a2 a3 a4 a5 a6 a8 x : Slot} {o : Own} {d : D} (h : nio x = true) : putS [a0, a1, a2, a3, a4, a5, a6, x, a8] 7 o d = some [a0, a1, a2, a3, a4, a5, a6, some (o, d), a8] := by
  match x, h with
  | none, _ => rfl
  | some (.sh, _), _ => rfl
  | some (.ow, _), _ => rfl
theorem q8 {a0 a1 a2 a3 a4 a5 a6 a7 x : Slot} {o : Own} {d : D} (h : nio x = true) : putS [a0, a1, a2, a3, a4, a5, a6, a7, x] 8 o d = some [a0, a1, a2, a3, a4, a5, a6, a7, some (o, d)] := by
  match x, h with
  | none, _ => rfl
  | some (.sh, _), _ => rfl
  | some (.ow, _), _ => rfl
theorem rs_one (C : TabOk T) (hn : 0 < T.length) (hN : NumsOk T N) {o : Nat} {acc : List D} {s5 s8 : Slot} (ho : o ∈ order T) (hz : acc.length < sizeLine) (h5 : nio s5 = true) (h8 : nio s8 = true) :
    ∃ t8 : Slot, nio t8 = true ∧ rsB W k [some (.sh, tabD T), some (o1, .lst (gsD N)), a2, some (o3, .dct (nmF N 0 (order T))), a4, s5, some (.ow, .lst acc), some (.sh, .int o), s8] =
      .ok .nx [some (.sh, tabD T), some (o1, .lst (gsD N)), a2, some (o3, .dct (nmF N 0 (order T))), a4, none, some (.ow, .lst (acc ++ [(leS T o).d])), some (.sh, .int o), t8] := by
  have hlt := (order_ok C hn).1.lt o ho
  have h60 := gl60 C hlt
  have e0 := tab_at hlt
  have e1 := parts (W := W) (k := k + 1) (C.ok _ (st_mem hlt))
  have e2 : ixD (partsD (st T o)) (.int 1) = some (false, .tup (gsD (gl T o))) := pt1
  have e3 := rc_loop (a0 := some (.sh, tabD T)) (a2 := a2) (a4 := a4) (a6 := some (.ow, .lst acc)) (a7 := some (.sh, .int o)) (a8 := s8) (o1 := o1) (o3 := o3) (A := alB T) (fun o g ho hg => alB_nums hN ho hg) hN.len (order_ok C hn).1.lt (gl T o) [] (fun g hg => ⟨gl_all C o hlt g hg, order_cov C hn ho hg⟩) (by rw [sizeLine_eq]; simp only [List.length_nil]; omega)
  rw [List.nil_append] at e3
  have e4 := with_goals (W := W) (k := k) (gs := leG T o) (C.ok _ (st_mem hlt)) leG_len
  refine ⟨some (.sh, .lst (gsD (leG T o))), rfl, ?_⟩
  unfold rsB
  have e3 : lcL (.nm 5) yesM rcE [5] (gsD (gl T o)) [] _ = .ok (gsD (leG T o)) _ := e3
  have e4 : sem W (k + 2) 3 [(st T o).d, .lst (gsD (leG T o))] = .ret false (leS T o).d [] := e4
  generalize rcE = RC at *
  generalize nmF N 0 (order T) = ND at *
  generalize gsD N = GN at *
  generalize gsD (gl T o) = GG at *
  generalize gsD (leG T o) = GL at *
  generalize partsD (st T o) = P at *
  generalize (leS T o).d = LD at *
  generalize (st T o).d = SD at *
  generalize tabD T = TD at *
  simp (implicitDefEqProofs := false) [-v_ixL, -v_ixT, -ev_putS, q8, h8, e0, e1, e2, e3, e4, hz, killAll]
theorem rs_loop (C : TabOk T) (hn : 0 < T.length) (hN : NumsOk T N) : ∀ (os : List Nat) (acc : List D) (s5 s7 s8 : Slot), (∀ o, o ∈ os → o ∈ order T) → acc.length + os.length ≤ sizeLine → nio s5 = true → nio s7 = true → nio s8 = true →
    ∃ t5 t7 t8 : Slot, forL (.nm 7) (rsB W k) (gsD os) [some (.sh, tabD T), some (o1, .lst (gsD N)), a2, some (o3, .dct (nmF N 0 (order T))), a4, s5, some (.ow, .lst acc), s7, s8] =
      .ok .nx [some (.sh, tabD T), some (o1, .lst (gsD N)), a2, some (o3, .dct (nmF N 0 (order T))), a4, t5, some (.ow, .lst (acc ++ os.map fun o => (leS T o).d)), t7, t8]
  | [], acc, s5, s7, s8, _, _, h5, h7, h8 => ⟨s5, s7, s8, by simp [gsD]⟩
  | o :: os, acc, s5, s7, s8, ho, hz, h5, h7, h8 => by
    rw [List.length_cons] at hz
    obtain ⟨t8, f8, eb⟩ := rs_one (W := W) (k := k) (a2 := a2) (a4 := a4) (o1 := o1) (o3 := o3) (acc := acc) C hn hN (ho o List.mem_cons_self) (show acc.length < sizeLine by omega) h5 h8
    obtain ⟨u5, u7, u8, ih⟩ := rs_loop C hn hN os (acc ++ [(leS T o).d]) none (some (.sh, .int o)) t8 (fun x hx => ho x (List.mem_cons_of_mem _ hx)) (by rw [List.length_append]; simp only [List.length_cons, List.length_nil]; omega) rfl rfl f8
    refine ⟨u5, u7, u8, ?_⟩
    rw [show acc ++ (o :: os).map (fun o => (leS T o).d) = acc ++ [(leS T o).d] ++ os.map (fun o => (leS T o).d) by simp, ← ih]
    show forL _ _ (D.int o :: gsD os) _ = _
    rw [ev_for1, ev_putN, q7 h7]
    simp only [eb, Res.bind_ok]
end
theorem least_table {W : World} {k : Nat} {T : List Q} (C : TabOk T) (hn : 0 < T.length) : sem W (k + 3) 4 [tabD T] = .ret false (tabD (least T)) [] := by
  obtain ⟨N, hN, e1⟩ := classes (W := W) (k := k) C hn
  have h1 := C.n1
  have hlen := order_len C hn
  have e2 : ixD (.lst (gsD N)) (.int 0) = some (false, .int (N.getD 0 0 : Nat)) := ix_gs (g := 0) (by rw [hN.len]; exact hn)
  obtain ⟨y, t5, f5, e3⟩ := lw_loop (W := W) (k := k + 1) (o1 := .ow) C hN 101 [0] 0 none (by omega) ⟨List.pairwise_singleton _ _, fun o ho => by rw [List.mem_singleton.mp ho]; exact hn⟩ rfl
  have e3 : whileM lwC (lwB W (k + 1)) (lS T N .ow [0] 0 none) = .ok .nx (lS T N .ow (order T) y t5) := e3
  obtain ⟨u5, u7, u8, e4⟩ := rs_loop (W := W) (k := k) (a2 := some (.sh, .lst (gsD (order T)))) (a4 := some (.sh, .int y)) (o1 := .ow) (o3 := .ow) C hn hN (order T) [] t5 none none (fun o ho => ho) (by rw [sizeLine_eq]; simp only [List.length_nil]; omega) f5 rfl rfl
  rw [List.nil_append] at e4
  have et : D.tup ((order T).map fun o => (leS T o).d) = tabD (least T) := by
    unfold tabD least
    rw [List.map_map]; rfl
  have eb : b4 W (sem W (k + 2)) = seqM (setM 1 (callM (sem W (k + 2) 1) [.ex (varM 0)])) (seqM (setM 2 (lstM [(constM (.int 0))])) (seqM (setM 3 (dispM [((binM ixD (.sl 1) (.ex (constM (.int 0)))), (constM (.int 0)))])) (seqM (setM 4 (constM (.int 0))) (seqM (whileM lwC (lwB W (k + 1))) (seqM (setM 6 (lstM [])) (seqM (forM (itM (varM 2)) (.nm 7) (rsB W k)) (retM (unM toTup (.sl 6))))))))) := rfl
  rw [se4, eb]
  have z0 : (0 : Nat) ≤ sizeLine := by decide
  have z1 : (1 : Nat) ≤ sizeLine := by decide
  refine runF_rt (s := [some (.sh, tabD T), some (.ow, .lst (gsD N)), some (.sh, .lst (gsD (order T))), some (.ow, .dct (nmF N 0 (order T))), some (.sh, .int y), u5, some (.ow, .lst ((order T).map fun o => (leS T o).d)), u7, u8]) ?_ rfl rfl
  rw [show initS [] 9 [tabD T] = [some (.sh, tabD T), none, none, none, none, none, none, none, none] from rfl]
  have e3 : whileM lwC (lwB W (k + 1)) [some (.sh, tabD T), some (.ow, .lst (gsD N)), some (.ow, .lst (gsD [0])), some (.ow, .dct (nmF N 0 [0])), some (.sh, .int 0), none, none, none, none] = .ok .nx [some (.sh, tabD T), some (.ow, .lst (gsD N)), some (.ow, .lst (gsD (order T))), some (.ow, .dct (nmF N 0 (order T))), some (.sh, .int y), t5, none, none, none] := e3
  have ek : kpairs [.int (N.getD 0 0 : Nat), .int 0] = some [(.inl ((N.getD 0 0 : Nat) : Int), .int 0)] := rfl
  have em : kmerge [] [((.inl ((N.getD 0 0 : Nat) : Int) : Key), D.int 0)] = nmF N 0 [0] := rfl
  have e0 : D.lst [.int 0] = .lst (gsD [0]) := rfl
  rw [← et]
  generalize ((order T).map fun o => (leS T o).d) = RL at *
  generalize gsD N = GN at *
  generalize nmF N 0 (order T) = ND at *
  generalize nmF N 0 [0] = ND0 at *
  generalize gsD (order T) = GO at *
  generalize ((N.getD 0 0 : Nat) : Int) = x at *
  generalize rsB W k = RB at *
  generalize lwB W (k + 1) = LB at *
  generalize lwC = LC at *
  generalize tabD T = TD at *
  simp (implicitDefEqProofs := false) [-v_ixL, e1, e2, e3, e4, ek, em, e0, toTup, z0, z1, flat2]
end K11

namespace K11
open PySem PySem.Spec PyProof.Rows L2 PV
/-! ### the law's order -/
theorem gs_pys : ∀ l : List Nat, D.pys (gsD l) = some (l.map fun g => PyData.int (g : Nat))
  | [] => by simp [gsD, D.pys]
  | g :: l => by
    have := gs_pys l
    unfold gsD at this ⊢
    simp [D.pys, D.py, this]
theorem gs_flat (l : List Nat) : (gsD l).all flatD = true := by
  unfold gsD
  rw [List.all_map, List.all_eq_true]
  intro x _; rfl
theorem gs_eq0 {l : List Nat} : eqS false (.lst (gsD l)) (.lst []) = some (false, .bl l.isEmpty) := by
  obtain ⟨p, p1, p2⟩ := (sh_lst (n := 0) (ds := gsD l) fun d hd => by
    obtain ⟨g, _, rfl⟩ := List.mem_map.mp hd
    exact sh_int).shp (by decide)
  obtain ⟨r, r1, r2⟩ := (sh_lst (n := 0) (ds := []) fun d hd => nomatch hd).shp (by decide)
  have e1 : D.py (.lst (gsD l)) = some (.list (l.map fun g => PyData.int (g : Nat))) := by simp [D.py, gs_pys]
  have e2 : D.py (.lst []) = some (.list []) := by simp [D.py, D.pys]
  rw [e1] at p1; cases p1
  rw [e2] at r1; cases r1
  show eqDD false _ _ = _
  unfold eqDD eqD
  rw [p2, r2]
  cases l with
  | nil => rfl
  | cons g l => simp [PyData.eqv, PyData.eqvAll]
theorem filt_any {l : List Nat} {p : Nat → Bool} : (l.filter p).isEmpty = !l.any p := by
  induction l with
  | nil => rfl
  | cons x l ih =>
    rw [List.filter_cons, List.any_cons]
    cases p x with
    | true => rfl
    | false => rw [if_neg Bool.false_ne_true, ih]; rfl
noncomputable def flT : M Bool := truM (.ex (binM ixD (.ex (binM ixD (.sl 1) (.sl 11))) (.sl 4)))
noncomputable def llB : M Fl := iteM (truB (binM (eqS false) (.ex (compO 2 (.nm 11) flT (varM 11) [11])) (.ex (lstM [])))) (dropM (growM appD 2 (varM 4))) nxM
section
variable {a0 a2 a3 a5 a6 a7 a8 a9 a10 a12 : Slot} {A : Nat → Nat → Bool} {n : Nat} {o1 : Own}
theorem fl_loop {g : Nat} (hg : g < n) : ∀ (os : List Nat) (acc : List D), (∀ o, o ∈ os → o < n) → acc.length + os.length ≤ sizeLine →
    lcL (.nm 11) flT (varM 11) [11] (gsD os) acc [a0, some (o1, mtD A n), a2, a3, some (.sh, .int g), a5, a6, a7, a8, a9, a10, none, a12] = .ok (acc ++ gsD (os.filter fun o => A o g)) [a0, some (o1, mtD A n), a2, a3, some (.sh, .int g), a5, a6, a7, a8, a9, a10, none, a12]
  | [], acc, _, _ => by simp [lcL, gsD]
  | o :: os, acc, h, hz => by
    rw [List.length_cons] at hz
    have hacc : acc.length < sizeLine := by omega
    have e1 := mt_row (F := A) (h o List.mem_cons_self)
    have e2 := mt_at (F := A) (k := o) hg
    show lcL _ _ _ _ (D.int o :: gsD os) _ _ = _
    rw [lcL, ev_putN, List.filter_cons]
    cases q : A o g with
    | true =>
      rw [q] at e2
      have ih := fl_loop hg os (acc ++ [.int o]) (fun i hi => h i (List.mem_cons_of_mem _ hi)) (by rw [List.length_append]; simp only [List.length_cons, List.length_nil]; omega)
      rw [if_pos rfl, show acc ++ gsD (o :: os.filter fun o => A o g) = acc ++ [D.int o] ++ gsD (os.filter fun o => A o g) by simp [gsD], ← ih]
      unfold flT
      generalize blD ((List.range n).map (A o)) = B at *
      generalize mtD A n = MT at *
      simp (implicitDefEqProofs := false) [-v_ixL, nox, e1, e2, hacc, killAll]
    | false =>
      rw [q] at e2
      have ih := fl_loop hg os acc (fun i hi => h i (List.mem_cons_of_mem _ hi)) (by omega)
      rw [if_neg Bool.false_ne_true, ← ih]
      unfold flT
      generalize blD ((List.range n).map (A o)) = B at *
      generalize mtD A n = MT at *
      simp (implicitDefEqProofs := false) [-v_ixL, nox, e1, e2, hacc, killAll]
theorem ll_one {O : List Nat} {g : Nat} (hO : ∀ o, o ∈ O → o < n) (hl : O.length ≤ 100) (hg : g < n) :
    llB [a0, some (o1, mtD A n), some (.ow, .lst (gsD O)), a3, some (.sh, .int g), a5, a6, a7, a8, a9, a10, none, a12] =
      .ok .nx [a0, some (o1, mtD A n), some (.ow, .lst (gsD (if O.any (fun o => A o g) = true then O else O ++ [g]))), a3, some (.sh, .int g), a5, a6, a7, a8, a9, a10, none, a12] := by
  have e1 := fl_loop (a0 := a0) (a2 := none) (a3 := a3) (a5 := a5) (a6 := a6) (a7 := a7) (a8 := a8) (a9 := a9) (a10 := a10) (a12 := a12) (o1 := o1) (A := A) hg O [] hO (by rw [sizeLine_eq]; simp only [List.length_nil]; omega)
  rw [List.nil_append] at e1
  have e2 := gs_eq0 (l := O.filter fun o => A o g)
  rw [filt_any] at e2
  have e3 := gs_flat O
  have z0 : (0 : Nat) ≤ sizeLine := by decide
  have e6 : (gsD O).length < sizeLine := by unfold gsD; rw [List.length_map, sizeLine_eq]; omega
  cases q : O.any fun o => A o g with
  | true =>
    rw [q] at e2
    rw [if_pos rfl]
    unfold llB
    generalize flT = FT at *
    generalize gsD (O.filter fun o => A o g) = GF at *
    generalize mtD A n = MT at *
    generalize gsD O = GO at *
    simp (implicitDefEqProofs := false) [e1, e2, e3, z0, killAll]
  | false =>
    rw [q] at e2
    rw [if_neg Bool.false_ne_true]
    have e5 : gsD O ++ [.int g] = gsD (O ++ [g]) := by simp [gsD]
    unfold llB
    generalize flT = FT at *
    generalize gsD (O.filter fun o => A o g) = GF at *
    generalize mtD A n = MT at *
    generalize gsD (O ++ [g]) = GO' at *
    generalize gsD O = GO at *
    simp (implicitDefEqProofs := false) [e1, e2, e3, e5, e6, z0, killAll]
theorem r4 {a0 a1 a2 a3 a5 a6 a7 a8 a9 a10 a11 a12 x : Slot} {o : Own} {d : D} (h : nio x = true) : putS [a0, a1, a2, a3, x, a5, a6, a7, a8, a9, a10, a11, a12] 4 o d = some [a0, a1, a2, a3, some (o, d), a5, a6, a7, a8, a9, a10, a11, a12] := by
  match x, h with
  | none, _ => rfl
  | some (.sh, _), _ => rfl
  | some (.ow, _), _ => rfl
theorem ll_loop (rf : ∀ k, A k k = true) (h1 : n ≤ 100) : ∀ (gs O : List Nat) (s4 : Slot), OrdOk A n O → (∀ g, g ∈ gs → g < n) → nio s4 = true →
    ∃ t4 : Slot, nio t4 = true ∧ forL (.nm 4) llB (gsD gs) [a0, some (o1, mtD A n), some (.ow, .lst (gsD O)), a3, s4, a5, a6, a7, a8, a9, a10, none, a12] =
      .ok .nx [a0, some (o1, mtD A n), some (.ow, .lst (gsD (ad A O gs))), a3, t4, a5, a6, a7, a8, a9, a10, none, a12]
  | [], O, s4, _, _, h4 => ⟨s4, h4, by simp [gsD, ad]⟩
  | g :: gs, O, s4, hO, hg, h4 => by
    have hl := ord_len rf hO
    have hO' : OrdOk A n (if O.any (fun o => A o g) = true then O else O ++ [g]) := by
      have := ad_ok (gs := [g]) hO fun x hx => hg x (by rw [List.mem_singleton.mp hx]; exact List.mem_cons_self)
      exact this
    obtain ⟨t4, f4, ih⟩ := ll_loop rf h1 gs (if O.any (fun o => A o g) = true then O else O ++ [g]) (some (.sh, .int g)) hO' (fun x hx => hg x (List.mem_cons_of_mem _ hx)) rfl
    refine ⟨t4, f4, ?_⟩
    have eb := ll_one (a0 := a0) (a3 := a3) (a5 := a5) (a6 := a6) (a7 := a7) (a8 := a8) (a9 := a9) (a10 := a10) (a12 := a12) (o1 := o1) (A := A) hO.lt (show O.length ≤ 100 by omega) (hg g List.mem_cons_self)
    rw [ad, ← ih]
    show forL _ _ (D.int g :: gsD gs) _ = _
    rw [ev_for1, ev_putN, r4 h4]
    simp only [eb, Res.bind_ok]
end
noncomputable def llW (W : World) (k : Nat) : M Fl := (seqM (forM (itM (binM ixD (.ex (callM (sem W (k + 1) 10) [.ex (binM ixD (.sl 0) (.ex (binM ixD (.sl 2) (.sl 3))))])) (.ex (constM (.int 1))))) (.nm 4) llB)
    (setM 3 (binM addD (.sl 3) (.ex (constM (.int 1))))))
noncomputable def llC : M Bool := (truB (binM ltD (.sl 3) (.ex (unM lenD (.sl 2)))))
section
variable {W : World} {k : Nat} {T : List Q} {o1 : Own}
noncomputable abbrev mS (T : List Q) (o1 : Own) (O : List Nat) (x : Nat) (s4 : Slot) : S := [some (.sh, tabD T), some (o1, mtD (alB T) T.length), some (.ow, .lst (gsD O)), some (.sh, .int x), s4, none, none, none, none, none, none, none, none]
theorem mw_one (C : TabOk T) {O : List Nat} {x : Nat} {s4 : Slot} (hO : OrdOk (alB T) T.length O) (hx : x < O.length) (h4 : nio s4 = true) :
    ∃ t4 : Slot, nio t4 = true ∧ llW W k (mS T o1 O x s4) = .ok .nx (mS T o1 (ad (alB T) O (gl T (O.getD x 0))) (x + 1) t4) := by
  have hg := ord_at hO hx
  obtain ⟨t4, f4, el⟩ := ll_loop (a0 := some (.sh, tabD T)) (a3 := some (.sh, .int x)) (a5 := none) (a6 := none) (a7 := none) (a8 := none) (a9 := none) (a10 := none) (a12 := none) (o1 := o1) al_rf C.n1 (gl T (O.getD x 0)) O s4 hO (gl_all C _ hg) h4
  refine ⟨t4, f4, ?_⟩
  have e1 : ixD (.lst (gsD O)) (.int x) = some (false, .int (O.getD x 0 : Nat)) := ix_gs hx
  have e2 := tab_at hg
  have e3 := lparts (W := W) (k := k) (C.ok _ (st_mem hg))
  have e4 : ixD (partsD (st T (O.getD x 0))) (.int 1) = some (false, .tup (gsD (gl T (O.getD x 0)))) := pt1
  have e6 : addD (.int x) (.int 1) = some (false, .int ((x + 1 : Nat) : Int)) := rfl
  unfold mS llW
  generalize llB = LB at *
  generalize gsD (ad (alB T) O (gl T (O.getD x 0))) = GO' at *
  generalize gsD (gl T (O.getD x 0)) = GG at *
  generalize partsD (st T (O.getD x 0)) = P at *
  generalize (st T (O.getD x 0)).d = SD at *
  generalize gsD O = GO at *
  generalize ((O.getD x 0 : Nat) : Int) = z at *
  generalize tabD T = TD at *
  generalize mtD (alB T) T.length = MT at *
  simp (implicitDefEqProofs := false) [-v_ixL, -v_ixT, -v_addI, e1, e2, e3, e4, e6, el]
theorem mw_cond {O : List Nat} {x : Nat} {s4 : Slot} : llC (mS T o1 O x s4) = .ok (decide (x < O.length)) (mS T o1 O x s4) := by
  have e3 := gs_lenL (gs := O)
  have e4 : ltD (.int x) (.int O.length) = some (false, .bl (decide (x < O.length))) := by
    show some (false, D.bl (decide ((x : Int) < (O.length : Int)))) = _
    rw [show decide ((x : Int) < (O.length : Int)) = decide (x < O.length) by rw [Bool.eq_iff_iff, decide_eq_true_iff, decide_eq_true_iff]; omega]
  unfold mS llC
  generalize decide (x < O.length) = b at *
  generalize gsD O = GO at *
  generalize mtD (alB T) T.length = MT at *
  simp (implicitDefEqProofs := false) [-v_lenL, e3, e4]
theorem mw_loop (C : TabOk T) : ∀ (f : Nat) (O : List Nat) (x : Nat) (s4 : Slot), T.length < x + f → OrdOk (alB T) T.length O → nio s4 = true →
    ∃ (y : Nat) (t4 : Slot), nio t4 = true ∧ whileM llC (llW W k) (mS T o1 O x s4) = .ok .nx (mS T o1 (bfs (alB T) (gl T) f O x) y t4)
  | 0, O, x, s4, hf, hO, h4 => by
    have hl := ord_len al_rf hO
    refine ⟨x, s4, h4, ?_⟩
    rw [whileM_eq]
    unfold wstep
    rw [mw_cond, Res.bind_ok, decide_eq_false (by omega), if_neg Bool.false_ne_true]
    rfl
  | f + 1, O, x, s4, hf, hO, h4 => by
    by_cases e : x < O.length
    · obtain ⟨t4, f4, eb⟩ := mw_one (W := W) (k := k) (o1 := o1) C hO e h4
      obtain ⟨y, u4, g4, ih⟩ := mw_loop C f (ad (alB T) O (gl T (O.getD x 0))) (x + 1) t4 (by omega) (ad_ok hO (gl_all C _ (ord_at hO e))) f4
      refine ⟨y, u4, g4, ?_⟩
      rw [whileM_eq, bfs, if_pos e]
      unfold wstep
      rw [mw_cond, Res.bind_ok, decide_eq_true e, if_pos rfl, eb, Res.bind_ok]
      exact ih
    · refine ⟨x, s4, h4, ?_⟩
      rw [whileM_eq, bfs, if_neg e]
      unfold wstep
      rw [mw_cond, Res.bind_ok, decide_eq_false e, if_neg Bool.false_ne_true]
end
end K11

namespace K11
open PySem PySem.Spec PyProof.Rows L2 PV
/-! ### the law's least table -/
theorem filt_first {n m : Nat} {p : Nat → Bool} (hm : m < n) (hp : p m = true) (hn : ∀ j, j < m → p j = false) : ((List.range n).filter p)[0]? = some m := by
  obtain ⟨d, rfl⟩ : ∃ d, n = m + (d + 1) := ⟨n - m - 1, by omega⟩
  rw [List.range_add, List.filter_append, List.range_succ_eq_map, List.map_cons, List.filter_cons, Nat.add_zero, if_pos hp]
  rw [List.filter_eq_nil_iff.mpr fun j hj => by rw [hn j (List.mem_range.mp hj)]; exact Bool.false_ne_true]
  rfl
theorem filt_fi {A : Nat → Nat → Bool} {O : List Nat} {g : Nat} (ha : O.any (fun o => A o g) = true) : ((List.range O.length).filter fun k => A (O.getD k 0) g)[0]? = some (fi A O g) := by
  have hl := fi_lt ha
  refine filt_first hl (fi_at ha) fun j hj => ?_
  have hj2 : j < O.length := by omega
  have := List.not_of_lt_findIdx (p := fun o => A o g) (xs := O) (i := j) hj
  rw [show O.getD j 0 = O[j] by simp [List.getD, List.getElem?_eq_getElem hj2]]
  exact this
noncomputable def nkT : M Bool := (truM (.ex (binM ixD (.ex (binM ixD (.sl 1) (.ex (binM ixD (.sl 2) (.sl 12))))) (.sl 4))))
noncomputable def nuE : M (Bool × D) := (binM ixD (.ex (compM (rng1M (unM lenD (.sl 2))) (.nm 12) nkT (varM 12) [12])) (.ex (constM (.int 0))))
section
variable {a0 a3 a5 a6 a7 a8 a9 a10 a11 : Slot} {A : Nat → Nat → Bool} {n : Nat} {o1 o2 : Own}
theorem nk_loop {O : List Nat} {g : Nat} (hO : ∀ o, o ∈ O → o < n) (hg : g < n) : ∀ (ks : List Nat) (acc : List D), (∀ k, k ∈ ks → k < O.length) → acc.length + ks.length ≤ sizeLine →
    lcL (.nm 12) nkT (varM 12) [12] (ks.map fun i => .int (0 + (i : Nat))) acc [a0, some (o1, mtD A n), some (o2, .lst (gsD O)), a3, some (.sh, .int g), a5, a6, a7, a8, a9, a10, a11, none] =
      .ok (acc ++ gsD (ks.filter fun k => A (O.getD k 0) g)) [a0, some (o1, mtD A n), some (o2, .lst (gsD O)), a3, some (.sh, .int g), a5, a6, a7, a8, a9, a10, a11, none]
  | [], acc, _, _ => by simp [lcL, gsD]
  | k :: ks, acc, h, hz => by
    rw [List.length_cons] at hz
    have hacc : acc.length < sizeLine := by omega
    have hk := h k List.mem_cons_self
    have e0 : ixD (.lst (gsD O)) (.int k) = some (false, .int (O.getD k 0 : Nat)) := ix_gs hk
    have e1 := mt_row (F := A) (hO _ (mem_at hk))
    have e2 := mt_at (F := A) (k := O.getD k 0) hg
    rw [List.map_cons, lcL, ev_putN, Int.zero_add, List.filter_cons]
    cases q : A (O.getD k 0) g with
    | true =>
      rw [q] at e2
      have ih := nk_loop hO hg ks (acc ++ [.int k]) (fun i hi => h i (List.mem_cons_of_mem _ hi)) (by rw [List.length_append]; simp only [List.length_cons, List.length_nil]; omega)
      rw [if_pos rfl, show acc ++ gsD (k :: ks.filter fun k => A (O.getD k 0) g) = acc ++ [D.int k] ++ gsD (ks.filter fun k => A (O.getD k 0) g) by simp [gsD], ← ih]
      unfold nkT
      generalize blD ((List.range n).map (A (O.getD k 0))) = B at *
      generalize ((O.getD k 0 : Nat) : Int) = z at *
      generalize gsD O = GO at *
      generalize mtD A n = MT at *
      simp (implicitDefEqProofs := false) [-v_ixL, nox, e0, e1, e2, hacc, killAll]
    | false =>
      rw [q] at e2
      have ih := nk_loop hO hg ks acc (fun i hi => h i (List.mem_cons_of_mem _ hi)) (by omega)
      rw [if_neg Bool.false_ne_true, ← ih]
      unfold nkT
      generalize blD ((List.range n).map (A (O.getD k 0))) = B at *
      generalize ((O.getD k 0 : Nat) : Int) = z at *
      generalize gsD O = GO at *
      generalize mtD A n = MT at *
      simp (implicitDefEqProofs := false) [-v_ixL, nox, e0, e1, e2, hacc, killAll]
theorem nu_loop {O : List Nat} (hO : ∀ o, o ∈ O → o < n) (hl : O.length ≤ 100) : ∀ (gs : List Nat) (acc : List D), (∀ g, g ∈ gs → g < n ∧ O.any (fun o => A o g) = true) → acc.length + gs.length ≤ sizeLine →
    lcL (.nm 4) yesM nuE [4] (gsD gs) acc [a0, some (o1, mtD A n), some (o2, .lst (gsD O)), a3, none, a5, a6, a7, a8, a9, a10, a11, none] =
      .ok (acc ++ gsD (gs.map (fi A O))) [a0, some (o1, mtD A n), some (o2, .lst (gsD O)), a3, none, a5, a6, a7, a8, a9, a10, a11, none]
  | [], acc, _, _ => by simp [lcL, gsD]
  | g :: gs, acc, h, hz => by
    rw [List.length_cons] at hz
    have hacc : acc.length < sizeLine := by omega
    obtain ⟨hg1, hg2⟩ := h g List.mem_cons_self
    have ih := nu_loop hO hl gs (acc ++ [.int (fi A O g : Nat)]) (fun x hx => h x (List.mem_cons_of_mem _ hx)) (by rw [List.length_append]; simp only [List.length_cons, List.length_nil]; omega)
    have e1 := nk_loop (a0 := a0) (a3 := a3) (a5 := a5) (a6 := a6) (a7 := a7) (a8 := a8) (a9 := a9) (a10 := a10) (a11 := a11) (o1 := o1) (o2 := o2) (A := A) hO hg1 (List.range O.length) [] (fun j hj => List.mem_range.mp hj) (by rw [sizeLine_eq, List.length_range]; simp only [List.length_nil]; omega)
    rw [List.nil_append] at e1
    have e1 : lcL (.nm 12) nkT (varM 12) [12] (intsD 0 O.length) [] _ = _ := e1
    have er : rngD (.int O.length) = some (intsD 0 O.length) := rng_nat (by rw [sizeLine_eq]; omega)
    have e2 : ixD (.lst (gsD ((List.range O.length).filter fun k => A (O.getD k 0) g))) (.int 0) = some (false, .int (fi A O g : Nat)) := by
      unfold gsD
      show (atI _ ((0 : Nat) : Int)).map _ = _
      rw [at_nat, List.getElem?_map, filt_fi hg2]
      rfl
    have e3 := gs_lenL (gs := O)
    rw [show acc ++ gsD ((g :: gs).map (fi A O)) = acc ++ [D.int (fi A O g : Nat)] ++ gsD (gs.map (fi A O)) by simp [gsD], ← ih]
    show lcL _ _ _ _ (D.int g :: gsD gs) _ _ = _
    rw [lcL, ev_putN]
    unfold nuE
    generalize nkT = NT at *
    generalize gsD ((List.range O.length).filter fun k => A (O.getD k 0) g) = GF at *
    generalize ((fi A O g : Nat) : Int) = y at *
    generalize gsD O = GO at *
    generalize mtD A n = MT at *
    simp (implicitDefEqProofs := false) [-v_ixL, -v_lenL, nox, e1, e2, e3, er, hacc, killAll]
end
noncomputable def chE : M (Bool × D) := (binM addD (.ex (binM ixD (.ex (binM ixD (.sl 7) (.ex (constM (.int 2))))) (.sl 12))) (.ex (tupM [(binM ixD (.sl 9) (.sl 12))])))
section
variable {a0 a1 a2 a3 a4 a5 a6 a8 a10 a11 : Slot} {b : Str} {o7 o9 : Own}
def chD (l : List (Str × Str × Nat)) (gs : List Nat) (k : Nat) : D := .tup [.str (l.getD k ("", "", 0)).1, .str (l.getD k ("", "", 0)).2.1, .int (gs.getD k 0 : Nat)]
theorem ch_all : ∀ (l : List (Str × Str × Nat)) (gs : List Nat), gs.length = l.length → (List.range gs.length).map (chD l gs) = (reL l gs).map triD
  | [], [], _ => rfl
  | [], _ :: _, h => by simp at h
  | _ :: _, [], h => by simp at h
  | t :: l, g :: gs, h => by
    have ih := ch_all l gs (by simpa using h)
    rw [List.length_cons, List.range_succ_eq_map, List.map_cons, List.map_map, reL, List.map_cons, ← ih]
    rfl
theorem ch_loop {l : List (Str × Str × Nat)} {gs : List Nat} (hl : gs.length = l.length) : ∀ (ks : List Nat) (acc : List D), (∀ k, k ∈ ks → k < l.length) → acc.length + ks.length ≤ sizeLine →
    lcL (.nm 12) yesM chE [12] (ks.map fun i => .int (0 + (i : Nat))) acc [a0, a1, a2, a3, a4, a5, a6, some (o7, .tup [.str "get", .str b, .tup (l.map pairD)]), a8, some (o9, .lst (gsD gs)), a10, a11, none] =
      .ok (acc ++ ks.map (chD l gs)) [a0, a1, a2, a3, a4, a5, a6, some (o7, .tup [.str "get", .str b, .tup (l.map pairD)]), a8, some (o9, .lst (gsD gs)), a10, a11, none]
  | [], acc, _, _ => by simp [lcL]
  | k :: ks, acc, h, hz => by
    rw [List.length_cons] at hz
    have hacc : acc.length < sizeLine := by omega
    have hk := h k List.mem_cons_self
    have ih := ch_loop hl ks (acc ++ [chD l gs k]) (fun i hi => h i (List.mem_cons_of_mem _ hi)) (by rw [List.length_append]; simp only [List.length_cons, List.length_nil]; omega)
    have e1 : ixD (.tup [.str "get", .str b, .tup (l.map pairD)]) (.int 2) = some (false, .tup (l.map pairD)) := rfl
    have e2 : ixD (.tup (l.map pairD)) (.int k) = some (false, .tup [.str (l.getD k ("", "", 0)).1, .str (l.getD k ("", "", 0)).2.1]) := by
      rw [v_ixT, at_nat, List.getElem?_map, List.getElem?_eq_getElem hk]
      simp [List.getD, List.getElem?_eq_getElem hk, pairD]
    have e3 : ixD (.lst (gsD gs)) (.int k) = some (false, .int (gs.getD k 0 : Nat)) := ix_gs (by omega)
    have z1 : (1 : Nat) ≤ sizeLine := by decide
    have e4 : addD (.tup [.str (l.getD k ("", "", 0)).1, .str (l.getD k ("", "", 0)).2.1]) (.tup [.int (gs.getD k 0 : Nat)]) = some (false, chD l gs k) := rfl
    rw [show acc ++ (k :: ks).map (chD l gs) = acc ++ [chD l gs k] ++ ks.map (chD l gs) by simp, ← ih]
    rw [List.map_cons, lcL, ev_putN, Int.zero_add]
    unfold chE
    generalize chD l gs k = CD at *
    generalize D.tup [.str (l.getD k ("", "", 0)).1, .str (l.getD k ("", "", 0)).2.1] = PR at *
    generalize ((gs.getD k 0 : Nat) : Int) = z at *
    generalize D.tup [.str "get", .str b, .tup (l.map pairD)] = DO at *
    generalize l.map pairD = PL at *
    generalize gsD gs = GG at *
    simp (implicitDefEqProofs := false) [-v_ixL, -v_ixT, nox, e1, e2, e3, e4, z1, hacc, killAll]
end
end K11

namespace K11
open PySem PySem.Spec PyProof.Rows L2 PV
/-! ### the law's least table: a turn -/
noncomputable def rA (W : World) (k : Nat) : M Fl := (asgM (.tp [(.nm 7), (.nm 8)]) (callM (sem W (k + 1) 10) [.ex (binM ixD (.sl 0) (.sl 6))]))
noncomputable def rB : M Fl := (setM 9 (compM (itM (varM 8)) (.nm 4) yesM nuE [4]))
noncomputable def rC : M Fl := (iteM (truB (binM (eqS false) (.ex (binM ixD (.sl 7) (.ex (constM (.int 0))))) (.ex (constM (.str "end"))))) (dropM (growM appD 5 (varM 7))) (iteM (truB (binM (eqS false) (.ex (binM ixD (.sl 7) (.ex (constM (.int 0))))) (.ex (constM (.str "get"))))) (seqM (setM 10 (unM toTup (.ex (compM (rng1M (unM lenD (.sl 9))) (.nm 12) yesM chE [12]))))
    (dropM (growM appD 5 (tupM [(constM (.str "get")), (binM ixD (.sl 7) (.ex (constM (.int 1)))), (varM 10)])))) (dropM (growM appD 5 (binM addD (.sl 7) (.ex (unM toTup (.sl 9))))))))
theorem p78 {q : Q} {a0 a1 a2 a3 a4 a5 a6 a9 a10 a11 a12 x7 x8 : Slot} (h7 : nio x7 = true) (h8 : nio x8 = true) : (Tg.tp [.nm 7, .nm 8]).put (partsD q) [a0, a1, a2, a3, a4, a5, a6, x7, x8, a9, a10, a11, a12] = some [a0, a1, a2, a3, a4, a5, a6, some (.sh, q.does), some (.sh, .tup (gsD q.goals)), a9, a10, a11, a12] := by
  unfold partsD
  rw [Tg.put]
  match x7, h7, x8, h8 with
  | none, _, none, _ => rfl
  | none, _, some (.sh, _), _ => rfl
  | none, _, some (.ow, _), _ => rfl
  | some (.sh, _), _, none, _ => rfl
  | some (.sh, _), _, some (.sh, _), _ => rfl
  | some (.sh, _), _, some (.ow, _), _ => rfl
  | some (.ow, _), _, none, _ => rfl
  | some (.ow, _), _, some (.sh, _), _ => rfl
  | some (.ow, _), _, some (.ow, _), _ => rfl
theorem r9 {a0 a1 a2 a3 a4 a5 a6 a7 a8 a10 a11 a12 x : Slot} {o : Own} {d : D} (h : nio x = true) : putS [a0, a1, a2, a3, a4, a5, a6, a7, a8, x, a10, a11, a12] 9 o d = some [a0, a1, a2, a3, a4, a5, a6, a7, a8, some (o, d), a10, a11, a12] := by
  match x, h with
  | none, _ => rfl
  | some (.sh, _), _ => rfl
  | some (.ow, _), _ => rfl
theorem r10 {a0 a1 a2 a3 a4 a5 a6 a7 a8 a9 a11 a12 x : Slot} {o : Own} {d : D} (h : nio x = true) : putS [a0, a1, a2, a3, a4, a5, a6, a7, a8, a9, x, a11, a12] 10 o d = some [a0, a1, a2, a3, a4, a5, a6, a7, a8, a9, some (o, d), a11, a12] := by
  match x, h with
  | none, _ => rfl
  | some (.sh, _), _ => rfl
  | some (.ow, _), _ => rfl
theorem r6 {a0 a1 a2 a3 a4 a5 a7 a8 a9 a10 a11 a12 x : Slot} {o : Own} {d : D} (h : nio x = true) : putS [a0, a1, a2, a3, a4, a5, x, a7, a8, a9, a10, a11, a12] 6 o d = some [a0, a1, a2, a3, a4, a5, some (o, d), a7, a8, a9, a10, a11, a12] := by
  match x, h with
  | none, _ => rfl
  | some (.sh, _), _ => rfl
  | some (.ow, _), _ => rfl
section
variable {W : World} {k : Nat} {T : List Q} {a0 a1 a2 a3 a4 a6 a8 a11 s4 s7 s8 s9 s10 : Slot} {o1 o2 : Own} {acc : List D} {o : Nat}
theorem a_ok (C : TabOk T) (ho : o < T.length) (h7 : nio s7 = true) (h8 : nio s8 = true) :
    rA W k [some (.sh, tabD T), a1, a2, a3, s4, some (.ow, .lst acc), some (.sh, .int o), s7, s8, s9, s10, a11, none] = .ok .nx [some (.sh, tabD T), a1, a2, a3, s4, some (.ow, .lst acc), some (.sh, .int o), some (.sh, (st T o).does), some (.sh, .tup (gsD (gl T o))), s9, s10, a11, none] := by
  have e1 := tab_at ho
  have e2 := lparts (W := W) (k := k) (C.ok _ (st_mem ho))
  have e3 := p78 (q := st T o) (a0 := some (.sh, tabD T)) (a1 := a1) (a2 := a2) (a3 := a3) (a4 := s4) (a5 := some (.ow, .lst acc)) (a6 := some (.sh, .int o)) (a9 := s9) (a10 := s10) (a11 := a11) (a12 := none) h7 h8
  have eg : gl T o = (st T o).goals := rfl
  rw [← eg] at e3
  unfold rA asgM
  generalize (st T o).does = DO at *
  generalize gsD (gl T o) = GG at *
  generalize partsD (st T o) = P at *
  generalize (st T o).d = SD at *
  generalize tabD T = TD at *
  simp (implicitDefEqProofs := false) [-v_ixT, e1, e2, e3]
theorem b_ok (C : TabOk T) (hn : 0 < T.length) (ho : o ∈ order T) (h9 : nio s9 = true) :
    rB [a0, some (o1, mtD (alB T) T.length), some (o2, .lst (gsD (order T))), a3, s4, some (.ow, .lst acc), a6, s7, some (.sh, .tup (gsD (gl T o))), s9, s10, a11, none] = .ok .nx [a0, some (o1, mtD (alB T) T.length), some (o2, .lst (gsD (order T))), a3, none, some (.ow, .lst acc), a6, s7, some (.sh, .tup (gsD (gl T o))), some (.ow, .lst (gsD (leG T o))), s10, a11, none] := by
  have hlt := (order_ok C hn).1.lt o ho
  have h60 := gl60 C hlt
  have h1 := C.n1
  have hlen := order_len C hn
  have e1 := nu_loop (a0 := a0) (a3 := a3) (a5 := some (.ow, .lst acc)) (a6 := a6) (a7 := s7) (a8 := some (.sh, .tup (gsD (gl T o)))) (a9 := s9) (a10 := s10) (a11 := a11) (o1 := o1) (o2 := o2) (A := alB T) (order_ok C hn).1.lt (by omega) (gl T o) [] (fun g hg => ⟨gl_all C o hlt g hg, order_cov C hn ho hg⟩) (by rw [sizeLine_eq]; simp only [List.length_nil]; omega)
  rw [List.nil_append] at e1
  have e1 : lcL (.nm 4) yesM nuE [4] (gsD (gl T o)) [] _ = .ok (gsD (leG T o)) _ := e1
  unfold rB
  generalize nuE = NE at *
  generalize gsD (leG T o) = GL at *
  generalize gsD (gl T o) = GG at *
  generalize gsD (order T) = GO at *
  generalize mtD (alB T) T.length = MT at *
  simp (implicitDefEqProofs := false) [-ev_putS, r9, h9, e1, killAll]
theorem c_en (hz : acc.length < sizeLine) : rC [a0, a1, a2, a3, a4, some (.ow, .lst acc), a6, some (.sh, Q.en.does), a8, s9, s10, a11, none] = .ok .nx [a0, a1, a2, a3, a4, some (.ow, .lst (acc ++ [Q.en.d])), a6, some (.sh, Q.en.does), a8, s9, s10, a11, none] := by
  have i0 : ixD Q.en.does (.int 0) = some (false, .str "end") := ix0
  rw [show Q.en.d = Q.en.does from rfl]
  unfold rC
  generalize Q.en.does = DO at *
  simp (implicitDefEqProofs := false) [i0, hz]
theorem c_gt {b : Str} {l : List (Str × Str × Nat)} {gs : List Nat} (hl : gs.length = l.length) (h60 : l.length ≤ 60) (hz : acc.length < sizeLine) (h10 : nio s10 = true) :
    ∃ t10 : Slot, nio t10 = true ∧ rC [a0, a1, a2, a3, a4, some (.ow, .lst acc), a6, some (.sh, (Q.gt b l).does), a8, some (.ow, .lst (gsD gs)), s10, a11, none] = .ok .nx [a0, a1, a2, a3, a4, some (.ow, .lst (acc ++ [((Q.gt b l).re gs).d])), a6, some (.sh, (Q.gt b l).does), a8, some (.ow, .lst (gsD gs)), t10, a11, none] := by
  have i0 : ixD (Q.gt b l).does (.int 0) = some (false, .str "get") := ix0
  have i1 : ixD (Q.gt b l).does (.int 1) = some (false, .str b) := rfl
  have e1 := ch_loop (a0 := a0) (a1 := a1) (a2 := a2) (a3 := a3) (a4 := a4) (a5 := some (.ow, .lst acc)) (a6 := a6) (a8 := a8) (a10 := s10) (a11 := a11) (b := b) (o7 := .sh) (o9 := .ow) hl (List.range gs.length) [] (fun j hj => by have := List.mem_range.mp hj; omega) (by rw [sizeLine_eq, List.length_range]; simp only [List.length_nil]; omega)
  rw [List.nil_append, ch_all l gs hl] at e1
  have e1 : lcL (.nm 12) yesM chE [12] (intsD 0 gs.length) [] [a0, a1, a2, a3, a4, some (.ow, .lst acc), a6, some (.sh, (Q.gt b l).does), a8, some (.ow, .lst (gsD gs)), s10, a11, none] = .ok ((reL l gs).map triD) [a0, a1, a2, a3, a4, some (.ow, .lst acc), a6, some (.sh, (Q.gt b l).does), a8, some (.ow, .lst (gsD gs)), s10, a11, none] := e1
  have er : rngD (.int gs.length) = some (intsD 0 gs.length) := rng_nat (by rw [sizeLine_eq]; omega)
  have e3 := gs_lenL (gs := gs)
  have z3 : (3 : Nat) ≤ sizeLine := by decide
  have ne : ¬ (("get" : Str) = "end") := by decide
  refine ⟨some (.sh, .tup ((reL l gs).map triD)), rfl, ?_⟩
  rw [show ((Q.gt b l).re gs).d = .tup [.str "get", .str b, .tup ((reL l gs).map triD)] from rfl]
  unfold rC
  generalize chE = CE at *
  generalize (reL l gs).map triD = RL at *
  generalize (Q.gt b l).does = DO at *
  generalize gsD gs = GG at *
  simp (implicitDefEqProofs := false) [-ev_putS, -v_lenL, r10, h10, i0, i1, e1, e3, er, ne, toTup, z3, hz, killAll]
theorem c_el {w : Str} {F : List D} {gs : List Nat} (n1 : ¬ w = "end") (n2 : ¬ w = "get") (hs : F.length + 1 + gs.length ≤ sizeLine) (hz : acc.length < sizeLine) :
    rC [a0, a1, a2, a3, a4, some (.ow, .lst acc), a6, some (.sh, .tup (.str w :: F)), a8, some (.ow, .lst (gsD gs)), s10, a11, none] = .ok .nx [a0, a1, a2, a3, a4, some (.ow, .lst (acc ++ [.tup (.str w :: F ++ gsD gs)])), a6, some (.sh, .tup (.str w :: F)), a8, some (.ow, .lst (gsD gs)), s10, a11, none] := by
  have i0 : ixD (.tup (.str w :: F)) (.int 0) = some (false, .str w) := ix0
  have e1 : addD (.tup (.str w :: F)) (.tup (gsD gs)) = some (false, .tup (.str w :: F ++ gsD gs)) := by
    rw [v_addT, if_pos (by unfold gsD; rw [List.length_map, List.length_cons]; exact hs)]
  unfold rC
  generalize D.tup (.str w :: F ++ gsD gs) = R at *
  generalize D.tup (.str w :: F) = DO at *
  generalize gsD gs = GG at *
  simp (implicitDefEqProofs := false) [-v_addT, i0, e1, eq_false n1, eq_false n2, toTup, hz]
theorem c_ok (C : TabOk T) (ho : o < T.length) (hz : acc.length < sizeLine) (h10 : nio s10 = true) :
    ∃ t10 : Slot, nio t10 = true ∧ rC [a0, a1, a2, a3, a4, some (.ow, .lst acc), a6, some (.sh, (st T o).does), a8, some (.ow, .lst (gsD (leG T o))), s10, a11, none] = .ok .nx [a0, a1, a2, a3, a4, some (.ow, .lst (acc ++ [(leS T o).d])), a6, some (.sh, (st T o).does), a8, some (.ow, .lst (gsD (leG T o))), t10, a11, none] := by
  have hq := C.ok _ (st_mem ho)
  have hl := leG_len (T := T) (o := o)
  unfold leS
  generalize leG T o = gs at *
  generalize st T o = q at *
  cases q with
  | en => exact ⟨s10, h10, c_en hz⟩
  | gt b l => exact c_gt (by simpa [Q.goals] using hl) hq.2.1 hz h10
  | br w fr g o' =>
    obtain ⟨hw, _, h2, h3⟩ := hq
    match gs, hl with
    | [a, c], _ =>
      refine ⟨s10, h10, c_el (F := fr.map At.d) (by rcases hw with rfl | rfl <;> decide) (by rcases hw with rfl | rfl <;> decide) ?_ hz⟩
      simp only [List.length_map, List.length_cons, List.length_nil]; rw [sizeLine_eq]; omega
  | pl w fr g =>
    obtain ⟨w1, w2, w3, w4, _, h2, h3⟩ := hq
    match gs, hl with
    | [a], _ =>
      refine ⟨s10, h10, c_el (F := fr.map At.d) w3 w4 ?_ hz⟩
      simp only [List.length_map, List.length_cons, List.length_nil]; rw [sizeLine_eq]; omega
theorem le_loop (C : TabOk T) (hn : 0 < T.length) : ∀ (os : List Nat) (acc : List D) (s4 s6 s7 s8 s9 s10 : Slot), (∀ o, o ∈ os → o ∈ order T) → acc.length + os.length ≤ sizeLine → nio s6 = true → nio s7 = true → nio s8 = true → nio s9 = true → nio s10 = true →
    ∃ t4 t6 t7 t8 t9 t10 : Slot, forL (.nm 6) (seqM (rA W k) (seqM rB rC)) (gsD os) [some (.sh, tabD T), some (o1, mtD (alB T) T.length), some (o2, .lst (gsD (order T))), a3, s4, some (.ow, .lst acc), s6, s7, s8, s9, s10, a11, none] =
      .ok .nx [some (.sh, tabD T), some (o1, mtD (alB T) T.length), some (o2, .lst (gsD (order T))), a3, t4, some (.ow, .lst (acc ++ os.map fun o => (leS T o).d)), t6, t7, t8, t9, t10, a11, none]
  | [], acc, s4, s6, s7, s8, s9, s10, _, _, _, _, _, _, _ => ⟨s4, s6, s7, s8, s9, s10, by simp [gsD]⟩
  | o :: os, acc, s4, s6, s7, s8, s9, s10, ho, hz, h6, h7, h8, h9, h10 => by
    rw [List.length_cons] at hz
    have hacc : acc.length < sizeLine := by omega
    have hm := ho o List.mem_cons_self
    have hlt := (order_ok C hn).1.lt o hm
    obtain ⟨t10, f10, eC⟩ := c_ok (a0 := some (.sh, tabD T)) (a1 := some (o1, mtD (alB T) T.length)) (a2 := some (o2, .lst (gsD (order T)))) (a3 := a3) (a4 := none) (a6 := some (.sh, .int o)) (a8 := some (.sh, .tup (gsD (gl T o)))) (a11 := a11) C hlt hacc h10
    obtain ⟨u4, u6, u7, u8, u9, u10, ih⟩ := le_loop C hn os (acc ++ [(leS T o).d]) none (some (.sh, .int o)) (some (.sh, (st T o).does)) (some (.sh, .tup (gsD (gl T o)))) (some (.ow, .lst (gsD (leG T o)))) t10 (fun x hx => ho x (List.mem_cons_of_mem _ hx)) (by rw [List.length_append]; simp only [List.length_cons, List.length_nil]; omega) rfl rfl rfl rfl f10
    refine ⟨u4, u6, u7, u8, u9, u10, ?_⟩
    rw [show acc ++ (o :: os).map (fun o => (leS T o).d) = acc ++ [(leS T o).d] ++ os.map (fun o => (leS T o).d) by simp, ← ih]
    show forL _ _ (D.int o :: gsD os) _ = _
    rw [ev_for1, ev_putN, r6 h6]
    simp only [ev_seq, a_ok C hlt h7 h8, b_ok C hn hm h9, eC, Res.bind_ok]
end
theorem law_least {W : World} {k : Nat} {T : List Q} (C : TabOk T) (hn : 0 < T.length) : sem W (k + 3) 12 [tabD T] = .ret false (tabD (least T)) [] := by
  obtain ⟨fr, e1⟩ := lalike (W := W) (k := k) C hn
  have h1 := C.n1
  have hlen := order_len C hn
  obtain ⟨y, t4, f4, e3⟩ := mw_loop (W := W) (k := k + 1) (o1 := if fr = true then .ow else .sh) C 101 [0] 0 none (by omega) ⟨List.pairwise_singleton _ _, fun o ho => by rw [List.mem_singleton.mp ho]; exact hn⟩ rfl
  have e3 : whileM llC (llW W (k + 1)) [some (.sh, tabD T), some (if fr = true then Own.ow else Own.sh, mtD (alB T) T.length), some (.ow, .lst (gsD [0])), some (.sh, .int 0), none, none, none, none, none, none, none, none, none] = .ok .nx [some (.sh, tabD T), some (if fr = true then Own.ow else Own.sh, mtD (alB T) T.length), some (.ow, .lst (gsD (order T))), some (.sh, .int y), t4, none, none, none, none, none, none, none, none] := e3
  obtain ⟨u4, u6, u7, u8, u9, u10, e4⟩ := le_loop (W := W) (k := k + 1) (a3 := some (.sh, .int y)) (a11 := none) (o1 := if fr = true then .ow else .sh) (o2 := .sh) C hn (order T) [] t4 none none none none none (fun o ho => ho) (by rw [sizeLine_eq]; simp only [List.length_nil]; omega) rfl rfl rfl rfl rfl
  rw [List.nil_append] at e4
  have et : D.tup ((order T).map fun o => (leS T o).d) = tabD (least T) := by
    unfold tabD least
    rw [List.map_map]; rfl
  have eb : b12 W (sem W (k + 2)) = seqM (setM 1 (callM (sem W (k + 2) 11) [.ex (varM 0)])) (seqM (setM 2 (lstM [(constM (.int 0))])) (seqM (setM 3 (constM (.int 0))) (seqM (whileM llC (llW W (k + 1))) (seqM (setM 5 (lstM [])) (seqM (forM (itM (varM 2)) (.nm 6) (seqM (rA W (k + 1)) (seqM rB rC))) (retM (unM toTup (.sl 5)))))))) := rfl
  rw [se12, eb]
  have z0 : (0 : Nat) ≤ sizeLine := by decide
  have z1 : (1 : Nat) ≤ sizeLine := by decide
  refine runF_rt (s := [some (.sh, tabD T), some (if fr = true then Own.ow else Own.sh, mtD (alB T) T.length), some (.sh, .lst (gsD (order T))), some (.sh, .int y), u4, some (.ow, .lst ((order T).map fun o => (leS T o).d)), u6, u7, u8, u9, u10, none, none]) ?_ rfl rfl
  rw [show initS [] 13 [tabD T] = [some (.sh, tabD T), none, none, none, none, none, none, none, none, none, none, none, none] from rfl]
  have e0 : D.lst [.int 0] = .lst (gsD [0]) := rfl
  rw [← et]
  generalize ((order T).map fun o => (leS T o).d) = RL at *
  generalize gsD (order T) = GO at *
  generalize seqM (rA W (k + 1)) (seqM rB rC) = RB at *
  generalize llW W (k + 1) = LB at *
  generalize llC = LC at *
  generalize mtD (alB T) T.length = MT at *
  generalize tabD T = TD at *
  simp (implicitDefEqProofs := false) [-v_ixL, e1, e3, e4, e0, toTup, z0, z1]
end K11

namespace K11
open PySem PySem.Spec PyProof.Rows L2 PV
/-! ### the draws -/
theorem take {W : World} {k : Nat} {d : D} {m : Int} (h : Tape d) (h3 : 0 < m) (h4 : m < 1073741824) : ∃ (r : Nat) (d' : D), (r : Int) < m ∧ Tape d' ∧ sem W (k + 1) 6 [d, .int m] = .ret false (.int r) [d'] := by
  obtain ⟨r, d', h1, h2, h5, h6⟩ := take_run h h3 h4
  obtain ⟨n, rfl⟩ := Int.eq_ofNat_of_zero_le h1
  exact ⟨n, d', h2, h5, h6⟩
theorem pick {α : Type} {f : α → D} {xs : List α} {r : Nat} (h1 : r < xs.length) : ∃ x, x ∈ xs ∧ ixD (.lst (xs.map f)) (.int r) = some (false, f x) := by
  refine ⟨xs[r], List.getElem_mem h1, ?_⟩
  rw [v_ixL, at_nat, List.getElem?_map, List.getElem?_eq_getElem h1]; rfl
theorem okL : (["send", "set", "ask", "if", "while", "get", "b", "n", "go", "no"] : List Str).all okS = true := by decide +kernel
theorem okW {w : Str} (h : w ∈ (["send", "set", "ask", "if", "while", "get", "b", "n", "go", "no"] : List Str)) : okS w = true := List.all_eq_true.mp okL w h
theorem state {W : World} {k : Nat} {d : D} {m : Nat} (h : Tape d) (h0 : 0 < m) (h1 : m < 1000) : ∃ (q : Q) (d' : D), q.ok ∧ (∀ g, g ∈ q.goals → g < m) ∧ Tape d' ∧ sem W (k + 2) 13 [d, .int m] = .ret false q.d [d'] := by
  obtain ⟨g, d1, hg, t1, e1⟩ := take (W := W) (k := k) (m := (m : Int)) h (by omega) (by omega)
  obtain ⟨o, d2, ho, t2, e2⟩ := take (W := W) (k := k) (m := (m : Int)) t1 (by omega) (by omega)
  obtain ⟨v, d3, hv, t3, e3⟩ := take (W := W) (k := k) (m := 2) t2 (by decide) (by decide)
  obtain ⟨c, d4, hc, t4, e4⟩ := take (W := W) (k := k) (m := 7) t3 (by decide) (by decide)
  have u := tape_ul h
  have u1 := tape_ul t1
  have u2 := tape_ul t2
  have u3 := tape_ul t3
  have u4 := tape_ul t4
  have z1 : (1 : Nat) ≤ sizeLine := by decide
  have z2 : (2 : Nat) ≤ sizeLine := by decide
  have z3 : (3 : Nat) ≤ sizeLine := by decide
  have z4 : (4 : Nat) ≤ sizeLine := by decide
  have z5 : (5 : Nat) ≤ sizeLine := by decide
  have hg : g < m := by omega
  have ho : o < m := by omega
  have ei : initS [0] 7 [d, .int m] = [some (.io, d), some (.sh, .int m), none, none, none, none, none] := rfl
  rw [se13]
  have c7 : c = 0 ∨ c = 1 ∨ c = 2 ∨ c = 3 ∨ c = 4 ∨ c = 5 ∨ c = 6 := by omega
  rcases c7 with rfl | rfl | rfl | rfl | rfl | rfl | rfl
  · refine ⟨.en, d4, trivial, (by simp [Q.goals]), t4, ?_⟩
    refine runF_rt (s := [some (.io, d4), some (.sh, .int m), some (.sh, .int g), some (.sh, .int o), some (.sh, .tup [.str "number", .int v]), some (.sh, .int 0), none]) ?_ rfl rfl
    rw [ei]
    unfold b13
    simp (implicitDefEqProofs := false) [e1, e2, e3, e4, u, u1, u2, u3, z1, z2, Q.d]
  · obtain ⟨x, d5, hx, t5, e5⟩ := take (W := W) (k := k) (m := 2) t4 (by decide) (by decide)
    obtain ⟨nm, hn, p1⟩ := pick (f := D.str) (xs := ["go", "no"]) (r := x) (by simp only [List.length_cons, List.length_nil]; omega)
    have p1 : ixD (.lst [.str "go", .str "no"]) (.int x) = some (false, .str nm) := p1
    refine ⟨.pl "send" [.s "b", .s nm, .v v] g, d5, ⟨by decide, by decide, by decide, by decide, okW (by simp), by simp, fun a ha => ?_⟩, fun y hy => by rw [List.mem_singleton.mp hy]; exact hg, t5, ?_⟩
    · simp only [List.mem_cons, List.not_mem_nil, or_false] at ha
      rcases ha with rfl | rfl | rfl
      · exact okW (by simp)
      · exact okW (by simp at hn; rcases hn with rfl | rfl <;> simp)
      · trivial
    · refine runF_rt (s := [some (.io, d5), some (.sh, .int m), some (.sh, .int g), some (.sh, .int o), some (.sh, .tup [.str "number", .int v]), some (.sh, .int 1), none]) ?_ rfl rfl
      rw [ei]
      unfold b13
      simp (implicitDefEqProofs := false) [-v_ixL, e1, e2, e3, e4, e5, p1, u, u1, u2, u3, u4, z1, z2, z3, z4, z5, Q.d, At.d]
  · refine ⟨.pl "set" [.s "n", .v v] g, d4, ⟨by decide, by decide, by decide, by decide, okW (by simp), by simp, fun a ha => ?_⟩, fun y hy => by rw [List.mem_singleton.mp hy]; exact hg, t4, ?_⟩
    · simp only [List.mem_cons, List.not_mem_nil, or_false] at ha
      rcases ha with rfl | rfl
      · exact okW (by simp)
      · trivial
    · refine runF_rt (s := [some (.io, d4), some (.sh, .int m), some (.sh, .int g), some (.sh, .int o), some (.sh, .tup [.str "number", .int v]), some (.sh, .int 2), none]) ?_ rfl rfl
      rw [ei]
      unfold b13
      simp (implicitDefEqProofs := false) [e1, e2, e3, e4, u, u1, u2, u3, z1, z2, z3, z4, Q.d, At.d]
  · refine ⟨.pl "ask" [.s "n"] g, d4, ⟨by decide, by decide, by decide, by decide, okW (by simp), by simp, fun a ha => ?_⟩, fun y hy => by rw [List.mem_singleton.mp hy]; exact hg, t4, ?_⟩
    · rw [List.mem_singleton.mp ha]; exact okW (by simp)
    · refine runF_rt (s := [some (.io, d4), some (.sh, .int m), some (.sh, .int g), some (.sh, .int o), some (.sh, .tup [.str "number", .int v]), some (.sh, .int 3), none]) ?_ rfl rfl
      rw [ei]
      unfold b13
      simp (implicitDefEqProofs := false) [e1, e2, e3, e4, u, u1, u2, u3, z1, z2, z3, z4, Q.d, At.d]
  · refine ⟨.br "if" [.v v] g o, d4, ⟨.inl rfl, okW (by simp), by simp, fun a ha => ?_⟩, fun y hy => ?_, t4, ?_⟩
    · rw [List.mem_singleton.mp ha]; trivial
    · simp only [Q.goals, List.mem_cons, List.not_mem_nil, or_false] at hy
      rcases hy with rfl | rfl <;> assumption
    · refine runF_rt (s := [some (.io, d4), some (.sh, .int m), some (.sh, .int g), some (.sh, .int o), some (.sh, .tup [.str "number", .int v]), some (.sh, .int 4), none]) ?_ rfl rfl
      rw [ei]
      unfold b13
      simp (implicitDefEqProofs := false) [e1, e2, e3, e4, u, u1, u2, u3, z1, z2, z3, z4, Q.d, At.d]
  · obtain ⟨x, d5, hx, t5, e5⟩ := take (W := W) (k := k) (m := 2) t4 (by decide) (by decide)
    refine ⟨.br "while" [.n x, .v v] g o, d5, ⟨.inr rfl, okW (by simp), by simp, fun a ha => ?_⟩, fun y hy => ?_, t5, ?_⟩
    · simp only [List.mem_cons, List.not_mem_nil, or_false] at ha
      rcases ha with rfl | rfl <;> trivial
    · simp only [Q.goals, List.mem_cons, List.not_mem_nil, or_false] at hy
      rcases hy with rfl | rfl <;> assumption
    · refine runF_rt (s := [some (.io, d5), some (.sh, .int m), some (.sh, .int g), some (.sh, .int o), some (.sh, .tup [.str "number", .int v]), some (.sh, .int 5), none]) ?_ rfl rfl
      rw [ei]
      unfold b13
      simp (implicitDefEqProofs := false) [e1, e2, e3, e4, e5, u, u1, u2, u3, u4, z1, z2, z3, z4, z5, Q.d, At.d]
  · obtain ⟨x, d5, hx, t5, e5⟩ := take (W := W) (k := k) (m := 3) t4 (by decide) (by decide)
    obtain ⟨l, hl, p1⟩ := pick (f := fun l : List (Str × Str × Nat) => D.tup (l.map triD)) (xs := [[("go", "n", g), ("no", "n", o)], [("go", "n", g)], [("no", "n", o)]]) (r := x) (by simp only [List.length_cons, List.length_nil]; omega)
    have p1 : ixD (.lst [.tup [triD ("go", "n", g), triD ("no", "n", o)], .tup [triD ("go", "n", g)], .tup [triD ("no", "n", o)]]) (.int x) = some (false, .tup (l.map triD)) := p1
    refine ⟨.gt "b" l, d5, ?_, ?_, t5, ?_⟩
    · have hgo : okS "go" = true := okW (by simp)
      have hno : okS "no" = true := okW (by simp)
      have hnn : okS "n" = true := okW (by simp)
      simp only [List.mem_cons, List.not_mem_nil, or_false] at hl
      rcases hl with rfl | rfl | rfl <;> refine ⟨okW (by simp), by simp, fun t ht => ?_⟩ <;> simp only [List.mem_cons, List.not_mem_nil, or_false] at ht
      · rcases ht with rfl | rfl <;> simp [hgo, hno, hnn]
      · subst ht; simp [hgo, hnn]
      · subst ht; simp [hno, hnn]
    · intro y hy
      simp only [List.mem_cons, List.not_mem_nil, or_false] at hl
      rcases hl with rfl | rfl | rfl <;> simp [Q.goals] at hy
      · rcases hy with rfl | rfl <;> assumption
      · subst hy; exact hg
      · subst hy; exact ho
    · have eg : D.tup [.str "go", .str "n", .int g] = triD ("go", "n", g) := rfl
      have eo : D.tup [.str "no", .str "n", .int o] = triD ("no", "n", o) := rfl
      refine runF_rt (s := [some (.io, d5), some (.sh, .int m), some (.sh, .int g), some (.sh, .int o), some (.sh, .tup [.str "number", .int v]), some (.sh, .int 6), some (.sh, .tup [triD ("go", "n", g), triD ("no", "n", o)])]) ?_ rfl rfl
      rw [ei, show (Q.gt "b" l).d = .tup [.str "get", .str "b", .tup (l.map triD)] from rfl]
      generalize D.tup (l.map triD) = LD at *
      generalize triD ("go", "n", g) = GD at *
      generalize triD ("no", "n", o) = OD at *
      have s1 : sliceD none (some 1) (.tup [GD, OD]) = some (false, .tup [GD]) := rfl
      have s2 : sliceD (some 1) none (.tup [GD, OD]) = some (false, .tup [OD]) := rfl
      unfold b13
      simp (implicitDefEqProofs := false) [-v_ixL, e1, e2, e3, e4, e5, p1, eg, eo, s1, s2, u, u1, u2, u3, u4, z1, z2, z3, z4, z5]
end K11

namespace K11
open PySem PySem.Spec PyProof.Rows L2 PV
/-! ### the law -/
theorem same {W : World} {k n : Nat} {d : D} (h : pl n d = true) (hk : 2 * n + 1 ≤ k) : sem W k 9 [d, d] = .ret false (.bl true) [] := same_refl (sm := fun k => sem W k 9) (it := fun k => sem W k 8) (ii := fun k => sem W k 7) (fun k => se9 W k) (fun k => se8 W k) (fun k => se7 W k) n k d h hk
theorem pl_at (n : Nat) (a : At) : pl (n + 2) a.d = true := by
  have z : (2 : Nat) ≤ sizeLine := by decide
  cases a <;> simp [At.d, pl, z]
theorem pl_all {n : Nat} {ds : List D} (h : ∀ d, d ∈ ds → pl n d = true) (hl : ds.length ≤ sizeLine) : pl (n + 1) (.tup ds) = true := by
  simp only [pl, Bool.and_eq_true, decide_eq_true_eq, List.all_eq_true]
  exact ⟨h, hl⟩
theorem pl_q {q : Q} (h : q.ok) : pl 4 q.d = true := by
  have hs := sizeLine_eq
  cases q with
  | en => exact pl_all (fun d hd => by rw [List.mem_singleton.mp hd]; rfl) (by decide)
  | gt b l =>
    refine pl_all (fun d hd => ?_) (by simp only [List.length_cons, List.length_nil]; omega)
    simp only [List.mem_cons, List.not_mem_nil, or_false] at hd
    rcases hd with rfl | rfl | rfl
    · rfl
    · rfl
    · refine pl_all (fun d hd => ?_) (by rw [List.length_map]; have := h.2.1; omega)
      obtain ⟨t, _, rfl⟩ := List.mem_map.mp hd
      refine pl_all (fun d hd => ?_) (by simp only [List.length_cons, List.length_nil]; omega)
      simp only [List.mem_cons, List.not_mem_nil, or_false] at hd
      rcases hd with rfl | rfl | rfl <;> rfl
  | br w fr g o =>
    refine pl_all (fun d hd => ?_) (by have := h.2.2.1; simp only [List.length_append, List.length_cons, List.length_map, List.length_nil]; omega)
    rcases List.mem_append.mp hd with hd | hd
    · rcases List.mem_cons.mp hd with rfl | hd
      · rfl
      · obtain ⟨a, _, rfl⟩ := List.mem_map.mp hd
        exact pl_at 1 a
    · simp only [List.mem_cons, List.not_mem_nil, or_false] at hd
      rcases hd with rfl | rfl <;> rfl
  | pl w fr g =>
    refine pl_all (fun d hd => ?_) (by have := h.2.2.2.2.2.1; simp only [List.length_append, List.length_cons, List.length_map, List.length_nil]; omega)
    rcases List.mem_append.mp hd with hd | hd
    · rcases List.mem_cons.mp hd with rfl | hd
      · rfl
      · obtain ⟨a, _, rfl⟩ := List.mem_map.mp hd
        exact pl_at 1 a
    · rw [List.mem_singleton.mp hd]; rfl
theorem pl_tab {T : List Q} (C : TabOk T) : pl 5 (tabD T) = true := by
  have hs := sizeLine_eq
  have h1 := C.n1
  refine pl_all (fun d hd => ?_) (by rw [List.length_map]; omega)
  obtain ⟨q, hq, rfl⟩ := List.mem_map.mp hd
  exact pl_q (C.ok q hq)
section
variable {W : World} {a0 a1 a3 a4 a6 a7 : Slot}
theorem st_loop (k : Nat) {m : Nat} (h0 : 0 < m) (h1 : m < 1000) : ∀ (js : List D) (qs : List Q) (d : D), Tape d → (∀ q, q ∈ qs → q.ok ∧ ∀ g, g ∈ q.goals → g < m) → qs.length + js.length ≤ 100 →
    ∃ (ps : List Q) (d' : D), ps.length = qs.length + js.length ∧ (∀ q, q ∈ ps → q.ok ∧ ∀ g, g ∈ q.goals → g < m) ∧ Tape d' ∧
      lcL (.nm 5) yesM (callM (sem W (k + 2) 13) [.sl 1, .ex (varM 2)]) [5] js (qs.map Q.d) [a0, some (.ow, d), some (.sh, .int m), a3, a4, none, a6, a7] = .ok (ps.map Q.d) [a0, some (.ow, d'), some (.sh, .int m), a3, a4, none, a6, a7]
  | [], qs, d, t, h, _ => ⟨qs, d, rfl, h, t, by simp [lcL]⟩
  | j :: js, qs, d, t, h, hz => by
    rw [List.length_cons] at hz
    obtain ⟨q, d1, q1, q2, t1, e1⟩ := state (W := W) (k := k) t h0 h1
    obtain ⟨ps, d2, p1, p2, t2, ih⟩ := st_loop k h0 h1 js (qs ++ [q]) d1 t1 (fun x hx => (List.mem_append.mp hx).elim (h x) fun hx => by rw [List.mem_singleton.mp hx]; exact ⟨q1, q2⟩) (by rw [List.length_append]; simp only [List.length_cons, List.length_nil]; omega)
    refine ⟨ps, d2, by rw [p1, List.length_append, List.length_cons]; simp only [List.length_cons, List.length_nil]; omega, p2, t2, ?_⟩
    have u := tape_ul t
    have hacc : (qs.map Q.d).length < sizeLine := by rw [List.length_map, sizeLine_eq]; omega
    rw [← ih, lcL, ev_putN, List.map_append, List.map_cons, List.map_nil]
    generalize q.d = X at *
    generalize qs.map Q.d = QD at *
    simp (implicitDefEqProofs := false) [nox, e1, u, hacc, killAll]
noncomputable def cmB (W : World) : M Fl := (iteM (notM (truM (.ex (callM (sem W 12 9) [.ex (callM (sem W 12 2) [.ex (varM 3), .ex (varM 5), .ex (varM 6)]), .ex (binM ixD (.ex (binM ixD (.sl 4) (.sl 5))) (.sl 6))])))) (retM (constM (.bl false))) nxM)
theorem s6 {a0 a1 a2 a3 a4 a5 a7 x : Slot} {o : Own} {d : D} (h : nio x = true) : putS [a0, a1, a2, a3, a4, a5, x, a7] 6 o d = some [a0, a1, a2, a3, a4, a5, some (o, d), a7] := by
  match x, h with
  | none, _ => rfl
  | some (.sh, _), _ => rfl
  | some (.ow, _), _ => rfl
theorem s5 {a0 a1 a2 a3 a4 a6 a7 x : Slot} {o : Own} {d : D} (h : nio x = true) : putS [a0, a1, a2, a3, a4, x, a6, a7] 5 o d = some [a0, a1, a2, a3, a4, some (o, d), a6, a7] := by
  match x, h with
  | none, _ => rfl
  | some (.sh, _), _ => rfl
  | some (.ow, _), _ => rfl
variable {T : List Q} {a2 : Slot} {o4 : Own}
theorem cm_one (C : TabOk T) {k j : Nat} (hk : k < T.length) (hj : j < T.length) : cmB W [a0, a1, a2, some (.sh, tabD T), some (o4, mtD (alB T) T.length), some (.sh, .int k), some (.sh, .int j), a7] = .ok .nx [a0, a1, a2, some (.sh, tabD T), some (o4, mtD (alB T) T.length), some (.sh, .int k), some (.sh, .int j), a7] := by
  have e1 := alike (W := W) (k := 9) C hk hj
  have e2 := mt_row (F := alB T) hk
  have e3 := mt_at (F := alB T) (k := k) hj
  have e4 := same (W := W) (k := 12) (n := 1) (d := .bl (alB T k j)) rfl (by decide)
  have e1 : sem W 12 2 [tabD T, .int k, .int j] = .ret false (.bl (alB T k j)) [] := e1
  unfold cmB
  generalize alB T k j = b at *
  generalize blD ((List.range T.length).map (alB T k)) = RW at *
  generalize mtD (alB T) T.length = MT at *
  generalize tabD T = TD at *
  simp (implicitDefEqProofs := false) [-v_ixL, e1, e2, e3, e4]
theorem cm_in (C : TabOk T) {k : Nat} (hk : k < T.length) : ∀ (js : List Nat) (x6 : Slot), (∀ j, j ∈ js → j < T.length) → nio x6 = true →
    ∃ t6 : Slot, nio t6 = true ∧ forL (.nm 6) (cmB W) (js.map fun i => .int (0 + (i : Nat))) [a0, a1, a2, some (.sh, tabD T), some (o4, mtD (alB T) T.length), some (.sh, .int k), x6, a7] = .ok .nx [a0, a1, a2, some (.sh, tabD T), some (o4, mtD (alB T) T.length), some (.sh, .int k), t6, a7]
  | [], x6, _, h6 => ⟨x6, h6, by simp⟩
  | j :: js, x6, h, h6 => by
    obtain ⟨t6, f6, ih⟩ := cm_in C hk js (some (.sh, .int j)) (fun i hi => h i (List.mem_cons_of_mem _ hi)) rfl
    refine ⟨t6, f6, ?_⟩
    rw [← ih, List.map_cons, ev_for1, ev_putN, Int.zero_add, s6 h6]
    simp only [cm_one C hk (h j List.mem_cons_self), Res.bind_ok]
theorem cm_out (C : TabOk T) : ∀ (ks : List Nat) (x5 x6 : Slot), (∀ j, j ∈ ks → j < T.length) → nio x5 = true → nio x6 = true →
    ∃ t5 t6 : Slot, forL (.nm 5) (forM (rng1M (varM 2)) (.nm 6) (cmB W)) (ks.map fun i => .int (0 + (i : Nat))) [a0, a1, some (.sh, .int T.length), some (.sh, tabD T), some (o4, mtD (alB T) T.length), x5, x6, a7] = .ok .nx [a0, a1, some (.sh, .int T.length), some (.sh, tabD T), some (o4, mtD (alB T) T.length), t5, t6, a7]
  | [], x5, x6, _, _, _ => ⟨x5, x6, by simp⟩
  | k :: ks, x5, x6, h, h5, h6 => by
    have h1 := C.n1
    obtain ⟨t6, f6, e1⟩ := cm_in (W := W) (a0 := a0) (a1 := a1) (a2 := some (.sh, .int T.length)) (a7 := a7) (o4 := o4) C (h k List.mem_cons_self) (List.range T.length) x6 (fun j hj => List.mem_range.mp hj) h6
    have e1 : forL (.nm 6) (cmB W) (intsD 0 T.length) _ = _ := e1
    have er : rngD (.int T.length) = some (intsD 0 T.length) := rng_nat (by rw [sizeLine_eq]; omega)
    obtain ⟨u5, u6, ih⟩ := cm_out C ks (some (.sh, .int k)) t6 (fun i hi => h i (List.mem_cons_of_mem _ hi)) rfl f6
    refine ⟨u5, u6, ?_⟩
    rw [← ih, List.map_cons, ev_for1, ev_putN, Int.zero_add, s5 h5]
    have eb : forM (rng1M (varM 2)) (.nm 6) (cmB W) [a0, a1, some (.sh, .int T.length), some (.sh, tabD T), some (o4, mtD (alB T) T.length), some (.sh, .int k), x6, a7] = .ok .nx [a0, a1, some (.sh, .int T.length), some (.sh, tabD T), some (o4, mtD (alB T) T.length), some (.sh, .int k), t6, a7] := by
      generalize cmB W = CB at *
      generalize mtD (alB T) T.length = MT at *
      generalize tabD T = TD at *
      simp (implicitDefEqProofs := false) [er, e1]
    simp only [eb, Res.bind_ok]
end
theorem law (W : World) (ns : List Int) (h : ns.length ≤ 63) : ∃ fr, sem W 13 14 [.fro (ns.map .int)] = .ret fr (.bl true) [] := by
  obtain ⟨d, t, e⟩ := tape_run ns h
  have e0 : sem W 12 5 [.fro (ns.map .int)] = .ret true d [] := e
  obtain ⟨r, d1, hr, t1, e1⟩ := take (W := W) (k := 11) (m := 9) t (by decide) (by decide)
  have e1 : sem W 12 6 [d, .int 9] = .ret false (.int r) [d1] := e1
  have hm : (1 : Int) + (r : Int) = ((1 + r : Nat) : Int) := by omega
  have erM : rngD (.int ((1 + r : Nat) : Int)) = some (intsD 0 (1 + r)) := rng_nat (by rw [sizeLine_eq]; omega)
  obtain ⟨T, d2, p1, p2, t2, e2⟩ := st_loop (W := W) (a0 := some (.sh, .fro (ns.map .int))) (a3 := none) (a4 := none) (a6 := none) (a7 := none) 10 (m := 1 + r) (by omega) (by omega) (intsD 0 (1 + r)) [] d1 t1 (fun q hq => nomatch hq) (by unfold intsD; rw [List.length_map, List.length_range]; simp only [List.length_nil]; omega)
  have hT : T.length = 1 + r := by rw [p1]; unfold intsD; rw [List.length_map, List.length_range]; simp only [List.length_nil]; omega
  rw [← hT] at erM e2 hm
  have C : TabOk T := ⟨fun q hq => (p2 q hq).1, fun q hq g hg => by rw [hT]; exact (p2 q hq).2 g hg, by omega⟩
  have hn : 0 < T.length := by omega
  have CL := least_ok C hn
  have hnL : 0 < (least T).length := by rw [least_len]; exact order_pos
  obtain ⟨fr, e3⟩ := lalike (W := W) (k := 10) C hn
  obtain ⟨u5, u6, e4⟩ := cm_out (W := W) (a0 := some (.sh, .fro (ns.map .int))) (a1 := some (.ow, d2)) (a7 := none) (o4 := if fr = true then .ow else .sh) C (List.range T.length) none none (fun j hj => List.mem_range.mp hj) rfl rfl
  have e4 : forL (.nm 5) (forM (rng1M (varM 2)) (.nm 6) (cmB W)) (intsD 0 T.length) _ = _ := e4
  have e5 : sem W 12 4 [tabD T] = .ret false (tabD (least T)) [] := least_table (k := 9) C hn
  have e6 : sem W 12 12 [tabD T] = .ret false (tabD (least T)) [] := law_least (k := 9) C hn
  have e7 : sem W 12 4 [tabD (least T)] = .ret false (tabD (least T)) [] := by
    have := least_table (W := W) (k := 9) CL hnL
    rw [least_idem C hn] at this
    exact this
  have e8 : sem W 12 9 [tabD (least T), tabD (least T)] = .ret false (.bl true) [] := same (pl_tab CL) (by decide)
  have e3 : sem W 12 11 [tabD T] = .ret fr (mtD (alB T) T.length) [] := e3
  have e2 : lcL (.nm 5) yesM (callM (sem W 12 13) [.sl 1, .ex (varM 2)]) [5] (intsD 0 T.length) [] _ = _ := e2
  have u := tape_ul t
  have et : D.tup (T.map Q.d) = tabD T := rfl
  refine ⟨false, ?_⟩
  rw [se14]
  have eb : b14 W (sem W 12) = (seqM (setM 1 (callM (sem W 12 5) [.ex (varM 0)]))
    (seqM (setM 2 (binM addD (.ex (constM (.int 1))) (.ex (callM (sem W 12 6) [.sl 1, .ex (constM (.int 9))]))))
    (seqM (setM 3 (unM toTup (.ex (compM (rng1M (varM 2)) (.nm 5) yesM (callM (sem W 12 13) [.sl 1, .ex (varM 2)]) [5]))))
    (seqM (setM 4 (callM (sem W 12 11) [.ex (varM 3)]))
    (seqM (forM (rng1M (varM 2)) (.nm 5) (forM (rng1M (varM 2)) (.nm 6) (cmB W)))
    (seqM (setM 7 (callM (sem W 12 4) [.ex (varM 3)]))
    (retM (andV (callM (sem W 12 9) [.ex (varM 7), .ex (callM (sem W 12 12) [.ex (varM 3)])]) (callM (sem W 12 9) [.ex (callM (sem W 12 4) [.ex (varM 7)]), .ex (varM 7)])))))))))  := rfl
  rw [eb]
  refine runF_rt (s := [some (.sh, .fro (ns.map .int)), some (.ow, d2), some (.sh, .int T.length), some (.sh, tabD T), some (if fr = true then .ow else .sh, mtD (alB T) T.length), u5, u6, some (.sh, tabD (least T))]) ?_ rfl rfl
  rw [show initS [] 8 [.fro (ns.map .int)] = [some (.sh, .fro (ns.map .int)), none, none, none, none, none, none, none] from rfl]
  generalize forM (rng1M (varM 2)) (.nm 6) (cmB W) = FB at *
  generalize callM (sem W 12 13) [.sl 1, .ex (varM 2)] = ST at *
  generalize mtD (alB T) T.length = MT at *
  generalize tabD (least T) = LD at *
  generalize tabD T = TD at *
  generalize T.map Q.d = QL at *
  generalize D.fro (ns.map .int) = NS at *
  generalize (T.length : Int) = TL at *
  simp (implicitDefEqProofs := false) [e0, e1, hm, erM, e2, e3, e4, e5, e6, e7, e8, et, u, toTup, killAll]
end K11
theorem PySem.Challenge.cw_onescore_k11_least_tables_holds : PySem.Challenge.rw_onescore_k11_least_tables.Holds := by
  exact K11.holds_of 12 ⟨rfl, by decide, by decide⟩ fun W ns h _ => K11.law W ns h
