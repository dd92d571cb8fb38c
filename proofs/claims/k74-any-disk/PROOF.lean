import PyProof.Rows.All
import Wide.All
import OpenK.AllK
import Wide.FinOn
import HandS.ForMost
import HandS.SortInts
import HandS.TupAny
import HandS.TupMul
import HandS.Style
import HandS.Wide
import HandS.IsInst
import HandS.Deep
import HandS.TupLen
import HandS.More
import HandS.SetFor
import HandS.Conv
import HandS.Text
import PySem.Challenge.RW_spanslocked_k74_whole_any_disk_may_go
set_option Elab.async false
set_option linter.all false
set_option maxRecDepth 100000
/-! VLA: values as plain data D over the hand layer: representation, environments, what a step may change. -/
namespace VL
open PySem PySem.Spec L2

inductive D where
  | non | bl (b : Bool) | int (i : Int) | str (x : Str) | tup (ds : List D) | lst (ds : List D) | rol (ds : List D) | dct (kvs : List (Key × D)) | dtt (kvs : List (List Key × D)) | rod (kvs : List (Key × D))

abbrev Ev := List (Option D)

/-- a list that nobody writes -/
def RoL (K : PySem.W.Frag) (H : Hp) (a : Addr) (vs : List V) : Prop :=
  (∃ o, H a = some (.frz o (.lst vs))) ∨
    ∃ (o : Obj) (its : Array Value) (n : Nat), K.lookup a = some o ∧ o.cls = .type "list" ∧ o.dict = none ∧ o.data = .seq its n ∧ its.size ≤ sizeLine ∧ Vals vs its.toList
theorem RoL.seq {K : PySem.W.Frag} {H : Hp} {a : Addr} {vs : List V} (h : RoL K H a vs) : SqL K H a vs := by
  rcases h with h | h
  · exact .inl (.inr h)
  · exact .inr h

mutual
inductive Rep (K : PySem.W.Frag) (H : Hp) : D → V → List Addr → Prop
  | non : Rep K H .non .non []
  | bl (b : Bool) : Rep K H (.bl b) (.bl b) []
  | int (i : Int) : Rep K H (.int i) (.int i) []
  | str (x : Str) : Rep K H (.str x) (.str x) []
  | tup {a : Addr} {vs : List V} {ds : List D} {W : List Addr} : H a = some (.tup vs) → Reps K H ds vs W → Rep K H (.tup ds) (.ref a) W
  | lst {a : Addr} {vs : List V} {ds : List D} {W : List Addr} : H a = some (.lst vs) → Reps K H ds vs W → Rep K H (.lst ds) (.ref a) (a :: W)
  | rol {a : Addr} {vs : List V} {ds : List D} : RoL K H a vs → Reps K H ds vs [] → Rep K H (.rol ds) (.ref a) []
  | dct {a : Addr} {kvs : List (Key × V)} {kds : List (Key × D)} {W : List Addr} : H a = some (.dK kvs) → RepK K H kds kvs W → Rep K H (.dct kds) (.ref a) (a :: W)
  | rod {a : Addr} {kvs : List (Key × V)} {kds : List (Key × D)} : {W : List Addr} → (∃ o, H a = some (.frz o (.dK kvs))) → RepK K H kds kvs W → Rep K H (.rod kds) (.ref a) (a :: W)
  | dtt {a : Addr} {kvs : List (List Key × V)} {kds : List (List Key × D)} {W : List Addr} : H a = some (.dT kvs) → RepT K H kds kvs W → Rep K H (.dtt kds) (.ref a) (a :: W)
inductive Reps (K : PySem.W.Frag) (H : Hp) : List D → List V → List Addr → Prop
  | nil : Reps K H [] [] []
  | cons {d : D} {v : V} {ds : List D} {vs : List V} {W1 W2 : List Addr} : Rep K H d v W1 → Reps K H ds vs W2 → Reps K H (d :: ds) (v :: vs) (W1 ++ W2)
inductive RepK (K : PySem.W.Frag) (H : Hp) : List (Key × D) → List (Key × V) → List Addr → Prop
  | nil : RepK K H [] [] []
  | cons {k : Key} {d : D} {v : V} {ds : List (Key × D)} {vs : List (Key × V)} {W1 W2 : List Addr} : Rep K H d v W1 → RepK K H ds vs W2 → RepK K H ((k, d) :: ds) ((k, v) :: vs) (W1 ++ W2)
inductive RepT (K : PySem.W.Frag) (H : Hp) : List (List Key × D) → List (List Key × V) → List Addr → Prop
  | nil : RepT K H [] [] []
  | cons {k : List Key} {d : D} {v : V} {ds : List (List Key × D)} {vs : List (List Key × V)} {W1 W2 : List Addr} : Rep K H d v W1 → RepT K H ds vs W2 → RepT K H ((k, d) :: ds) ((k, v) :: vs) (W1 ++ W2)
end

/- no list, no dict within -/
mutual
def lf : D → Bool
  | .non => true
  | .bl _ => true
  | .int _ => true
  | .str _ => true
  | .tup ds => lfs ds
  | .rol ds => true
  | .lst _ => false
  | .dct _ => false
  | .dtt _ => false
  | .rod _ => false
def lfs : List D → Bool
  | [] => true
  | d :: ds => lf d && lfs ds
end

/-- what may be written -/
def Mt (H : Hp) (a : Addr) : Prop := (∃ xs, H a = some (.lst xs)) ∨ (∃ kvs, H a = some (.dK kvs)) ∨ (∃ kvs, H a = some (.dT kvs)) ∨ ∃ o kvs, H a = some (.frz o (.dK kvs))
theorem Mt.some {H : Hp} {a : Addr} (h : Mt H a) : H a ≠ none := by
  rcases h with ⟨_, h⟩ | ⟨_, h⟩ | ⟨_, h⟩ | ⟨_, _, h⟩ <;> (rw [h]; exact fun e => nomatch e)

section
variable {K : PySem.W.Frag} {H H' : Hp}
/-- all that stands outside A is kept -/
def Kp (A : Addr → Prop) (H H' : Hp) : Prop := ∀ a o, H a = some o → ¬ A a → H' a = some o
theorem Kp.refl {A : Addr → Prop} : Kp A H H := fun _ _ h _ => h
theorem Kp.tp {A : Addr → Prop} {a : Addr} {vs : List V} (k : Kp A H H') (m : ∀ a, A a → Mt H a) (h : H a = some (.tup vs)) : H' a = some (.tup vs) := by
  refine k _ _ h fun z => ?_
  rcases m a z with ⟨_, e⟩ | ⟨_, e⟩ | ⟨_, e⟩ | ⟨_, _, e⟩ <;> (rw [h] at e; cases e)
theorem Kp.sqt {A : Addr → Prop} {a : Addr} {vs : List V} (k : Kp A H H') (m : ∀ a, A a → Mt H a) (h : SqT K H a vs) : SqT K H' a vs := by
  rcases h with (h | ⟨o, h⟩) | h
  · refine .inl (.inl (k _ _ h fun z => ?_))
    rcases m a z with ⟨_, e⟩ | ⟨_, e⟩ | ⟨_, e⟩ | ⟨_, _, e⟩ <;> (rw [h] at e; cases e)
  · refine .inl (.inr ⟨o, k _ _ h fun z => ?_⟩)
    rcases m a z with ⟨_, e⟩ | ⟨_, e⟩ | ⟨_, e⟩ | ⟨_, _, e⟩ <;> (rw [h] at e; cases e)
  · exact .inr h
theorem Kp.rol {A : Addr → Prop} {a : Addr} {vs : List V} (k : Kp A H H') (m : ∀ a, A a → Mt H a) (h : RoL K H a vs) : RoL K H' a vs := by
  rcases h with ⟨o, h⟩ | h
  · refine .inl ⟨o, k _ _ h fun z => ?_⟩
    rcases m a z with ⟨_, e⟩ | ⟨_, e⟩ | ⟨_, e⟩ | ⟨_, _, e⟩ <;> (rw [h] at e; cases e)
  · exact .inr h
mutual
theorem Rep.kp {A : Addr → Prop} (k : Kp A H H') (m : ∀ a, A a → Mt H a) : ∀ (d : D) (v : V) (W : List Addr), Rep K H d v W → (∀ a ∈ W, ¬ A a) → Rep K H' d v W
  | .non, _, _, h, _ => by cases h; exact .non
  | .bl _, _, _, h, _ => by cases h; exact .bl _
  | .int _, _, _, h, _ => by cases h; exact .int _
  | .str _, _, _, h, _ => by cases h; exact .str _
  | .tup ds, _, _, h, n => by cases h with | tup h1 h2 => exact .tup (k.tp m h1) (Reps.kp k m ds _ _ h2 n)
  | .lst ds, _, _, h, n => by cases h with | lst h1 h2 => exact .lst (k _ _ h1 (n _ List.mem_cons_self)) (Reps.kp k m ds _ _ h2 fun a ha => n a (List.mem_cons_of_mem _ ha))
  | .rol ds, _, _, h, n => by cases h with | rol h1 h2 => exact .rol (k.rol m h1) (Reps.kp k m ds _ _ h2 fun a ha => nomatch ha)
  | .rod ds, _, _, h, n => by cases h with | rod h1 h2 => obtain ⟨o, h1⟩ := h1; exact .rod ⟨o, k _ _ h1 (n _ List.mem_cons_self)⟩ (RepK.kp k m ds _ _ h2 fun a ha => n a (List.mem_cons_of_mem _ ha))
  | .dct ds, _, _, h, n => by cases h with | dct h1 h2 => exact .dct (k _ _ h1 (n _ List.mem_cons_self)) (RepK.kp k m ds _ _ h2 fun a ha => n a (List.mem_cons_of_mem _ ha))
  | .dtt ds, _, _, h, n => by cases h with | dtt h1 h2 => exact .dtt (k _ _ h1 (n _ List.mem_cons_self)) (RepT.kp k m ds _ _ h2 fun a ha => n a (List.mem_cons_of_mem _ ha))
theorem Reps.kp {A : Addr → Prop} (k : Kp A H H') (m : ∀ a, A a → Mt H a) : ∀ (ds : List D) (vs : List V) (W : List Addr), Reps K H ds vs W → (∀ a ∈ W, ¬ A a) → Reps K H' ds vs W
  | [], _, _, h, _ => by cases h; exact .nil
  | d :: ds, _, _, h, n => by cases h with | cons h1 h2 => exact .cons (Rep.kp k m d _ _ h1 fun a ha => n a (List.mem_append_left _ ha)) (Reps.kp k m ds _ _ h2 fun a ha => n a (List.mem_append_right _ ha))
theorem RepK.kp {A : Addr → Prop} (k : Kp A H H') (m : ∀ a, A a → Mt H a) : ∀ (ds : List (Key × D)) (vs : List (Key × V)) (W : List Addr), RepK K H ds vs W → (∀ a ∈ W, ¬ A a) → RepK K H' ds vs W
  | [], _, _, h, _ => by cases h; exact .nil
  | (_, d) :: ds, _, _, h, n => by cases h with | cons h1 h2 => exact .cons (Rep.kp k m d _ _ h1 fun a ha => n a (List.mem_append_left _ ha)) (RepK.kp k m ds _ _ h2 fun a ha => n a (List.mem_append_right _ ha))
theorem RepT.kp {A : Addr → Prop} (k : Kp A H H') (m : ∀ a, A a → Mt H a) : ∀ (ds : List (List Key × D)) (vs : List (List Key × V)) (W : List Addr), RepT K H ds vs W → (∀ a ∈ W, ¬ A a) → RepT K H' ds vs W
  | [], _, _, h, _ => by cases h; exact .nil
  | (_, d) :: ds, _, _, h, n => by cases h with | cons h1 h2 => exact .cons (Rep.kp k m d _ _ h1 fun a ha => n a (List.mem_append_left _ ha)) (RepT.kp k m ds _ _ h2 fun a ha => n a (List.mem_append_right _ ha))
end
mutual
theorem Rep.mt : ∀ (d : D) (v : V) (W : List Addr), Rep K H d v W → ∀ a ∈ W, Mt H a
  | .non, _, _, h => by cases h; exact fun _ z => nomatch z
  | .bl _, _, _, h => by cases h; exact fun _ z => nomatch z
  | .int _, _, _, h => by cases h; exact fun _ z => nomatch z
  | .str _, _, _, h => by cases h; exact fun _ z => nomatch z
  | .tup ds, _, _, h => by cases h with | tup h1 h2 => exact Reps.mt ds _ _ h2
  | .lst ds, _, _, h => by
    cases h with
    | lst h1 h2 =>
      intro a ha
      rcases List.mem_cons.mp ha with rfl | ha
      · exact .inl ⟨_, h1⟩
      · exact Reps.mt ds _ _ h2 a ha
  | .rol ds, _, _, h => by cases h with | rol h1 h2 => exact fun _ z => nomatch z
  | .rod ds, _, _, h => by
    cases h with
    | rod h1 h2 =>
      obtain ⟨o, h1⟩ := h1
      intro a ha
      rcases List.mem_cons.mp ha with rfl | ha
      · exact .inr (.inr (.inr ⟨_, _, h1⟩))
      · exact RepK.mt ds _ _ h2 a ha
  | .dct ds, _, _, h => by
    cases h with
    | dct h1 h2 =>
      intro a ha
      rcases List.mem_cons.mp ha with rfl | ha
      · exact .inr (.inl ⟨_, h1⟩)
      · exact RepK.mt ds _ _ h2 a ha
  | .dtt ds, _, _, h => by
    cases h with
    | dtt h1 h2 =>
      intro a ha
      rcases List.mem_cons.mp ha with rfl | ha
      · exact .inr (.inr (.inl ⟨_, h1⟩))
      · exact RepT.mt ds _ _ h2 a ha
theorem Reps.mt : ∀ (ds : List D) (vs : List V) (W : List Addr), Reps K H ds vs W → ∀ a ∈ W, Mt H a
  | [], _, _, h => by cases h; exact fun _ z => nomatch z
  | d :: ds, _, _, h => by
    cases h with
    | cons h1 h2 => exact fun a ha => (List.mem_append.mp ha).elim (Rep.mt d _ _ h1 a) (Reps.mt ds _ _ h2 a)
theorem RepK.mt : ∀ (ds : List (Key × D)) (vs : List (Key × V)) (W : List Addr), RepK K H ds vs W → ∀ a ∈ W, Mt H a
  | [], _, _, h => by cases h; exact fun _ z => nomatch z
  | (_, d) :: ds, _, _, h => by
    cases h with
    | cons h1 h2 => exact fun a ha => (List.mem_append.mp ha).elim (Rep.mt d _ _ h1 a) (RepK.mt ds _ _ h2 a)
theorem RepT.mt : ∀ (ds : List (List Key × D)) (vs : List (List Key × V)) (W : List Addr), RepT K H ds vs W → ∀ a ∈ W, Mt H a
  | [], _, _, h => by cases h; exact fun _ z => nomatch z
  | (_, d) :: ds, _, _, h => by
    cases h with
    | cons h1 h2 => exact fun a ha => (List.mem_append.mp ha).elim (Rep.mt d _ _ h1 a) (RepT.mt ds _ _ h2 a)
end
mutual
theorem Rep.lfW : ∀ (d : D) (v : V) (W : List Addr), Rep K H d v W → lf d = true → W = []
  | .non, _, _, h, _ => by cases h; rfl
  | .bl _, _, _, h, _ => by cases h; rfl
  | .int _, _, _, h, _ => by cases h; rfl
  | .str _, _, _, h, _ => by cases h; rfl
  | .tup ds, _, _, h, e => by cases h with | tup h1 h2 => exact Reps.lfW ds _ _ h2 e
  | .rol ds, _, _, h, _ => by cases h; rfl
  | .rod ds, _, _, h, e => nomatch e
  | .lst ds, _, _, h, e => nomatch e
  | .dct ds, _, _, h, e => nomatch e
  | .dtt ds, _, _, h, e => nomatch e
theorem Reps.lfW : ∀ (ds : List D) (vs : List V) (W : List Addr), Reps K H ds vs W → lfs ds = true → W = []
  | [], _, _, h, _ => by cases h; rfl
  | d :: ds, _, _, h, e => by
    have e' := Bool.and_eq_true_iff.mp (show (lf d && lfs ds) = true from e)
    cases h with
    | cons h1 h2 => rw [Rep.lfW d _ _ h1 e'.1, Reps.lfW ds _ _ h2 e'.2]; rfl
end
theorem Reps.len : ∀ {ds : List D} {vs : List V} {W : List Addr}, Reps K H ds vs W → ds.length = vs.length
  | [], _, _, h => by cases h; rfl
  | _ :: _, _, _, h => by cases h with | cons h1 h2 => exact congrArg (· + 1) (Reps.len h2)
theorem Reps.get : ∀ {ds : List D} {vs : List V} {W : List Addr} (i : Nat) {d : D}, Reps K H ds vs W → ds[i]? = some d → ∃ v W', vs[i]? = some v ∧ Rep K H d v W' ∧ (∀ a ∈ W', a ∈ W) ∧ (W.Nodup → W'.Nodup)
  | [], _, _, _, _, h, e => by simp at e
  | d0 :: ds, _, _, 0, d, h, e => by
    cases h with
    | cons h1 h2 =>
      have e' : d0 = d := by simpa using e
      subst e'
      exact ⟨_, _, rfl, h1, fun a ha => List.mem_append_left _ ha, fun n => (List.nodup_append.mp n).1⟩
  | d0 :: ds, _, _, i + 1, d, h, e => by
    cases h with
    | cons h1 h2 =>
      obtain ⟨v, W', e1, r, s, n⟩ := Reps.get i h2 (show ds[i]? = some d by simpa using e)
      exact ⟨v, W', by simpa using e1, r, fun a ha => List.mem_append_right _ (s a ha), fun z => n (List.nodup_append.mp z).2.1⟩
theorem Reps.append : ∀ {ds es : List D} {vs us : List V} {W1 W2 : List Addr}, Reps K H ds vs W1 → Reps K H es us W2 → Reps K H (ds ++ es) (vs ++ us) (W1 ++ W2)
  | [], _, _, _, _, _, h, g => by cases h; exact g
  | _ :: _, _, _, _, _, _, h, g => by
    cases h with
    | cons h1 h2 => rw [List.append_assoc]; exact .cons h1 (Reps.append h2 g)
theorem Reps.take : ∀ {ds : List D} {vs : List V} {W : List Addr} (n : Nat), Reps K H ds vs W → ∃ W', Reps K H (ds.take n) (vs.take n) W' ∧ (∀ a ∈ W', a ∈ W) ∧ (W.Nodup → W'.Nodup)
  | [], _, _, n, h => by
    cases h
    rw [List.take_nil, List.take_nil]
    exact ⟨[], Reps.nil, fun _ z => z, fun n => n⟩
  | _ :: _, _, _, 0, h => ⟨[], Reps.nil, fun _ z => (nomatch z), fun _ => List.Pairwise.nil⟩
  | d :: ds, _, _, n + 1, h => by
    cases h with
    | cons h1 h2 =>
      obtain ⟨W', r, s, nd⟩ := Reps.take n h2
      refine ⟨_, .cons h1 r, fun a ha => (List.mem_append.mp ha).elim (List.mem_append_left _) fun z => List.mem_append_right _ (s a z), fun z => ?_⟩
      obtain ⟨z1, z2, z3⟩ := List.nodup_append.mp z
      exact List.nodup_append.mpr ⟨z1, nd z2, fun a ha b hb => z3 a ha b (s b hb)⟩
theorem Reps.drop : ∀ {ds : List D} {vs : List V} {W : List Addr} (n : Nat), Reps K H ds vs W → ∃ W', Reps K H (ds.drop n) (vs.drop n) W' ∧ (∀ a ∈ W', a ∈ W) ∧ (W.Nodup → W'.Nodup)
  | _, _, _, 0, h => ⟨_, h, fun _ z => z, fun z => z⟩
  | [], _, _, n + 1, h => by cases h; exact ⟨[], .nil, fun _ z => z, fun n => n⟩
  | d :: ds, _, _, n + 1, h => by
    cases h with
    | cons h1 h2 =>
      obtain ⟨W', r, s, nd⟩ := Reps.drop n h2
      exact ⟨_, r, fun a ha => List.mem_append_right _ (s a ha), fun z => nd (List.nodup_append.mp z).2.1⟩
theorem lfs_iff : ∀ {ds : List D}, lfs ds = true ↔ ∀ d ∈ ds, lf d = true
  | [] => ⟨fun _ _ z => (nomatch z), fun _ => rfl⟩
  | d :: ds => by
    show (lf d && lfs ds) = true ↔ _
    rw [Bool.and_eq_true, lfs_iff, List.forall_mem_cons]
/-- of flat items any choice stands -/
theorem Reps.flat {ds : List D} {vs : List V} {W : List Addr} (h : Reps K H ds vs W) (f : lfs ds = true) : Reps K H ds vs [] := by
  rw [← Reps.lfW _ _ _ h f]; exact h
theorem Rep.flat {d : D} {v : V} {W : List Addr} (h : Rep K H d v W) (f : lf d = true) : Rep K H d v [] := by
  rw [← Rep.lfW _ _ _ h f]; exact h
end

/-! ### environments -/
abbrev Wm := Nat → List Addr
structure REnv (K : PySem.W.Frag) (H : Hp) (env : Ev) (σ : St) (Ws : Wm) : Prop where
  len : σ.length = env.length
  at' : ∀ i d, env[i]? = some (some d) → ∃ v, σ[i]? = some (some v) ∧ Rep K H d v (Ws i)
  non : ∀ i, (∀ d, env[i]? ≠ some (some d)) → Ws i = []
def InM (M : List Nat) (Ws : Wm) (a : Addr) : Prop := ∃ j ∈ M, a ∈ Ws j
def Sep (M : List Nat) (Ws : Wm) : Prop := ∀ i ∈ M, (Ws i).Nodup ∧ ∀ j, j ≠ i → ∀ a ∈ Ws i, a ∉ Ws j
/-- what a step may change: the slots in M and what they own -/
structure Tr (M : List Nat) (Ws Ws' : Wm) (H H' : Hp) : Prop where
  keep : Kp (InM M Ws) H H'
  same : ∀ i, i ∉ M → Ws' i = Ws i
  sub : ∀ i ∈ M, ∀ a ∈ Ws' i, InM M Ws a ∨ H a = none
  sep : Sep M Ws'
/-- whose the lists of a result are: new ones (or taken from M), or views of the slots in R -/
structure Own (M R : List Nat) (Ws Ws' : Wm) (H : Hp) (W : List Addr) : Prop where
  at' : ∀ a ∈ W, ((InM M Ws a ∨ H a = none) ∧ ∀ j, a ∉ Ws' j) ∨ ∃ i ∈ R, a ∈ Ws' i
  nd : R = [] → W.Nodup
section
variable {K : PySem.W.Frag} {H H1 H2 H' : Hp} {env env1 : Ev} {σ : St} {Ws Ws1 Ws2 : Wm} {M M2 R R2 : List Nat}
theorem REnv.mt (r : REnv K H env σ Ws) : ∀ i, ∀ a ∈ Ws i, Mt H a := fun i a ha => by
  by_cases h : ∃ d, env[i]? = some (some d)
  · obtain ⟨d, e⟩ := h
    obtain ⟨v, _, q⟩ := r.at' i d e
    exact Rep.mt _ _ _ q a ha
  · rw [r.non i fun d e => h ⟨d, e⟩] at ha
    exact nomatch ha
theorem REnv.mtM (r : REnv K H env σ Ws) : ∀ a, InM M Ws a → Mt H a := fun a ⟨j, _, h⟩ => r.mt j a h
theorem Tr.refl (s : Sep M Ws) : Tr M Ws Ws H H := ⟨Kp.refl, fun _ _ => rfl, fun i hi a ha => .inl ⟨i, hi, ha⟩, s⟩
theorem Sep.mono (s : Sep M Ws) (h : ∀ i ∈ M2, i ∈ M) : Sep M2 Ws := fun i hi => s i (h i hi)
theorem InM.mono {a : Addr} (h : ∀ i ∈ M2, i ∈ M) : InM M2 Ws a → InM M Ws a := fun ⟨j, hj, ha⟩ => ⟨j, h j hj, ha⟩
theorem Tr.weaken (t : Tr M2 Ws Ws1 H H1) (h : ∀ i ∈ M2, i ∈ M) (s : Sep M Ws) (r : ∀ i, ∀ a ∈ Ws i, H a ≠ none) : Tr M Ws Ws1 H H1 where
  keep := fun a o e n => t.keep a o e fun z => n (z.mono h)
  same := fun i hi => t.same i fun z => hi (h i z)
  sub := fun i hi a ha => by
    by_cases z : i ∈ M2
    · exact (t.sub i z a ha).imp (InM.mono h) id
    · rw [t.same i z] at ha
      exact .inl ⟨i, hi, ha⟩
  sep := fun i hi => by
    by_cases z : i ∈ M2
    · exact t.sep i z
    · rw [t.same i z]
      refine ⟨(s i hi).1, fun j hj a ha => ?_⟩
      by_cases y : j ∈ M2
      · intro q
        have := (t.sep j y).2 i (Ne.symm hj) a q
        rw [t.same i z] at this
        exact this ha
      · rw [t.same j y]
        exact (s i hi).2 j hj a ha
theorem Tr.trans (t : Tr M Ws Ws1 H H1) (u : Tr M Ws1 Ws2 H1 H2) : Tr M Ws Ws2 H H2 where
  keep := fun a o e n => u.keep a o (t.keep a o e n) fun ⟨j, hj, ha⟩ => by
    rcases t.sub j hj a ha with z | z
    · exact n z
    · rw [e] at z; cases z
  same := fun i hi => (u.same i hi).trans (t.same i hi)
  sub := fun i hi a ha => by
    rcases u.sub i hi a ha with ⟨j, hj, z⟩ | z
    · exact t.sub j hj a z
    · cases e : H a with
      | none => exact .inr rfl
      | some o =>
        by_cases n : InM M Ws a
        · exact .inl n
        · rw [t.keep a o e n] at z; cases z
  sep := u.sep
theorem tr_none (t : Tr M Ws Ws1 H H1) {a : Addr} (h : H1 a = none) : InM M Ws a ∨ H a = none := by
  cases e : H a with
  | none => exact .inr rfl
  | some o =>
    by_cases n : InM M Ws a
    · exact .inl n
    · rw [t.keep a o e n] at h; cases h
theorem tr_in (t : Tr M Ws Ws1 H H1) {a : Addr} (h : InM M Ws1 a) : InM M Ws a ∨ H a = none := by
  obtain ⟨j, hj, z⟩ := h
  exact t.sub j hj a z
/-- a pending value is not touched by what comes behind it -/
theorem Own.off (o : Own M R Ws Ws1 H W) (s : Sep M2 Ws1) (dis : ∀ i ∈ R, i ∉ M2) : ∀ a ∈ W, ¬ InM M2 Ws1 a := fun a ha ⟨j, hj, z⟩ => by
  rcases o.at' a ha with ⟨_, n⟩ | ⟨i, hi, q⟩
  · exact n j z
  · exact (s j hj).2 i (fun e => dis i hi (e ▸ hj)) a z q
theorem Own.stay {d : D} {v : V} {W : List Addr} (r : Rep K H1 d v W) (o : Own M R Ws Ws1 H W) (re : REnv K H1 env σ Ws1) (t : Tr M2 Ws1 Ws2 H1 H2) (s : Sep M2 Ws1) (dis : ∀ i ∈ R, i ∉ M2) : Rep K H2 d v W :=
  Rep.kp t.keep re.mtM d v W r (o.off s dis)
theorem Own.stays {d : List D} {v : List V} {W : List Addr} (r : Reps K H1 d v W) (o : Own M R Ws Ws1 H W) (re : REnv K H1 env σ Ws1) (t : Tr M2 Ws1 Ws2 H1 H2) (s : Sep M2 Ws1) (dis : ∀ i ∈ R, i ∉ M2) : Reps K H2 d v W :=
  Reps.kp t.keep re.mtM d v W r (o.off s dis)
/-- the pending value's lists behind a further step, told of the first state -/
theorem Own.later {W : List Addr} (o : Own M R Ws Ws1 H W) (re : ∀ a ∈ W, H1 a ≠ none) (t : Tr M2 Ws1 Ws2 H1 H2) (s : Sep M2 Ws1) (dis : ∀ i ∈ R, i ∉ M2) : Own M R Ws Ws2 H W where
  at' := fun a ha => by
    rcases o.at' a ha with ⟨z, n⟩ | ⟨i, hi, q⟩
    · refine .inl ⟨z, fun j hj => ?_⟩
      by_cases hm : j ∈ M2
      · rcases t.sub j hm a hj with ⟨k, _, y⟩ | y
        · exact n k y
        · exact re a ha y
      · rw [t.same j hm] at hj
        exact n j hj
    · refine .inr ⟨i, hi, ?_⟩
      rw [t.same i (dis i hi)]
      exact q
  nd := o.nd
/-- a value had behind a first step, told of the first state -/
theorem Own.early {W : List Addr} (t : Tr M Ws Ws1 H H1) (o : Own M2 R Ws1 Ws2 H1 W) (h : ∀ i ∈ M2, i ∈ M) : Own M R Ws Ws2 H W where
  at' := fun a ha => by
    rcases o.at' a ha with ⟨z, n⟩ | q
    · refine .inl ⟨?_, n⟩
      rcases z with z | z
      · exact tr_in t (z.mono h)
      · exact tr_none t z
    · exact .inr q
  nd := o.nd
/-- two values together -/
theorem Own.both {W1 W2 : List Addr} (o1 : Own M R Ws Ws1 H W1) (o2 : Own M R2 Ws Ws1 H W2) (hd : R ++ R2 = [] → ∀ a ∈ W1, a ∉ W2) : Own M (R ++ R2) Ws Ws1 H (W1 ++ W2) where
  at' := fun a ha => by
    rcases List.mem_append.mp ha with z | z
    · exact (o1.at' a z).imp id fun ⟨i, hi, q⟩ => ⟨i, List.mem_append_left _ hi, q⟩
    · exact (o2.at' a z).imp id fun ⟨i, hi, q⟩ => ⟨i, List.mem_append_right _ hi, q⟩
  nd := fun e => by
    have e1 := (List.append_eq_nil_iff.mp e)
    exact List.nodup_append.mpr ⟨o1.nd e1.1, o2.nd e1.2, fun a ha b hb q => hd e a ha (q ▸ hb)⟩
theorem Own.nil : Own M R Ws Ws1 H [] := ⟨fun _ z => (nomatch z), fun _ => .nil⟩
/-- new lists are apart from all that stood -/
theorem Own.apart {W1 W2 : List Addr} (o1 : Own M [] Ws Ws1 H W1) (re : ∀ a ∈ W1, H1 a ≠ none) (o2 : Own M2 [] Ws1 Ws2 H1 W2) : ∀ a ∈ W1, a ∉ W2 := fun a ha h2 => by
  rcases o1.at' a ha with ⟨_, n⟩ | ⟨i, hi, _⟩
  · rcases o2.at' a h2 with ⟨z, _⟩ | ⟨i, hi, _⟩
    · rcases z with ⟨j, _, z⟩ | z
      · exact n j z
      · exact re a ha z
    · exact nomatch hi
  · exact nomatch hi
end
end VL

/-! VLB: judgements over plain data, expressions and tests. -/
namespace VL
open PySem PySem.Spec L2

/-! ### the weakest readings -/
def WE (X : Cx) (e : Expr) : TE := fun σ H Q => ∀ pins s, Inv X pins σ H s → wpAny (model X.prog X.w) X.A (eval e X.env) (EP X pins σ Q) X.xe s
def WT (X : Cx) (e : Expr) : TT := fun σ H Q => ∀ pins s, Inv X pins σ H s → wpAny (model X.prog X.w) X.A (isTrue e X.env (eval e X.env)) (TP X pins σ Q) X.xe s
def WW (X : Cx) (e : Expr) : TT := fun σ H Q => ∀ (wh : Sem Value) pins s, Inv X pins σ H s → wpAny (model X.prog X.w) X.A (isTrue e X.env wh) (TP X pins σ Q) X.xe s
def WA (X : Cx) (es : List Expr) : TA := fun σ H Q => ∀ (pos : Pos) pins s, Inv X pins σ H s → wpAny (model X.prog X.w) X.A (spliced (backTo pos (starEach es X.env))) (AP X pins σ Q) X.xe s
def WS (X : Cx) (st : Stmt) : TS := fun Dn σ H => ∀ pins s, Inv X pins σ H s → wpAny (model X.prog X.w) X.A (exec st X.env) (SP X pins Dn) X.xe s
def WSs (X : Cx) (st : List Stmt) : TS := fun Dn σ H => ∀ pins s, Inv X pins σ H s → wpAny (model X.prog X.w) X.A (execs st X.env) (SP X pins Dn) X.xe s
def WO (X : Cx) (F : Value → Value → Sem Value) : R2 := fun x y H Q => ∀ (pins : List (Addr × Obj)) (s : Shared) (σ : St) (v u : Value), Inv X pins σ H s → RelV x v → RelV y u → wpAny (model X.prog X.w) X.A (F v u) (EP X pins σ Q) X.xe s
def WU (X : Cx) (F : Value → Sem Value) : V → Hp → VK → Prop := fun x H Q => ∀ (pins : List (Addr × Obj)) (s : Shared) (σ : St) (v : Value), Inv X pins σ H s → RelV x v → wpAny (model X.prog X.w) X.A (F v) (EP X pins σ Q) X.xe s
def WC (X : Cx) (f : Value) : List V → Hp → VK → Prop := fun xs H Q => ∀ (pins : List (Addr × Obj)) (s : Shared) (σ : St) (us : List Value), Inv X pins σ H s → Vals xs us → wpAny (model X.prog X.w) X.A (call f us) (EP X pins σ Q) X.xe s
def WM (X : Cx) (id : String) : V → List V → Hp → VK → Prop := fun x xs H Q => ∀ (pins : List (Addr × Obj)) (s : Shared) (σ : St) (v : Value) (us : List Value), Inv X pins σ H s → RelV x v → Vals xs us → wpAny (model X.prog X.w) X.A (call (.builtin id) (v :: us)) (EP X pins σ Q) X.xe s
def WI (X : Cx) : R2 := fun x y H Q => ∀ (value slice : Expr) (pins : List (Addr × Obj)) (s : Shared) (σ : St) (v u : Value), Inv X pins σ H s → RelV x v → RelV y u → subscripted slice false v u = operate [v, u] (getItem v u) → wpAny (model X.prog X.w) X.A (PyProof.Rows.subscriptTail value slice v u) (EP X pins σ Q) X.xe s
section
variable {X : Cx} {e : Expr} {es : List Expr} {st : Stmt} {sts : List Stmt}
theorem pe_we : PE X e (WE X e) := ⟨fun pins s σ H Q I h => h pins s I⟩
theorem pt_wt : PT X e (WT X e) := ⟨fun pins s σ H Q I h => h pins s I⟩
theorem pw_ww : PW X e (WW X e) := ⟨fun wh pins s σ H Q I h => h wh pins s I⟩
theorem pa_wa : PA X es (WA X es) := ⟨fun pos pins s σ H Q I h => h pos pins s I⟩
theorem ps_ws : PS X st (WS X st) := ⟨fun pins s σ H Q I h => h pins s I⟩
theorem pss_wss : PSs X sts (WSs X sts) := ⟨fun pins s σ H Q I h => h pins s I⟩
theorem op_wo {F : Value → Value → Sem Value} : OpR X F (WO X F) := fun pins s σ H x y v u Q I rx ry h => h pins s σ v u I rx ry
theorem un_wu {F : Value → Sem Value} : UnR X F (WU X F) := fun pins s σ H x v Q I rx h => h pins s σ v I rx
theorem call_wc {f : Value} : CallR X f (WC X f) := fun pins s σ H xs us Q I r h => h pins s σ us I r
theorem mt_wm {id : String} : MtR X id (WM X id) := fun pins s σ H x xs v us Q I r rs h => h pins s σ v us I r rs
theorem ix_wi : IxR X (WI X) := fun value slice pins s σ H x y v u Q I rx ry h hs => h value slice pins s σ v u I rx ry hs
theorem WE.of {t : TE} (h : PE X e t) {σ : St} {H : Hp} {Q : VK} (q : t σ H Q) : WE X e σ H Q := fun pins s I => h.run pins s σ H Q I q
theorem WT.of {t : TT} (h : PT X e t) {σ : St} {H : Hp} {Q : Bool → Hp → Prop} (q : t σ H Q) : WT X e σ H Q := fun pins s I => h.run pins s σ H Q I q
theorem WW.of {t : TT} (h : PW X e t) {σ : St} {H : Hp} {Q : Bool → Hp → Prop} (q : t σ H Q) : WW X e σ H Q := fun wh pins s I => h.run wh pins s σ H Q I q
theorem WW.wt {σ : St} {H : Hp} {Q : Bool → Hp → Prop} (q : WW X e σ H Q) : WT X e σ H Q := fun pins s I => q _ pins s I
theorem WA.of {t : TA} (h : PA X es t) {σ : St} {H : Hp} {Q : List V → Hp → Prop} (q : t σ H Q) : WA X es σ H Q := fun pos pins s I => h.run pos pins s σ H Q I q
theorem WS.of {t : TS} (h : PS X st t) {σ : St} {H : Hp} {Dn : Ends} (q : t Dn σ H) : WS X st Dn σ H := fun pins s I => h.run pins s σ H Dn I q
theorem WSs.of {t : TS} (h : PSs X sts t) {σ : St} {H : Hp} {Dn : Ends} (q : t Dn σ H) : WSs X sts Dn σ H := fun pins s I => h.run pins s σ H Dn I q
theorem WO.of {F : Value → Value → Sem Value} {r : R2} (h : OpR X F r) {x y : V} {H : Hp} {Q : VK} (q : r x y H Q) : WO X F x y H Q := fun pins s σ v u I rx ry => h pins s σ H x y v u Q I rx ry q
theorem WU.of {F : Value → Sem Value} {r : V → Hp → VK → Prop} (h : UnR X F r) {x : V} {H : Hp} {Q : VK} (q : r x H Q) : WU X F x H Q := fun pins s σ v I rx => h pins s σ H x v Q I rx q
theorem WC.of {f : Value} {r : List V → Hp → VK → Prop} (h : CallR X f r) {xs : List V} {H : Hp} {Q : VK} (q : r xs H Q) : WC X f xs H Q := fun pins s σ us I rx => h pins s σ H xs us Q I rx q
theorem WM.of {id : String} {r : V → List V → Hp → VK → Prop} (h : MtR X id r) {x : V} {xs : List V} {H : Hp} {Q : VK} (q : r x xs H Q) : WM X id x xs H Q := fun pins s σ v us I rx rs => h pins s σ H x xs v us Q I rx rs q
theorem WI.of {r : R2} (h : IxR X r) {x y : V} {H : Hp} {Q : VK} (q : r x y H Q) : WI X x y H Q := fun value slice pins s σ v u I rx ry hs => h value slice pins s σ H x y v u Q I rx ry q hs
end

/-! ### heaps that only grow -/
def Ext (H H' : Hp) : Prop := ∀ a o, H a = some o → H' a = some o
section
variable {K : PySem.W.Frag} {H H1 H' : Hp} {env : Ev} {σ : St} {Ws Ws1 : Wm} {M : List Nat}
theorem Ext.refl (H : Hp) : Ext H H := fun _ _ h => h
theorem Ext.trans {H2 : Hp} (a : Ext H H1) (b : Ext H1 H2) : Ext H H2 := fun c o h => b c o (a c o h)
theorem Ext.kp {A : Addr → Prop} (k : Ext H H') : Kp A H H' := fun a o h _ => k a o h
theorem Ext.new {p : Addr} {o : HO} (h : H p = none) : Ext H (upd H p o) := fun a u e => by rw [upd_ne (ne_of_none e h)]; exact e
theorem Ext.rep (k : Ext H H') {d : D} {v : V} {W : List Addr} (r : Rep K H d v W) : Rep K H' d v W := Rep.kp (A := fun _ => False) (Ext.kp k) (fun _ z => z.elim) d v W r fun _ _ z => z
theorem Ext.reps (k : Ext H H') {d : List D} {v : List V} {W : List Addr} (r : Reps K H d v W) : Reps K H' d v W := Reps.kp (A := fun _ => False) (Ext.kp k) (fun _ z => z.elim) d v W r fun _ _ z => z
theorem Ext.repk (k : Ext H H') {d : List (Key × D)} {v : List (Key × V)} {W : List Addr} (r : RepK K H d v W) : RepK K H' d v W := RepK.kp (A := fun _ => False) (Ext.kp k) (fun _ z => z.elim) d v W r fun _ _ z => z
theorem Ext.renv (k : Ext H H') (r : REnv K H env σ Ws) : REnv K H' env σ Ws := ⟨r.len, fun i d e => let ⟨v, e1, q⟩ := r.at' i d e; ⟨v, e1, k.rep q⟩, r.non⟩
theorem Ext.tr (k : Ext H1 H') (t : Tr M Ws Ws1 H H1) : Tr M Ws Ws1 H H' := ⟨fun a o e n => k a o (t.keep a o e n), t.same, t.sub, t.sep⟩
theorem Ext.none (k : Ext H H') {a : Addr} (h : H' a = none) : H a = none := by
  cases e : H a with
  | none => rfl
  | some o => rw [k a o e] at h; cases h
/-- new lists are nobody's -/
theorem Own.new {W : List Addr} (t : Tr M Ws Ws1 H H1) (r : REnv K H1 env σ Ws1) (hn : ∀ a ∈ W, H1 a = none) (nd : W.Nodup) : Own M [] Ws Ws1 H W where
  at' := fun a ha => .inl ⟨tr_none t (hn a ha), fun j z => (r.mt j a z).some (hn a ha)⟩
  nd := fun _ => nd
theorem Own.sub {R : List Nat} {W W' : List Addr} (o : Own M R Ws Ws1 H W) (h : ∀ a ∈ W', a ∈ W) (nd : W.Nodup → W'.Nodup) : Own M R Ws Ws1 H W' :=
  ⟨fun a ha => o.at' a (h a ha), fun e => nd (o.nd e)⟩
theorem Own.toNil {R : List Nat} : Own M R Ws Ws1 H [] := Own.nil
theorem REnv.tr0 (r : REnv K H env σ Ws) (s : Sep M Ws) : Tr M Ws Ws H H := Tr.refl s
theorem REnv.ne (r : REnv K H env σ Ws) : ∀ i, ∀ a ∈ Ws i, H a ≠ Option.none := fun i a ha => (r.mt i a ha).some
end

/-! ### expressions -/
structure VE (X : Cx) (M R : List Nat) (e : Expr) (f : Ev → Option (D × Ev)) : Prop where
  run : ∀ (env : Ev) (d : D) (env' : Ev), f env = some (d, env') → ∀ (σ : St) (H : Hp) (Ws : Wm) (Q : VK), REnv X.K H env σ Ws → Sep M Ws →
    (∀ v H' Ws' W, Rep X.K H' d v W → REnv X.K H' env' σ Ws' → Tr M Ws Ws' H H' → Own M R Ws Ws' H W → Q v H') → WE X e σ H Q
structure VA (X : Cx) (M R : List Nat) (es : List Expr) (f : Ev → Option (List D × Ev)) : Prop where
  run : ∀ (env : Ev) (d : List D) (env' : Ev), f env = some (d, env') → ∀ (σ : St) (H : Hp) (Ws : Wm) (Q : List V → Hp → Prop), REnv X.K H env σ Ws → Sep M Ws →
    (∀ v H' Ws' W, Reps X.K H' d v W → REnv X.K H' env' σ Ws' → Tr M Ws Ws' H H' → Own M R Ws Ws' H W → Q v H') → WA X es σ H Q
structure VT (X : Cx) (M : List Nat) (e : Expr) (f : Ev → Option (Bool × Ev)) : Prop where
  run : ∀ (env : Ev) (b : Bool) (env' : Ev), f env = some (b, env') → ∀ (σ : St) (H : Hp) (Ws : Wm) (Q : Bool → Hp → Prop), REnv X.K H env σ Ws → Sep M Ws →
    (∀ H' Ws', REnv X.K H' env' σ Ws' → Tr M Ws Ws' H H' → Q b H') → WT X e σ H Q
structure VW (X : Cx) (M : List Nat) (e : Expr) (f : Ev → Option (Bool × Ev)) : Prop where
  run : ∀ (env : Ev) (b : Bool) (env' : Ev), f env = some (b, env') → ∀ (σ : St) (H : Hp) (Ws : Wm) (Q : Bool → Hp → Prop), REnv X.K H env σ Ws → Sep M Ws →
    (∀ H' Ws', REnv X.K H' env' σ Ws' → Tr M Ws Ws' H H' → Q b H') → WW X e σ H Q

/-! what each construct computes -/
def eC (d : D) : Ev → Option (D × Ev) := fun env => some (d, env)
def eV (i : Nat) : Ev → Option (D × Ev) := fun env => match env[i]? with
  | some (some d) => some (d, env)
  | _ => none
def eLf (f : Ev → Option (D × Ev)) : Ev → Option (D × Ev) := fun env => (f env).bind fun p => if lf p.1 = true then some p else none
def eOp (g : D → D → Option D) (f1 f2 : Ev → Option (D × Ev)) : Ev → Option (D × Ev) := fun env => (f1 env).bind fun p => (f2 p.2).bind fun q => (g p.1 q.1).bind fun z => some (z, q.2)
def eUn (g : D → Option D) (f : Ev → Option (D × Ev)) : Ev → Option (D × Ev) := fun env => (f env).bind fun p => (g p.1).bind fun z => some (z, p.2)
def aNil : Ev → Option (List D × Ev) := fun env => some ([], env)
def aCons (f : Ev → Option (D × Ev)) (g : Ev → Option (List D × Ev)) : Ev → Option (List D × Ev) := fun env => (f env).bind fun p => (g p.2).bind fun q => some (p.1 :: q.1, q.2)
def eTup (g : Ev → Option (List D × Ev)) : Ev → Option (D × Ev) := fun env => (g env).bind fun p => if p.1.length ≤ sizeLine then some (.tup p.1, p.2) else none
def eLst (g : Ev → Option (List D × Ev)) : Ev → Option (D × Ev) := fun env => (g env).bind fun p => if p.1.length ≤ sizeLine then some (.lst p.1, p.2) else none
def eIf (c : Ev → Option (Bool × Ev)) (f g : Ev → Option (D × Ev)) : Ev → Option (D × Ev) := fun env => (c env).bind fun p => if p.1 = true then f p.2 else g p.2
def tV (f : Ev → Option (D × Ev)) : Ev → Option (Bool × Ev) := fun env => (f env).bind fun p => match p.1 with
  | .bl b => some (b, p.2)
  | _ => none
def tN (f : Ev → Option (Bool × Ev)) : Ev → Option (Bool × Ev) := fun env => (f env).bind fun p => some (!p.1, p.2)
def tA (f g : Ev → Option (Bool × Ev)) : Ev → Option (Bool × Ev) := fun env => (f env).bind fun p => if p.1 = true then g p.2 else some (false, p.2)
def tO (f g : Ev → Option (Bool × Ev)) : Ev → Option (Bool × Ev) := fun env => (f env).bind fun p => if p.1 = true then some (true, p.2) else g p.2
/-- a test's answer as a value -/
def eT (f : Ev → Option (Bool × Ev)) : Ev → Option (D × Ev) := fun env => (f env).bind fun p => some (.bl p.1, p.2)

/-- a two-place operation over plain data: its answer is new -/
def OpS (X : Cx) (F : Value → Value → Sem Value) (g : D → D → Option D) : Prop :=
  ∀ x y z, g x y = some z → ∀ (v u : V) (H : Hp) (W1 W2 : List Addr) (Q : VK), Rep X.K H x v W1 → Rep X.K H y u W2 →
    (∀ w H' W, Rep X.K H' z w W → Ext H H' → (∀ a ∈ W, H a = none) → W.Nodup → Q w H') → WO X F v u H Q
def UnS (X : Cx) (F : Value → Sem Value) (g : D → Option D) : Prop :=
  ∀ x z, g x = some z → ∀ (v : V) (H : Hp) (W1 : List Addr) (Q : VK), Rep X.K H x v W1 →
    (∀ w H' W, Rep X.K H' z w W → Ext H H' → (∀ a ∈ W, H a = none) → W.Nodup → Q w H') → WU X F v H Q
def CallS (X : Cx) (F : Value) (g : List D → Option D) : Prop :=
  ∀ x z, g x = some z → ∀ (v : List V) (H : Hp) (W1 : List Addr) (Q : VK), Reps X.K H x v W1 →
    (∀ w H' W, Rep X.K H' z w W → Ext H H' → (∀ a ∈ W, H a = none) → W.Nodup → Q w H') → WC X F v H Q
/-- a subscript: the answer is a part, or new -/
def IxS (X : Cx) (g : D → D → Option D) : Prop :=
  ∀ x y z, g x y = some z → ∀ (v u : V) (H : Hp) (W1 W2 : List Addr) (Q : VK), Rep X.K H x v W1 → Rep X.K H y u W2 →
    (∀ w W, Rep X.K H z w W → (∀ a ∈ W, a ∈ W1) → (W1.Nodup → W.Nodup) → Q w H) → WI X v u H Q

section
variable {X : Cx} {M Mb R Ra Rb : List Nat} {a b c e : Expr} {es : List Expr} {pos : Pos} {f fa fb fc : Ev → Option (D × Ev)} {ft fu : Ev → Option (Bool × Ev)} {fs : Ev → Option (List D × Ev)}

theorem ve_c {d : D} {v : V} (h : PE X e (tC v)) (r : ∀ H, Rep X.K H d v []) : VE X M [] e (eC d) := ⟨fun env d' env' h' σ H Ws Q re sp q => by
  cases h'
  exact WE.of h (q v H Ws [] (r H) re (Tr.refl sp) Own.nil)⟩
theorem ve_int {i j} : VE X M [] (.Constant (.int i) j pos) (eC (.int i)) := ve_c pe_int fun _ => .int i
theorem ve_bl {i j} : VE X M [] (.Constant (.bool i) j pos) (eC (.bl i)) := ve_c pe_bl fun _ => .bl i
theorem ve_non {j} : VE X M [] (.Constant .none j pos) (eC .non) := ve_c pe_non fun _ => .non
theorem ve_str {i j} : VE X M [] (.Constant (.str i) j pos) (eC (.str i)) := ve_c pe_str fun _ => .str i
theorem ve_v (i : Nat) {x : Str} {pos : Pos} (hN : X.N[i]? = some x := by rfl) (hv : Vis X.env.scope x := by first | exact Or.inl rfl | exact Or.inr (Or.inl rfl) | exact Or.inr (Or.inr rfl)) (hd : (x == ("__debug__" : Str)) = false := by decide)
    (hcd : (x == ("__classdict__" : Str)) = false := by decide) : VE X M [i] (.Name x pos) (eV i) := ⟨fun env d env' h σ H Ws Q re sp q => by
  unfold eV at h
  split at h
  · rename_i d' hd'
    cases h
    obtain ⟨v, e1, r⟩ := re.at' i d hd'
    exact WE.of (pe_var hN hv hd hcd) ⟨v, e1, q v H Ws (Ws i) r re (Tr.refl sp) ⟨fun a ha => .inr ⟨i, by simp, ha⟩, fun z => nomatch z⟩⟩
  · cases h⟩
theorem ve_lf (h : VE X M R e f) : VE X M Rb e (eLf f) := ⟨fun env d env' h' σ H Ws Q re sp q => by
  unfold eLf at h'
  obtain ⟨p, e1, e2⟩ := Option.bind_eq_some_iff.mp h'
  split at e2
  · rename_i hl
    cases e2
    refine h.run env d env' e1 σ H Ws Q re sp fun v H' Ws' W r re' t o => ?_
    refine q v H' Ws' [] (r.flat hl) re' t Own.nil
  · cases e2⟩
/-- a name whose value has no list within -/
theorem ve_vf (i : Nat) {x : Str} {pos : Pos} (hN : X.N[i]? = some x := by rfl) (hv : Vis X.env.scope x := by first | exact Or.inl rfl | exact Or.inr (Or.inl rfl) | exact Or.inr (Or.inr rfl)) (hd : (x == ("__debug__" : Str)) = false := by decide)
    (hcd : (x == ("__classdict__" : Str)) = false := by decide) : VE X M [] (.Name x pos) (eLf (eV i)) := ve_lf (ve_v i hN hv hd hcd)
theorem VE.weaken (h : VE X Mb R e f) (hs : ∀ i ∈ Mb, i ∈ M) : VE X M R e f := ⟨fun env d env' h' σ H Ws Q re sp q =>
  h.run env d env' h' σ H Ws Q re (sp.mono hs) fun v H' Ws' W r re' t o => q v H' Ws' W r re' (t.weaken hs sp re.ne) ⟨fun a ha => (o.at' a ha).imp (fun ⟨z, n⟩ => ⟨z.imp (InM.mono hs) id, n⟩) id, o.nd⟩⟩
/-- two expressions, the first one pending -/
theorem ve_two (ha : VE X M Ra a fa) (hb : VE X Mb Rb b fb) (hs : ∀ i ∈ Mb, i ∈ M) (hd : ∀ i ∈ Ra, i ∉ Mb) {env e1 e2 : Ev} {x y : D} (h1 : fa env = some (x, e1)) (h2 : fb e1 = some (y, e2))
    {σ : St} {H : Hp} {Ws : Wm} {Q : V → V → Hp → Prop} (re : REnv X.K H env σ Ws) (sp : Sep M Ws)
    (q : ∀ v u H' Ws' W1 W2, Rep X.K H' x v W1 → Rep X.K H' y u W2 → REnv X.K H' e2 σ Ws' → Tr M Ws Ws' H H' → Own M Ra Ws Ws' H W1 → Own M Rb Ws Ws' H W2 → (Ra = [] → Rb = [] → ∀ a ∈ W1, a ∉ W2) → Q v u H') :
    WE X a σ H fun v H1 => WE X b σ H1 fun u H2 => Q v u H2 := by
  refine ha.run env x e1 h1 σ H Ws _ re sp fun v H1 Ws1 W1 r1 re1 t1 o1 => ?_
  refine hb.run e1 y e2 h2 σ H1 Ws1 _ re1 (t1.sep.mono hs) fun u H2 Ws2 W2 r2 re2 t2 o2 => ?_
  have sp1 := t1.sep.mono hs
  refine q v u H2 Ws2 W1 W2 (o1.stay r1 re1 t2 sp1 hd) r2 re2 (t1.trans (t2.weaken hs t1.sep re1.ne)) (o1.later (fun a ha => (Rep.mt _ _ _ r1 a ha).some) t2 sp1 hd) (o2.early t1 hs) fun ea eb => ?_
  subst ea; subst eb
  exact o1.apart (fun a ha => (Rep.mt _ _ _ r1 a ha).some) o2
theorem ve_op {op : Operator} {g : D → D → Option D} (ho : OpS X (binaryOp op) g) (ha : VE X M Ra a fa) (hb : VE X Mb Rb b fb) (hs : ∀ i ∈ Mb, i ∈ M := by decide) (hd : ∀ i ∈ Ra, i ∉ Mb := by decide) : VE X M [] (.BinOp a op b pos) (eOp g fa fb) := ⟨fun env d env' h' σ H Ws Q re sp q => by
  unfold eOp at h'
  obtain ⟨⟨x, e1⟩, h1, h'⟩ := Option.bind_eq_some_iff.mp h'
  obtain ⟨⟨y, e2⟩, h2, h'⟩ := Option.bind_eq_some_iff.mp h'
  obtain ⟨z, h3, h'⟩ := Option.bind_eq_some_iff.mp h'
  cases h'
  refine WE.of (pe_op op_wo pe_we pe_we) (ve_two ha hb hs hd h1 h2 re sp fun v u H' Ws' W1 W2 r1 r2 re' t o1 o2 _ => ?_)
  exact ho x y d h3 v u H' W1 W2 Q r1 r2 fun w H3 W r k hn nd => q w H3 Ws' W r (k.renv re') (k.tr t) (Own.new t re' hn nd)⟩
theorem ve_cmp {op : CmpOp} {g : D → D → Option D} (ho : OpS X (compareOp op) g) (hm : behindInMarks op b = false) (ha : VE X M Ra a fa) (hb : VE X Mb Rb b fb) (hs : ∀ i ∈ Mb, i ∈ M := by decide) (hd : ∀ i ∈ Ra, i ∉ Mb := by decide) :
    VE X M [] (.Compare a [op] [b] pos) (eOp g fa fb) := ⟨fun env d env' h' σ H Ws Q re sp q => by
  unfold eOp at h'
  obtain ⟨⟨x, e1⟩, h1, h'⟩ := Option.bind_eq_some_iff.mp h'
  obtain ⟨⟨y, e2⟩, h2, h'⟩ := Option.bind_eq_some_iff.mp h'
  obtain ⟨z, h3, h'⟩ := Option.bind_eq_some_iff.mp h'
  cases h'
  refine WE.of (pe_cmpR op_wo pe_we pe_we hm) (ve_two ha hb hs hd h1 h2 re sp fun v u H' Ws' W1 W2 r1 r2 re' t o1 o2 _ => ?_)
  exact ho x y d h3 v u H' W1 W2 Q r1 r2 fun w H3 W r k hn nd => q w H3 Ws' W r (k.renv re') (k.tr t) (Own.new t re' hn nd)⟩
theorem vt_cmp {op : CmpOp} {g : D → D → Option D} (ho : OpS X (compareOp op) g) (hm : behindInMarks op b = false) (ha : VE X M Ra a fa) (hb : VE X Mb Rb b fb) (hs : ∀ i ∈ Mb, i ∈ M := by decide) (hd : ∀ i ∈ Ra, i ∉ Mb := by decide) :
    VT X M (.Compare a [op] [b] pos) (tV (eOp g fa fb)) := ⟨fun env d env' h' σ H Ws Q re sp q => by
  unfold tV at h'
  obtain ⟨⟨z, e3⟩, h', hz⟩ := Option.bind_eq_some_iff.mp h'
  unfold eOp at h'
  obtain ⟨⟨x, e1⟩, h1, h'⟩ := Option.bind_eq_some_iff.mp h'
  obtain ⟨⟨y, e2⟩, h2, h'⟩ := Option.bind_eq_some_iff.mp h'
  obtain ⟨z', h3, h'⟩ := Option.bind_eq_some_iff.mp h'
  cases h'
  split at hz
  · rename_i k hk
    cases hz
    have hk' : z = .bl d := hk
    subst hk'
    refine WT.of (pt_cmpR op_wo pe_we pe_we hm) (ve_two ha hb hs hd h1 h2 re sp fun v u H' Ws' W1 W2 r1 r2 re' t o1 o2 _ => ?_)
    refine ho x y _ h3 v u H' W1 W2 _ r1 r2 fun w H3 W r kx hn nd => ?_
    cases r
    exact ⟨d, rfl, q H3 Ws' (kx.renv re') (kx.tr t)⟩
  · cases hz⟩
theorem ve_un {op : UnaryOp} {g : D → Option D} (ho : UnS X (unaryOp op) g) (ha : VE X M Ra a fa) : VE X M [] (.UnaryOp op a pos) (eUn g fa) := ⟨fun env d env' h' σ H Ws Q re sp q => by
  unfold eUn at h'
  obtain ⟨⟨x, e1⟩, h1, h'⟩ := Option.bind_eq_some_iff.mp h'
  obtain ⟨z, h3, h'⟩ := Option.bind_eq_some_iff.mp h'
  cases h'
  refine WE.of (pe_un un_wu pe_we) (ha.run env x _ h1 σ H Ws _ re sp fun v H1 Ws1 W1 r1 re1 t1 o1 => ?_)
  exact ho x d h3 v H1 W1 Q r1 fun w H3 W r k hn nd => q w H3 Ws1 W r (k.renv re1) (k.tr t1) (Own.new t1 re1 hn nd)⟩
theorem ve_ix {g : D → D → Option D} (ho : IxS X g) (hpl : PlainIx b) (ha : VE X M Ra a fa) (hb : VE X Mb Rb b fb) (hs : ∀ i ∈ Mb, i ∈ M := by decide) (hd : ∀ i ∈ Ra, i ∉ Mb := by decide) : VE X M Ra (.Subscript a b pos) (eOp g fa fb) := ⟨fun env d env' h' σ H Ws Q re sp q => by
  unfold eOp at h'
  obtain ⟨⟨x, e1⟩, h1, h'⟩ := Option.bind_eq_some_iff.mp h'
  obtain ⟨⟨y, e2⟩, h2, h'⟩ := Option.bind_eq_some_iff.mp h'
  obtain ⟨z, h3, h'⟩ := Option.bind_eq_some_iff.mp h'
  cases h'
  refine WE.of (pe_ix ix_wi pe_we pe_we hpl) (ve_two ha hb hs hd h1 h2 re sp fun v u H' Ws' W1 W2 r1 r2 re' t o1 o2 _ => ?_)
  exact ho x y d h3 v u H' W1 W2 Q r1 r2 fun w W r hsub nd => q w H' Ws' W r re' t (o1.sub hsub nd)⟩
theorem va_nil : VA X M R [] aNil := ⟨fun env d env' h' σ H Ws Q re sp q => by
  cases h'
  exact WA.of pa_nil (q [] H Ws [] .nil re (Tr.refl sp) Own.nil)⟩
theorem va_cons (ha : VE X M Ra a fa) (hb : VA X Mb Rb es fs) (hs : ∀ i ∈ Mb, i ∈ M := by decide) (hd : ∀ i ∈ Ra, i ∉ Mb := by decide) (he : starEach (a :: es) X.env = (false, eval a X.env) :: starEach es X.env := by rfl) :
    VA X M (Ra ++ Rb) (a :: es) (aCons fa fs) := ⟨fun env d env' h' σ H Ws Q re sp q => by
  unfold aCons at h'
  obtain ⟨⟨x, e1⟩, h1, h'⟩ := Option.bind_eq_some_iff.mp h'
  obtain ⟨⟨y, e2⟩, h2, h'⟩ := Option.bind_eq_some_iff.mp h'
  cases h'
  refine WA.of (pa_cons pe_we pa_wa he) (ha.run env x e1 h1 σ H Ws _ re sp fun v H1 Ws1 W1 r1 re1 t1 o1 => ?_)
  have sp1 := t1.sep.mono hs
  refine hb.run e1 y _ h2 σ H1 Ws1 _ re1 sp1 fun u H2 Ws2 W2 r2 re2 t2 o2 => ?_
  have ne1 : ∀ a ∈ W1, H1 a ≠ none := fun a ha => (Rep.mt _ _ _ r1 a ha).some
  refine q (v :: u) H2 Ws2 (W1 ++ W2) (.cons (o1.stay r1 re1 t2 sp1 hd) r2) re2 (t1.trans (t2.weaken hs t1.sep re1.ne)) (Own.both (o1.later ne1 t2 sp1 hd) (o2.early t1 hs) fun e => ?_)
  obtain ⟨ea, eb⟩ := List.append_eq_nil_iff.mp e
  subst ea; subst eb
  exact o1.apart ne1 o2⟩
theorem ve_tup {k} (h : VA X M R es fs) : VE X M R (.Tuple es k pos) (eTup fs) := ⟨fun env d env' h' σ H Ws Q re sp q => by
  unfold eTup at h'
  obtain ⟨⟨x, e1⟩, h1, h'⟩ := Option.bind_eq_some_iff.mp h'
  split at h'
  · rename_i hl
    cases h'
    refine WE.of (pe_tup pa_wa) (h.run env x e1 h1 σ H Ws _ re sp fun v H1 Ws1 W1 r1 re1 t1 o1 => ⟨by rw [← r1.len]; exact hl, fun p hp => ?_⟩)
    have k := Ext.new (o := HO.tup v) hp
    exact q (.ref p) _ Ws1 W1 (.tup upd_same (k.reps r1)) (k.renv re1) (k.tr t1) o1
  · cases h'⟩
theorem ve_lst (h : VA X M R es fs) : VE X M R (.List es pos) (eLst fs) := ⟨fun env d env' h' σ H Ws Q re sp q => by
  unfold eLst at h'
  obtain ⟨⟨x, e1⟩, h1, h'⟩ := Option.bind_eq_some_iff.mp h'
  split at h'
  · rename_i hl
    cases h'
    refine WE.of (pe_lst pa_wa) (h.run env x e1 h1 σ H Ws _ re sp fun v H1 Ws1 W1 r1 re1 t1 o1 => ⟨by rw [← r1.len]; exact hl, fun p hp => ?_⟩)
    have k := Ext.new (o := HO.lst v) hp
    refine q (.ref p) _ Ws1 (p :: W1) (.lst upd_same (k.reps r1)) (k.renv re1) (k.tr t1) ⟨fun a ha => ?_, fun e => ?_⟩
    · rcases List.mem_cons.mp ha with rfl | ha
      · exact .inl ⟨tr_none t1 hp, fun j z => (re1.mt j _ z).some hp⟩
      · exact o1.at' a ha
    · refine List.nodup_cons.mpr ⟨fun z => (Reps.mt _ _ _ r1 p z).some hp, o1.nd e⟩
  · cases h'⟩

/-! ### tests -/
theorem vt_val (ha : VE X M R a fa) (he : ∀ whole, isTrue a X.env whole = (do let v ← whole; standAt a.pos; holding [v] (truthy v)) := by intro _; rfl) : VT X M a (tV fa) := ⟨fun env d env' h' σ H Ws Q re sp q => by
  unfold tV at h'
  obtain ⟨⟨x, e1⟩, h1, h'⟩ := Option.bind_eq_some_iff.mp h'
  split at h'
  · rename_i k hk
    cases h'
    have hk' : x = .bl d := hk
    subst hk'
    refine WT.of (pt_val pe_we he) (ha.run env _ _ h1 σ H Ws _ re sp fun v H1 Ws1 W1 r1 re1 t1 o1 => ?_)
    cases r1
    exact ⟨d, rfl, q H1 Ws1 re1 t1⟩
  · cases h'⟩
theorem vt_not (ha : VT X M a ft) : VT X M (.UnaryOp .Not a pos) (tN ft) := ⟨fun env d env' h' σ H Ws Q re sp q => by
  unfold tN at h'
  obtain ⟨⟨x, e1⟩, h1, h'⟩ := Option.bind_eq_some_iff.mp h'
  cases h'
  exact WT.of (pt_not pt_wt) (ha.run env x _ h1 σ H Ws _ re sp fun H1 Ws1 re1 t1 => q H1 Ws1 re1 t1)⟩
theorem vw_and1 (ha : VT X M a ft) : VW X M (.BoolOp .And [a] pos) ft := ⟨fun env d env' h' σ H Ws Q re sp q =>
  WW.of (pw_and1 pt_wt) (ha.run env d env' h' σ H Ws _ re sp q)⟩
theorem vw_or1 (ha : VT X M a ft) : VW X M (.BoolOp .Or [a] pos) ft := ⟨fun env d env' h' σ H Ws Q re sp q =>
  WW.of (pw_or1 pt_wt) (ha.run env d env' h' σ H Ws _ re sp q)⟩
theorem vw_and {rest : List Expr} (ha : VT X M a ft) (hb : VW X M (.BoolOp .And (b :: rest) pos) fu) : VW X M (.BoolOp .And (a :: b :: rest) pos) (tA ft fu) := ⟨fun env d env' h' σ H Ws Q re sp q => by
  unfold tA at h'
  obtain ⟨⟨x, e1⟩, h1, h'⟩ := Option.bind_eq_some_iff.mp h'
  refine WW.of (pw_and pt_wt pw_ww) (ha.run env x e1 h1 σ H Ws _ re sp fun H1 Ws1 re1 t1 => ?_)
  split at h'
  · rename_i hx
    have hx' : x = true := hx
    subst hx'
    rw [if_pos rfl]
    exact hb.run e1 d env' h' σ H1 Ws1 Q re1 t1.sep fun H2 Ws2 re2 t2 => q H2 Ws2 re2 (t1.trans t2)
  · rename_i hx
    have hx' : x = false := by cases x; rfl; exact absurd rfl hx
    subst hx'
    cases h'
    rw [if_neg (by decide)]
    exact q H1 Ws1 re1 t1⟩
theorem vw_or {rest : List Expr} (ha : VT X M a ft) (hb : VW X M (.BoolOp .Or (b :: rest) pos) fu) : VW X M (.BoolOp .Or (a :: b :: rest) pos) (tO ft fu) := ⟨fun env d env' h' σ H Ws Q re sp q => by
  unfold tO at h'
  obtain ⟨⟨x, e1⟩, h1, h'⟩ := Option.bind_eq_some_iff.mp h'
  refine WW.of (pw_or pt_wt pw_ww) (ha.run env x e1 h1 σ H Ws _ re sp fun H1 Ws1 re1 t1 => ?_)
  split at h'
  · rename_i hx
    have hx' : x = true := hx
    subst hx'
    cases h'
    rw [if_pos rfl]
    exact q H1 Ws1 re1 t1
  · rename_i hx
    have hx' : x = false := by cases x; rfl; exact absurd rfl hx
    subst hx'
    rw [if_neg (by decide)]
    exact hb.run e1 d env' h' σ H1 Ws1 Q re1 t1.sep fun H2 Ws2 re2 t2 => q H2 Ws2 re2 (t1.trans t2)⟩
theorem vt_vw (h : VW X M a ft) : VT X M a ft := ⟨fun env d env' h' σ H Ws Q re sp q => (h.run env d env' h' σ H Ws Q re sp q).wt⟩
theorem ve_if (hc : VT X M c ft) (ha : VE X M R a fa) (hb : VE X M R b fb) : VE X M R (.IfExp c a b pos) (eIf ft fa fb) := ⟨fun env d env' h' σ H Ws Q re sp q => by
  unfold eIf at h'
  obtain ⟨⟨x, e1⟩, h1, h'⟩ := Option.bind_eq_some_iff.mp h'
  refine WE.of (pe_ifExp pt_wt pe_we pe_we) (hc.run env x e1 h1 σ H Ws _ re sp fun H1 Ws1 re1 t1 => ?_)
  split at h'
  · rename_i hx
    have hx' : x = true := hx
    subst hx'
    rw [if_pos rfl]
    exact ha.run e1 d env' h' σ H1 Ws1 Q re1 t1.sep fun v H2 Ws2 W r2 re2 t2 o2 => q v H2 Ws2 W r2 re2 (t1.trans t2) (o2.early t1 fun _ z => z)
  · rename_i hx
    have hx' : x = false := by cases x; rfl; exact absurd rfl hx
    subst hx'
    rw [if_neg (by decide)]
    exact hb.run e1 d env' h' σ H1 Ws1 Q re1 t1.sep fun v H2 Ws2 W r2 re2 t2 o2 => q v H2 Ws2 W r2 re2 (t1.trans t2) (o2.early t1 fun _ z => z)⟩
/-! and, or, not as values (of truth values) -/
theorem ve_not (ha : VE X M R a fa) : VE X M [] (.UnaryOp .Not a pos) (eT (tN (tV fa))) := ⟨fun env d env' h' σ H Ws Q re sp q => by
  unfold eT tN tV at h'
  obtain ⟨⟨x, e1⟩, h1, h'⟩ := Option.bind_eq_some_iff.mp h'
  obtain ⟨⟨y, e2⟩, h2, h1⟩ := Option.bind_eq_some_iff.mp h1
  obtain ⟨⟨z, e3⟩, h3, h2⟩ := Option.bind_eq_some_iff.mp h2
  cases h'
  cases h1
  split at h2
  · rename_i k hk
    cases h2
    have hk' : z = .bl y := hk
    subst hk'
    refine WE.of (pe_not pe_we) (ha.run env _ _ h3 σ H Ws _ re sp fun v H1 Ws1 W1 r1 re1 t1 o1 => ?_)
    cases r1
    exact ⟨y, rfl, q _ H1 Ws1 [] (.bl _) re1 t1 Own.nil⟩
  · cases h2⟩
theorem ve_one {op : BoolOp} (ha : VE X M R a fa) : VE X M R (.BoolOp op [a] pos) fa := ⟨fun env d env' h' σ H Ws Q re sp q =>
  WE.of (pe_one pe_we) (ha.run env d env' h' σ H Ws Q re sp q)⟩
theorem ve_and {rest : List Expr} (ha : VE X M Ra a fa) (hb : VE X M R (.BoolOp .And (b :: rest) pos) fb) : VE X M R (.BoolOp .And (a :: b :: rest) pos) (eIf (tV fa) fb (eC (.bl false))) := ⟨fun env d env' h' σ H Ws Q re sp q => by
  unfold eIf tV at h'
  obtain ⟨⟨x, e1⟩, h1, h'⟩ := Option.bind_eq_some_iff.mp h'
  obtain ⟨⟨z, e3⟩, h3, h2⟩ := Option.bind_eq_some_iff.mp h1
  split at h2
  · rename_i k hk
    cases h2
    have hk' : z = .bl x := hk
    subst hk'
    refine WE.of (pe_and pe_we pe_we) (ha.run env _ _ h3 σ H Ws _ re sp fun v H1 Ws1 W1 r1 re1 t1 o1 => ?_)
    cases r1
    refine ⟨x, rfl, ?_⟩
    split at h'
    · rename_i hx
      have hx' : x = true := hx
      subst hx'
      rw [if_pos rfl]
      exact hb.run _ d env' h' σ H1 Ws1 Q re1 t1.sep fun v H2 Ws2 W r2 re2 t2 o2 => q v H2 Ws2 W r2 re2 (t1.trans t2) (o2.early t1 fun _ z => z)
    · rename_i hx
      have hx' : x = false := by cases x; rfl; exact absurd rfl hx
      subst hx'
      cases h'
      rw [if_neg (by decide)]
      exact q _ H1 Ws1 [] (.bl false) re1 t1 Own.nil
  · cases h2⟩
theorem ve_or {rest : List Expr} (ha : VE X M Ra a fa) (hb : VE X M R (.BoolOp .Or (b :: rest) pos) fb) : VE X M R (.BoolOp .Or (a :: b :: rest) pos) (eIf (tV fa) (eC (.bl true)) fb) := ⟨fun env d env' h' σ H Ws Q re sp q => by
  unfold eIf tV at h'
  obtain ⟨⟨x, e1⟩, h1, h'⟩ := Option.bind_eq_some_iff.mp h'
  obtain ⟨⟨z, e3⟩, h3, h2⟩ := Option.bind_eq_some_iff.mp h1
  split at h2
  · rename_i k hk
    cases h2
    have hk' : z = .bl x := hk
    subst hk'
    refine WE.of (pe_or pe_we pe_we) (ha.run env _ _ h3 σ H Ws _ re sp fun v H1 Ws1 W1 r1 re1 t1 o1 => ?_)
    cases r1
    refine ⟨x, rfl, ?_⟩
    split at h'
    · rename_i hx
      have hx' : x = true := hx
      subst hx'
      cases h'
      rw [if_pos rfl]
      exact q _ H1 Ws1 [] (.bl true) re1 t1 Own.nil
    · rename_i hx
      have hx' : x = false := by cases x; rfl; exact absurd rfl hx
      subst hx'
      rw [if_neg (by decide)]
      exact hb.run _ d env' h' σ H1 Ws1 Q re1 t1.sep fun v H2 Ws2 W r2 re2 t2 o2 => q v H2 Ws2 W r2 re2 (t1.trans t2) (o2.early t1 fun _ z => z)
  · cases h2⟩
end
end VL

/-! VLC: statements, targets, loops over plain data. -/
namespace VL
open PySem PySem.Spec L2

inductive Out where
  | nx (env : Ev) | rt (d : D) (env : Ev) | bk (env : Ev) | ct (env : Ev)

/-- the slots outside A hold what they held -/
def Hold (A : List Nat) (σ σ' : St) : Prop := ∀ i, i ∉ A → σ'[i]? = σ[i]?
theorem Hold.refl {A : List Nat} {σ : St} : Hold A σ σ := fun _ _ => rfl
theorem Hold.trans {A : List Nat} {σ σ1 σ2 : St} (a : Hold A σ σ1) (b : Hold A σ1 σ2) : Hold A σ σ2 := fun i h => (b i h).trans (a i h)
theorem Hold.mono {A T : List Nat} {σ σ' : St} (h : Hold T σ σ') (s : ∀ i ∈ T, i ∈ A) : Hold A σ σ' := fun i hi => h i fun z => hi (s i z)
def After (X : Cx) (A M : List Nat) (σ : St) (Ws : Wm) (H : Hp) (Dn : Ends) : Out → Prop
  | .nx e => ∀ σ' H' Ws', REnv X.K H' e σ' Ws' → Tr M Ws Ws' H H' → Hold A σ σ' → Dn.nx σ' H'
  | .bk e => ∀ σ' H' Ws', REnv X.K H' e σ' Ws' → Tr M Ws Ws' H H' → Hold A σ σ' → Dn.bk σ' H'
  | .ct e => ∀ σ' H' Ws', REnv X.K H' e σ' Ws' → Tr M Ws Ws' H H' → Hold A σ σ' → Dn.ct σ' H'
  | .rt d e => ∀ v σ' H' Ws' W, Rep X.K H' d v W → REnv X.K H' e σ' Ws' → Tr M Ws Ws' H H' → Own M [] Ws Ws' H W → Hold A σ σ' → Dn.rt v H'

structure VS (X : Cx) (A M : List Nat) (st : Stmt) (g : Ev → Option Out) : Prop where
  run : ∀ (env : Ev) (o : Out), g env = some o → ∀ (σ : St) (H : Hp) (Ws : Wm) (Dn : Ends), REnv X.K H env σ Ws → Sep M Ws → After X A M σ Ws H Dn o → WS X st Dn σ H
structure VSs (X : Cx) (A M : List Nat) (st : List Stmt) (g : Ev → Option Out) : Prop where
  run : ∀ (env : Ev) (o : Out), g env = some o → ∀ (σ : St) (H : Hp) (Ws : Wm) (Dn : Ends), REnv X.K H env σ Ws → Sep M Ws → After X A M σ Ws H Dn o → WSs X st Dn σ H

theorem After.step {X : Cx} {A M M2 : List Nat} {σ σ1 : St} {Ws Ws1 : Wm} {H H1 : Hp} {Dn : Ends} {o : Out} (t : Tr M Ws Ws1 H H1) (hs : ∀ i ∈ M2, i ∈ M) (ne : ∀ i, ∀ a ∈ Ws1 i, H1 a ≠ none) (hA : Hold A σ σ1) (h : After X A M σ Ws H Dn o) : After X A M2 σ1 Ws1 H1 Dn o := by
  cases o with
  | nx e => exact fun σ' H' Ws' re t' k => h σ' H' Ws' re (t.trans (t'.weaken hs t.sep ne)) (hA.trans k)
  | bk e => exact fun σ' H' Ws' re t' k => h σ' H' Ws' re (t.trans (t'.weaken hs t.sep ne)) (hA.trans k)
  | ct e => exact fun σ' H' Ws' re t' k => h σ' H' Ws' re (t.trans (t'.weaken hs t.sep ne)) (hA.trans k)
  | rt d e => exact fun v σ' H' Ws' W r re t' o k => h v σ' H' Ws' W r re (t.trans (t'.weaken hs t.sep ne)) (o.early t hs) (hA.trans k)

/-! what statements compute -/
def sNil : Ev → Option Out := fun env => some (.nx env)
def sSeq (f g : Ev → Option Out) : Ev → Option Out := fun env => (f env).bind fun o => match o with
  | .nx e => g e
  | o => some o
def sDrop (f : Ev → Option (D × Ev)) : Ev → Option Out := fun env => (f env).bind fun p => some (.nx p.2)
def sRet (f : Ev → Option (D × Ev)) : Ev → Option Out := fun env => (f env).bind fun p => some (.rt p.1 p.2)
def sIf (c : Ev → Option (Bool × Ev)) (f g : Ev → Option Out) : Ev → Option Out := fun env => (c env).bind fun p => if p.1 = true then f p.2 else g p.2
def sBk : Ev → Option Out := fun env => some (.bk env)
def sCt : Ev → Option Out := fun env => some (.ct env)
def sSet (i : Nat) (f : Ev → Option (D × Ev)) : Ev → Option Out := fun env => (f env).bind fun p => if i < p.2.length then some (.nx (p.2.set i (some p.1))) else none
abbrev Tg := D → Ev → Option Ev
abbrev Tgs := List D → Ev → Option Ev
def gN (i : Nat) : Tg := fun d env => if i < env.length then some (env.set i (some d)) else none
def gsNil : Tgs := fun ds env => match ds with
  | [] => some env
  | _ => none
def gsCons (t : Tg) (u : Tgs) : Tgs := fun ds env => match ds with
  | d :: r => (t d env).bind fun e => u r e
  | [] => none
def gT (n : Nat) (u : Tgs) : Tg := fun d env => match d with
  | .tup ds => if ds.length = n then u ds env else none
  | _ => none
def sAsg (f : Ev → Option (D × Ev)) (t : Tg) : Ev → Option Out := fun env => (f env).bind fun p => (t p.1 p.2).bind fun e => some (.nx e)
def forL (t : Tg) (b : Ev → Option Out) : List D → Ev → Option Out
  | [], env => some (.nx env)
  | d :: ds, env => (t d env).bind fun e1 => (b e1).bind fun o => match o with
    | .nx e2 => forL t b ds e2
    | .ct e2 => forL t b ds e2
    | .bk e2 => some (.nx e2)
    | .rt r e2 => some (.rt r e2)
def sFor (f : Ev → Option (List D × Ev)) (t : Tg) (b : Ev → Option Out) : Ev → Option Out := fun env => (f env).bind fun p => if lfs p.1 = true then forL t b p.1 p.2 else none
def whL (c : Ev → Option (Bool × Ev)) (b : Ev → Option Out) : Nat → Ev → Option Out
  | 0, _ => none
  | n + 1, env => (c env).bind fun p => if p.1 = true then (b p.2).bind fun o => match o with
      | .nx e2 => whL c b n e2
      | .ct e2 => whL c b n e2
      | .bk e2 => some (.nx e2)
      | .rt r e2 => some (.rt r e2)
    else some (.nx p.2)
def sWh (n : Nat) (c : Ev → Option (Bool × Ev)) (b : Ev → Option Out) : Ev → Option Out := fun env => whL c b n env

section
variable {X : Cx} {A M Mb R Ra Rb : List Nat} {e : Expr} {st : Stmt} {sts : List Stmt} {pos : Pos} {f : Ev → Option (D × Ev)} {ft : Ev → Option (Bool × Ev)} {g gs ga gb : Ev → Option Out}
theorem vss_nil : VSs X A M [] sNil := ⟨fun env o h σ H Ws Dn re sp q => by
  cases h
  exact WSs.of pss_nil (q σ H Ws re (Tr.refl sp) Hold.refl)⟩
theorem vss_cons (h1 : VS X A M st g) (h2 : VSs X A M sts gs) : VSs X A M (st :: sts) (sSeq g gs) := ⟨fun env o h σ H Ws Dn re sp q => by
  unfold sSeq at h
  obtain ⟨o1, e1, h⟩ := Option.bind_eq_some_iff.mp h
  refine WSs.of (pss_cons ps_ws pss_wss) (h1.run env o1 e1 σ H Ws { Dn with nx := WSs X sts Dn } re sp ?_)
  cases o1 with
  | nx e2 => exact fun σ' H' Ws' re' t k => h2.run e2 o h σ' H' Ws' Dn re' t.sep (After.step t (fun _ z => z) re'.ne k q)
  | bk e2 => cases h; exact q
  | ct e2 => cases h; exact q
  | rt d e2 => cases h; exact q⟩
theorem vss_one (h1 : VS X A M st g) : VSs X A M [st] g := ⟨fun env o h σ H Ws Dn re sp q =>
  WSs.of (pss_one ps_ws) (h1.run env o h σ H Ws Dn re sp q)⟩
theorem VSs.weaken (h : VSs X A Mb sts g) (hs : ∀ i ∈ Mb, i ∈ M) : VSs X A M sts g := ⟨fun env o h' σ H Ws Dn re sp q =>
  h.run env o h' σ H Ws Dn re (sp.mono hs) (After.step (Tr.refl sp) hs re.ne Hold.refl q)⟩
theorem vs_pass : VS X A M (.Pass pos) sNil := ⟨fun env o h σ H Ws Dn re sp q => by
  cases h
  exact WS.of ps_pass (q σ H Ws re (Tr.refl sp) Hold.refl)⟩
theorem vs_break : VS X A M (.Break pos) sBk := ⟨fun env o h σ H Ws Dn re sp q => by
  cases h
  exact WS.of ps_break (q σ H Ws re (Tr.refl sp) Hold.refl)⟩
theorem vs_continue : VS X A M (.Continue pos) sCt := ⟨fun env o h σ H Ws Dn re sp q => by
  cases h
  exact WS.of ps_continue (q σ H Ws re (Tr.refl sp) Hold.refl)⟩
theorem vs_expr (he : VE X M R e f) (hs : swapsWith e none pos.line X.env = pure false := by rfl) : VS X A M (.Expr e pos) (sDrop f) := ⟨fun env o h σ H Ws Dn re sp q => by
  unfold sDrop at h
  obtain ⟨⟨d, e1⟩, h1, h⟩ := Option.bind_eq_some_iff.mp h
  cases h
  exact WS.of (ps_expr pe_we hs) (he.run env d _ h1 σ H Ws _ re sp fun v H' Ws' W r re' t _ => q σ H' Ws' re' t Hold.refl)⟩
theorem vs_ret (he : VE X M [] e f) : VS X A M (.Return (some e) pos) (sRet f) := ⟨fun env o h σ H Ws Dn re sp q => by
  unfold sRet at h
  obtain ⟨⟨d, e1⟩, h1, h⟩ := Option.bind_eq_some_iff.mp h
  cases h
  exact WS.of (ps_ret pe_we) (he.run env d _ h1 σ H Ws _ re sp fun v H' Ws' W r re' t o => q v σ H' Ws' W r re' t o Hold.refl)⟩
theorem vs_retN : VS X A M (.Return none pos) (sRet (eC .non)) := ⟨fun env o h σ H Ws Dn re sp q => by
  cases h
  exact WS.of ps_retN (q .non σ H Ws [] .non re (Tr.refl sp) Own.nil Hold.refl)⟩
theorem vs_if {c : Expr} {a b : List Stmt} (hc : VT X M c ft) (ha : VSs X A M a ga) (hb : VSs X A M b gb) : VS X A M (.If c a b pos) (sIf ft ga gb) := ⟨fun env o h σ H Ws Dn re sp q => by
  unfold sIf at h
  obtain ⟨⟨x, e1⟩, h1, h⟩ := Option.bind_eq_some_iff.mp h
  refine WS.of (ps_if pt_wt pss_wss pss_wss) (hc.run env x e1 h1 σ H Ws _ re sp fun H1 Ws1 re1 t1 => ?_)
  split at h
  · rename_i hx
    have hx' : x = true := hx
    subst hx'
    rw [if_pos rfl]
    exact ha.run e1 o h σ H1 Ws1 Dn re1 t1.sep (After.step t1 (fun _ z => z) re1.ne Hold.refl q)
  · rename_i hx
    have hx' : x = false := by cases x; rfl; exact absurd rfl hx
    subst hx'
    rw [if_neg (by decide)]
    exact hb.run e1 o h σ H1 Ws1 Dn re1 t1.sep (After.step t1 (fun _ z => z) re1.ne Hold.refl q)⟩
end

/-! ### a slot is set -/
def setW (Ws : Wm) (i : Nat) (W : List Addr) : Wm := fun j => if j = i then W else Ws j
theorem setW_same {Ws : Wm} {i : Nat} {W : List Addr} : setW Ws i W i = W := if_pos rfl
theorem setW_ne {Ws : Wm} {i j : Nat} {W : List Addr} (h : j ≠ i) : setW Ws i W j = Ws j := if_neg h
section
variable {K : PySem.W.Frag} {H H1 H' : Hp} {env : Ev} {σ : St} {Ws Ws1 : Wm} {M R T : List Nat} {W : List Addr}
theorem REnv.set {d : D} {v : V} {i : Nat} (re : REnv K H env σ Ws) (hi : i < env.length) (r : Rep K H d v W) : REnv K H (env.set i (some d)) (σ.set i (some v)) (setW Ws i W) where
  len := by rw [List.length_set, List.length_set]; exact re.len
  at' := fun j d' e => by
    by_cases hj : j = i
    · subst hj
      rw [List.getElem?_set_self hi] at e
      cases e
      refine ⟨v, ?_, ?_⟩
      · rw [List.getElem?_set_self (by rw [re.len]; exact hi)]
      · rw [setW_same]; exact r
    · rw [List.getElem?_set_ne (Ne.symm hj)] at e
      obtain ⟨v', e1, q⟩ := re.at' j d' e
      refine ⟨v', ?_, ?_⟩
      · rw [List.getElem?_set_ne (Ne.symm hj)]; exact e1
      · rw [setW_ne hj]; exact q
  non := fun j h => by
    by_cases hj : j = i
    · subst hj
      exact absurd (List.getElem?_set_self hi) (h d)
    · rw [setW_ne hj]
      exact re.non j fun d' e => h d' (by rw [List.getElem?_set_ne (Ne.symm hj)]; exact e)
/-- the slots T have taken the lists of W -/
structure Took (T : List Nat) (Ws Ws' : Wm) (W : List Addr) : Prop where
  same : ∀ j, j ∉ T → Ws' j = Ws j
  sub : ∀ j ∈ T, ∀ a ∈ Ws' j, a ∈ W
  nd : W.Nodup → (∀ j ∈ T, (Ws' j).Nodup) ∧ ∀ i ∈ T, ∀ j ∈ T, i ≠ j → ∀ a ∈ Ws' i, a ∉ Ws' j
theorem Took.one {i : Nat} : Took [i] Ws (setW Ws i W) W where
  same := fun j hj => setW_ne fun e => hj (by simp [e])
  sub := fun j hj a ha => by
    have e : j = i := by simpa using hj
    subst e
    rw [setW_same] at ha; exact ha
  nd := fun n => ⟨fun j hj => by
    have e : j = i := by simpa using hj
    subst e
    rw [setW_same]; exact n, fun x hx y hy hne => by
    have e1 : x = i := by simpa using hx
    have e2 : y = i := by simpa using hy
    exact absurd (e1.trans e2.symm) hne⟩
theorem Took.tr (k : Took T Ws1 Ws W) (re : ∀ i, ∀ a ∈ Ws1 i, H1 a ≠ none) {Ws0 : Wm} {H0 : Hp} (t : Tr M Ws0 Ws1 H0 H1) (o : Own M [] Ws0 Ws1 H0 W) (hT : ∀ i ∈ T, i ∈ M) : Tr M Ws0 Ws H0 H1 where
  keep := t.keep
  same := fun i hi => (k.same i fun z => hi (hT i z)).trans (t.same i hi)
  sub := fun i hi a ha => by
    by_cases z : i ∈ T
    · rcases o.at' a (k.sub i z a ha) with ⟨y, _⟩ | ⟨_, y, _⟩
      · exact y
      · exact nomatch y
    · rw [k.same i z] at ha
      exact t.sub i hi a ha
  sep := fun i hi => by
    have off : ∀ a ∈ W, ∀ j, a ∉ Ws1 j := fun a ha => by
      rcases o.at' a ha with ⟨_, y⟩ | ⟨_, y, _⟩
      · exact y
      · exact nomatch y
    have nd := k.nd (o.nd rfl)
    by_cases z : i ∈ T
    · refine ⟨nd.1 i z, fun j hj a ha => ?_⟩
      by_cases y : j ∈ T
      · exact nd.2 i z j y (Ne.symm hj) a ha
      · rw [k.same j y]
        exact off a (k.sub i z a ha) j
    · rw [k.same i z]
      refine ⟨(t.sep i hi).1, fun j hj a ha => ?_⟩
      by_cases y : j ∈ T
      · exact fun q => off a (k.sub j y a q) i ha
      · rw [k.same j y]
        exact (t.sep i hi).2 j hj a ha
end

/-! ### targets -/
def WG (X : Cx) (tg : Expr) : TG := fun v σ H Q => ∀ pins s u, Inv X pins σ H s → RelV v u → wpAny (model X.prog X.w) X.A (assign tg X.env u) (fun _ s' => ∃ σ' H', Inv X pins σ' H' s' ∧ Q σ' H') X.xe s
def WGs (X : Cx) (ts : List Expr) : TGs := fun vs σ H Q => ∀ pins s us, Inv X pins σ H s → Vals vs us → wpAny (model X.prog X.w) X.A (assignInOrder ((assignEach ts X.env).map (·.2)) us) (fun _ s' => ∃ σ' H', Inv X pins σ' H' s' ∧ Q σ' H') X.xe s
theorem pg_wg {X : Cx} {tg : Expr} : PG X tg (WG X tg) := ⟨fun pins s σ H v u Q I r h => h pins s u I r⟩
theorem pgs_wgs {X : Cx} {ts : List Expr} : PGs X ts (WGs X ts) := ⟨fun pins s σ H vs us Q I r h => h pins s us I r⟩
theorem WG.of {X : Cx} {tg : Expr} {t : TG} (h : PG X tg t) {v : V} {σ : St} {H : Hp} {Q : St → Hp → Prop} (q : t v σ H Q) : WG X tg v σ H Q := fun pins s u I r => h.run pins s σ H v u Q I r q
theorem WGs.of {X : Cx} {tg : List Expr} {t : TGs} (h : PGs X tg t) {v : List V} {σ : St} {H : Hp} {Q : St → Hp → Prop} (q : t v σ H Q) : WGs X tg v σ H Q := fun pins s u I r => h.run pins s σ H v u Q I r q
structure VG (X : Cx) (T : List Nat) (tg : Expr) (t : Tg) : Prop where
  run : ∀ (d : D) (env env' : Ev), t d env = some env' → ∀ (v : V) (σ : St) (H : Hp) (Ws : Wm) (W : List Addr) (Q : St → Hp → Prop), Rep X.K H d v W → REnv X.K H env σ Ws →
    (∀ σ' Ws', REnv X.K H env' σ' Ws' → Took T Ws Ws' W → (σ'.length = σ.length ∧ Hold T σ σ') → Q σ' H) → WG X tg v σ H Q
structure VGs (X : Cx) (T : List Nat) (tg : List Expr) (t : Tgs) : Prop where
  run : ∀ (d : List D) (env env' : Ev), t d env = some env' → ∀ (v : List V) (σ : St) (H : Hp) (Ws : Wm) (W : List Addr) (Q : St → Hp → Prop), Reps X.K H d v W → REnv X.K H env σ Ws →
    (∀ σ' Ws', REnv X.K H env' σ' Ws' → Took T Ws Ws' W → (σ'.length = σ.length ∧ Hold T σ σ') → Q σ' H) → WGs X tg v σ H Q
section
variable {X : Cx} {A M Mb R Ra Rb T T2 : List Nat} {e tg : Expr} {tgs : List Expr} {st : Stmt} {sts : List Stmt} {pos : Pos} {f : Ev → Option (D × Ev)} {ft : Ev → Option (Bool × Ev)} {g gs ga gb : Ev → Option Out} {t : Tg} {u : Tgs}
theorem vg_n (i : Nat) {x : Str} (hN : X.N.Nodup) (hi : X.N[i]? = some x := by rfl) (hx : Loc X.env.scope x := by first | exact Or.inl rfl | exact Or.inr rfl) (hf : X.fn x = true ∨ X.env.scope.names.lookup x = some .local := by first | exact .inl rfl | exact .inr rfl | assumption) : VG X [i] (.Name x pos) (gN i) := ⟨fun d env env' h v σ H Ws W Q r re q => by
  unfold gN at h
  split at h
  · rename_i hl
    cases h
    refine WG.of (pg_name hN hi hx hf) (q _ _ (re.set hl r) Took.one ⟨by rw [List.length_set], fun j hj => ?_⟩)
    rw [List.getElem?_set_ne (fun e => hj (by simp [e]))]
  · cases h⟩
theorem vgs_nil : VGs X [] [] gsNil := ⟨fun d env env' h v σ H Ws W Q r re q => by
  unfold gsNil at h
  split at h
  · cases h
    cases r
    exact WGs.of pgs_nil ⟨rfl, q σ Ws re ⟨fun _ _ => rfl, fun _ z => (nomatch z), fun _ => ⟨fun _ z => (nomatch z), fun _ z => (nomatch z)⟩⟩ ⟨rfl, fun _ _ => rfl⟩⟩
  · cases h⟩
theorem vgs_cons (h1 : VG X T tg t) (h2 : VGs X T2 tgs u) (hs : (assignEach (tg :: tgs) X.env).map (·.2) = assign tg X.env :: (assignEach tgs X.env).map (·.2) := by rfl) : VGs X (T ++ T2) (tg :: tgs) (gsCons t u) := ⟨fun d env env' h v σ H Ws W Q r re q => by
  unfold gsCons at h
  split at h
  · rename_i d0 ds
    obtain ⟨e1, h3, h⟩ := Option.bind_eq_some_iff.mp h
    cases r with
    | cons r1 r2 =>
      refine WGs.of (pgs_cons pg_wg pgs_wgs hs) ⟨_, _, rfl, h1.run d0 env e1 h3 _ σ H Ws _ _ r1 re fun σ1 Ws1 re1 k1 s1 => ?_⟩
      refine h2.run ds e1 env' h _ σ1 H Ws1 _ _ r2 re1 fun σ2 Ws2 re2 k2 s2 => ?_
      refine q σ2 Ws2 re2 ⟨fun j hj => ?_, fun j hj a ha => ?_, fun n => ?_⟩ ⟨s2.1.trans s1.1, fun i hi => ?_⟩
      · rw [List.mem_append, not_or] at hj
        exact (k2.same j hj.2).trans (k1.same j hj.1)
      · by_cases z : j ∈ T2
        · exact List.mem_append_right _ (k2.sub j z a ha)
        · rw [k2.same j z] at ha
          exact List.mem_append_left _ (k1.sub j ((List.mem_append.mp hj).resolve_right z) a ha)
      · obtain ⟨n1, n2, n3⟩ := List.nodup_append.mp n
        have k1' := k1.nd n1
        have k2' := k2.nd n2
        refine ⟨fun j hj => ?_, fun i hi j hj hne a ha => ?_⟩
        · by_cases z : j ∈ T2
          · exact k2'.1 j z
          · rw [k2.same j z]
            exact k1'.1 j ((List.mem_append.mp hj).resolve_right z)
        · by_cases z : i ∈ T2
          · by_cases y : j ∈ T2
            · exact k2'.2 i z j y hne a ha
            · rw [k2.same j y]
              exact fun q' => n3 a (k1.sub j ((List.mem_append.mp hj).resolve_right y) a q') a (k2.sub i z a ha) rfl
          · rw [k2.same i z] at ha
            have hi' := (List.mem_append.mp hi).resolve_right z
            by_cases y : j ∈ T2
            · exact fun q' => n3 a (k1.sub i hi' a ha) a (k2.sub j y a q') rfl
            · rw [k2.same j y]
              exact k1'.2 i hi' j ((List.mem_append.mp hj).resolve_right y) hne a ha
      · rw [List.mem_append, not_or] at hi
        rw [s2.2 i hi.2, s1.2 i hi.1]
  · cases h⟩
theorem vg_t {n k : Nat} (hc : X.calm = true) (h : VGs X T tgs u) (hn : (assignEach tgs X.env).length = n := by rfl) (hst : (assignEach tgs X.env).findIdx? (·.1) = none := by rfl) : VG X T (.Tuple tgs k pos) (gT n u) := ⟨fun d env env' h' v σ H Ws W Q r re q => by
  unfold gT at h'
  split at h'
  · rename_i ds
    split at h'
    · rename_i hl
      cases r with
      | tup hs rs =>
        exact WG.of (pg_tup hc pgs_wgs hn hst) ⟨_, _, rfl, SqT.of hs, by rw [← rs.len]; exact hl, h.run ds env env' h' _ σ H Ws W Q rs re q⟩
    · cases h'
  · cases h'⟩
theorem vs_asg (he : VE X M [] e f) (hg : VG X T tg t) (hT : ∀ i ∈ T, i ∈ M := by decide) (hA : ∀ i ∈ T, i ∈ A := by decide) (hs : swapsWithSole [tg] e pos.line X.env = pure false := by rfl) (hw : swappedStores [tg] e X.env = pure none := by rfl)
    (h1 : (assignEach [tg] X.env).map (·.2) = [assign tg X.env] := by rfl) : VS X A M (.Assign [tg] e pos) (sAsg f t) := ⟨fun env o h σ H Ws Dn re sp q => by
  unfold sAsg at h
  obtain ⟨⟨d, e1⟩, h2, h⟩ := Option.bind_eq_some_iff.mp h
  obtain ⟨e2, h3, h⟩ := Option.bind_eq_some_iff.mp h
  cases h
  refine WS.of (ps_asg pe_we pg_wg hs hw h1) (he.run env d e1 h2 σ H Ws _ re sp fun v H' Ws' W r re' t o => ?_)
  exact hg.run d e1 e2 h3 v σ H' Ws' W _ r re' fun σ2 Ws2 re2 k kh => q σ2 H' Ws2 re2 (k.tr re'.ne t o hT) (Hold.mono kh.2 hA)⟩
theorem vs_set (i : Nat) {x : Str} {pos' : Pos} (hN : X.N.Nodup) (he : VE X M [] e f) (hT : i ∈ M := by decide) (hA : i ∈ A := by decide) (hi : X.N[i]? = some x := by rfl) (hx : Loc X.env.scope x := by first | exact Or.inl rfl | exact Or.inr rfl) (hs : swapsWith e (some (.Name x pos')) pos.line X.env = pure false := by rfl)
    (hf : X.fn x = true ∨ X.env.scope.names.lookup x = some .local := by first | exact .inl rfl | exact .inr rfl | assumption) : VS X A M (.Assign [.Name x pos'] e pos) (sAsg f (gN i)) := ⟨fun env o h σ H Ws Dn re sp q => by
  unfold sAsg at h
  obtain ⟨⟨d, e1⟩, h2, h⟩ := Option.bind_eq_some_iff.mp h
  obtain ⟨e2, h3, h⟩ := Option.bind_eq_some_iff.mp h
  cases h
  unfold gN at h3
  split at h3
  · rename_i hl
    cases h3
    refine WS.of (ps_set hN hi hx pe_we hs hf) (he.run env d e1 h2 σ H Ws _ re sp fun v H' Ws' W r re' t o => ?_)
    exact q _ H' _ (re'.set hl r) (Took.one.tr re'.ne t o fun j hj => by
      have e : j = i := by simpa using hj
      rw [e]; exact hT) fun j hj => by
        rw [List.getElem?_set_ne (fun e => hj (by rw [← e]; exact hA))]
  · cases h3⟩
/-- a, b = x, y -/
def sPar (i j : Nat) (fs : Ev → Option (List D × Ev)) : Ev → Option Out := fun env => (fs env).bind fun p => match p.1 with
  | [a, b] => if i < p.2.length ∧ j < p.2.length then some (.nx ((p.2.set i (some a)).set j (some b))) else none
  | _ => none
theorem vs_par (i j : Nat) {x y : Str} {a b : Expr} {px py pt pt2 : Pos} {kt k2 : Nat} {fs : Ev → Option (List D × Ev)} (hN : X.N.Nodup) (ha : VA X M [] [a, b] fs) (hc : X.calm = true := by rfl) (hi : X.N[i]? = some x := by rfl) (hj : X.N[j]? = some y := by rfl) (hij : i ≠ j := by decide) (hTi : i ∈ M := by decide) (hTj : j ∈ M := by decide) (hAi : i ∈ A := by decide) (hAj : j ∈ A := by decide)
    (hx : X.env.scope.names.lookup x = some .local := by rfl) (hy : X.env.scope.names.lookup y = some .local := by rfl)
    (hw : swappedStores [.Tuple [.Name x px, .Name y py] kt pt] (.Tuple [a, b] k2 pt2) X.env = pure (some [x, y]) := by rfl)
    (hs : swapsWithSole [.Tuple [.Name x px, .Name y py] kt pt] (.Tuple [a, b] k2 pt2) pos.line X.env = pure false := by rfl) :
    VS X A M (.Assign [.Tuple [.Name x px, .Name y py] kt pt] (.Tuple [a, b] k2 pt2) pos) (sPar i j fs) := ⟨fun env o h σ H Ws Dn re sp q => by
  unfold sPar at h
  obtain ⟨⟨d, e1⟩, h2, h⟩ := Option.bind_eq_some_iff.mp h
  split at h
  · rename_i da db hd
    have hd' : d = [da, db] := hd
    subst hd'
    split at h
    · rename_i hl
      cases h
      refine WS.of (ps_par hc hN hi hj hij hx hy pa_wa hw hs) (ha.run env _ e1 h2 σ H Ws _ re sp fun v H' Ws' W r re' t o => ?_)
      cases r with
      | cons r1 r =>
        cases r with
        | cons r2 r =>
          cases r
          rename_i v1 W1 v2 W2
          refine ⟨_, _, rfl, ?_⟩
          have re1 := re'.set hl.1 r1
          have re2 := re1.set (i := j) (by rw [List.length_set]; exact hl.2) r2
          refine q _ H' _ re2 (Took.tr (T := [i, j]) (W := W1 ++ (W2 ++ [])) ⟨fun z hz => ?_, fun z hz a ha => ?_, fun n => ?_⟩ re'.ne t o fun z hz => ?_) ?_
          · simp only [List.mem_cons, List.not_mem_nil, or_false, not_or] at hz
            rw [setW_ne hz.2, setW_ne hz.1]
          · by_cases ej : z = j
            · subst ej
              rw [setW_same] at ha
              simp [ha]
            · rw [setW_ne ej] at ha
              by_cases ei : z = i
              · subst ei
                rw [setW_same] at ha
                simp [ha]
              · simp [ej, ei] at hz
          · obtain ⟨n1, n2, n3⟩ := List.nodup_append.mp n
            rw [List.append_nil] at n2 n3
            refine ⟨fun z hz => ?_, fun z hz y hy hne a ha => ?_⟩
            · by_cases ej : z = j
              · subst ej; rw [setW_same]; exact n2
              · rw [setW_ne ej]
                by_cases ei : z = i
                · subst ei; rw [setW_same]; exact n1
                · simp [ej, ei] at hz
            · by_cases ej : z = j
              · subst ej
                rw [setW_same] at ha
                have ey : y = i := by
                  simp only [List.mem_cons, List.not_mem_nil, or_false] at hy
                  rcases hy with h | h
                  · exact h
                  · exact absurd h.symm hne
                subst ey
                rw [setW_ne hij, setW_same]
                exact fun q => n3 a q a ha rfl
              · rw [setW_ne ej] at ha
                have ez : z = i := by
                  simp only [List.mem_cons, List.not_mem_nil, or_false] at hz
                  exact hz.resolve_right ej
                subst ez
                rw [setW_same] at ha
                have ey : y = j := by
                  simp only [List.mem_cons, List.not_mem_nil, or_false] at hy
                  rcases hy with h | h
                  · exact absurd h.symm hne
                  · exact h
                subst ey
                rw [setW_same]
                exact fun q => n3 a ha a q rfl
          · simp only [List.mem_cons, List.not_mem_nil, or_false] at hz
            rcases hz with rfl | rfl
            · exact hTi
            · exact hTj
          · intro z hz
            rw [List.getElem?_set_ne (fun e => hz (by rw [← e]; exact hAj)), List.getElem?_set_ne (fun e => hz (by rw [← e]; exact hAi))]
    · cases h
  · cases h⟩
end

/-! ### what is walked -/
/-- the iterator J yields the items, as long as the lists at W stand -/
def WalkOk (K : PySem.W.Frag) (J : It) (items : List D) (W : List Addr) (H : Hp) : Prop :=
  ∃ G : Hp → Prop, G H ∧ (∀ (A : Addr → Prop) H1 H2, G H1 → Kp A H1 H2 → (∀ a, A a → Mt H1 a) → (∀ a ∈ W, ¬ A a) → G H2) ∧
    (∀ i H1 d, G H1 → items[i]? = some d → J.go i H1 ∧ ∀ x H2, J.yld i H1 x H2 → Ext H1 H2 ∧ ∃ W', Rep K H2 d x W' ∧ ∀ a ∈ W', a ∈ W) ∧ ∀ H1, G H1 → J.stop items.length H1
def WIt (X : Cx) (tg it : Expr) : TI := fun σ H R => ∀ pins s, Inv X pins σ H s → wpAny (model X.prog X.w) X.A (eval it X.env) (fun v s1 => wpAny (model X.prog X.w) X.A (pyIter v) (PIE X pins σ tg R) X.xe s1) X.xe s
theorem pi_wit {X : Cx} {tg it : Expr} : PI X tg it (WIt X tg it) := ⟨fun pins s σ H R I h => h pins s I⟩
theorem WIt.of {X : Cx} {tg it : Expr} {w : TI} (h : PI X tg it w) {σ : St} {H : Hp} {R : It → Hp → Prop} (q : w σ H R) : WIt X tg it σ H R := fun pins s I => h.run pins s σ H R I q
structure VI (X : Cx) (M R : List Nat) (tg it : Expr) (f : Ev → Option (List D × Ev)) : Prop where
  run : ∀ (env : Ev) (items : List D) (env' : Ev), f env = some (items, env') → ∀ (σ : St) (H : Hp) (Ws : Wm) (Q : It → Hp → Prop), REnv X.K H env σ Ws → Sep M Ws →
    (∀ J H' Ws' W, WalkOk X.K J items W H' → REnv X.K H' env' σ Ws' → Tr M Ws Ws' H H' → Own M R Ws Ws' H W → (∀ a ∈ W, Mt H' a) → Q J H') → WIt X tg it σ H Q

def iSeq (f : Ev → Option (D × Ev)) : Ev → Option (List D × Ev) := fun env => (f env).bind fun p => match p.1 with
  | .lst ds => some (ds, p.2)
  | .rol ds => some (ds, p.2)
  | .tup ds => some (ds, p.2)
  | _ => none
section
variable {X : Cx} {A M Mb R Ra Rb T T2 : List Nat} {e tg it : Expr} {tgs : List Expr} {st : Stmt} {sts : List Stmt} {pos : Pos} {f : Ev → Option (D × Ev)} {fi : Ev → Option (List D × Ev)} {ft : Ev → Option (Bool × Ev)} {g gs ga gb : Ev → Option Out} {t : Tg} {u : Tgs}
theorem walk_list {K : PySem.W.Frag} {H : Hp} {a : Addr} {vs : List V} {ds : List D} {W : List Addr} (h : H a = some (.lst vs)) (r : Reps K H ds vs W) : WalkOk K (Itl K a) ds (a :: W) H := by
  refine ⟨fun H1 => H1 a = some (.lst vs) ∧ Reps K H1 ds vs W, ⟨h, r⟩, fun A H1 H2 ⟨h1, r1⟩ k m n => ⟨k a _ h1 (n a List.mem_cons_self), Reps.kp k m _ _ _ r1 fun b hb => n b (List.mem_cons_of_mem _ hb)⟩, fun i H1 d ⟨h1, r1⟩ e => ?_, fun H1 ⟨h1, r1⟩ => ⟨vs, SqL.of h1, Nat.le_of_eq r1.len.symm⟩⟩
  obtain ⟨v, W', e1, rv, sub, _⟩ := Reps.get i r1 e
  refine ⟨⟨vs, v, SqL.of h1, e1⟩, fun x H2 ⟨hH, y⟩ => ?_⟩
  subst hH
  have ex := y vs (SqL.of h1)
  rw [e1] at ex
  cases ex
  exact ⟨Ext.refl _, W', rv, fun b hb => List.mem_cons_of_mem _ (sub b hb)⟩
theorem walk_rol {K : PySem.W.Frag} {H : Hp} {a : Addr} {vs : List V} {ds : List D} (h : RoL K H a vs) (r : Reps K H ds vs []) : WalkOk K (Itl K a) ds [] H := by
  refine ⟨fun H1 => RoL K H1 a vs ∧ Reps K H1 ds vs [], ⟨h, r⟩, fun A H1 H2 ⟨h1, r1⟩ k m n => ⟨k.rol m h1, Reps.kp k m _ _ _ r1 fun b hb => nomatch hb⟩, fun i H1 d ⟨h1, r1⟩ e => ?_, fun H1 ⟨h1, r1⟩ => ⟨vs, h1.seq, Nat.le_of_eq r1.len.symm⟩⟩
  obtain ⟨v, W', e1, rv, sub, _⟩ := Reps.get i r1 e
  refine ⟨⟨vs, v, h1.seq, e1⟩, fun x H2 ⟨hH, y⟩ => ?_⟩
  subst hH
  have ex := y vs h1.seq
  rw [e1] at ex
  cases ex
  exact ⟨Ext.refl _, W', rv, sub⟩
theorem walk_tup {K : PySem.W.Frag} {H : Hp} {a : Addr} {vs : List V} {ds : List D} {W : List Addr} (h : SqT K H a vs) (r : Reps K H ds vs W) : WalkOk K (Itt K a) ds W H := by
  refine ⟨fun H1 => SqT K H1 a vs ∧ Reps K H1 ds vs W, ⟨h, r⟩, fun A H1 H2 ⟨h1, r1⟩ k m n => ⟨k.sqt m h1, Reps.kp k m _ _ _ r1 n⟩, fun i H1 d ⟨h1, r1⟩ e => ?_, fun H1 ⟨h1, r1⟩ => ⟨vs, h1, Nat.le_of_eq r1.len.symm⟩⟩
  obtain ⟨v, W', e1, rv, sub, _⟩ := Reps.get i r1 e
  refine ⟨⟨vs, v, h1, e1⟩, fun x H2 ⟨hH, y⟩ => ?_⟩
  subst hH
  have ex := y vs h1
  rw [e1] at ex
  cases ex
  exact ⟨Ext.refl _, W', rv, sub⟩
theorem vi_seq (he : VE X M R it f) : VI X M R tg it (iSeq f) := ⟨fun env items env' h σ H Ws Q re sp q => by
  unfold iSeq at h
  obtain ⟨⟨d, e1⟩, h1, h⟩ := Option.bind_eq_some_iff.mp h
  split at h
  · rename_i ds hd
    cases h
    have hd' : d = .lst items := hd
    subst hd'
    refine WIt.of (pi_list pe_we) (he.run env _ _ h1 σ H Ws _ re sp fun v H1 Ws1 W1 r1 re1 t1 o1 => ?_)
    cases r1 with
    | lst hl rs => exact ⟨_, rfl, ⟨_, SqL.of hl⟩, q _ H1 Ws1 _ (walk_list hl rs) re1 t1 o1 (Rep.mt _ _ _ (.lst hl rs))⟩
  · rename_i ds hd
    cases h
    have hd' : d = .rol items := hd
    subst hd'
    refine WIt.of (pi_list pe_we) (he.run env _ _ h1 σ H Ws _ re sp fun v H1 Ws1 W1 r1 re1 t1 o1 => ?_)
    cases r1 with
    | rol hl rs => exact ⟨_, rfl, ⟨_, hl.seq⟩, q _ H1 Ws1 _ (walk_rol hl rs) re1 t1 o1 fun a z => nomatch z⟩
  · rename_i ds hd
    cases h
    have hd' : d = .tup items := hd
    subst hd'
    refine WIt.of (pi_tup pe_we) (he.run env _ _ h1 σ H Ws _ re sp fun v H1 Ws1 W1 r1 re1 t1 o1 => ?_)
    cases r1 with
    | tup hl rs => exact ⟨_, rfl, ⟨_, SqT.of hl⟩, q _ H1 Ws1 _ (walk_tup (SqT.of hl) rs) re1 t1 o1 (Reps.mt _ _ _ rs)⟩
  · cases h⟩

/-- for: the items flat (no lists within) -/
theorem vs_for (hi : VI X M R tg it fi) (hg : VG X T tg t) (hb : VSs X A Mb sts g) (hs : ∀ i ∈ Mb, i ∈ M := by decide) (hA : ∀ i ∈ T, i ∈ A := by decide) (hT : ∀ i ∈ T, i ∈ Mb := by decide) (hR : ∀ i ∈ R, i ∉ Mb := by decide) (hp : PassesOwn (model X.prog X.w) X.A X.env X.xe := by exact PassesOwn.never) (hc : X.calm = true := by rfl)
    (hf : ∀ x, foldedSetIterable it X.env x = pure x := by intro _; rfl) : VS X A M (.For tg it sts [] pos) (sFor fi t g) := ⟨fun env o h σ H Ws Dn re sp q => by
  unfold sFor at h
  obtain ⟨⟨items, e1⟩, h1, h⟩ := Option.bind_eq_some_iff.mp h
  split at h
  rotate_left
  · cases h
  rename_i hlf
  refine WS.of (ps_for hp hc pi_wit pg_wg pss_wss hf) (hi.run env items e1 h1 σ H Ws _ re sp fun J H1 Ws1 W1 wk re1 t1 o1 mt1 => ?_)
  obtain ⟨G, g0, gk, gg, gs⟩ := wk
  refine ⟨fun i m σ' H' => m = items.length - i ∧ i ≤ items.length ∧ ∃ env' Ws', REnv X.K H' env' σ' Ws' ∧ Tr Mb Ws1 Ws' H1 H' ∧ Hold A σ σ' ∧ G H' ∧ Own M R Ws Ws' H W1 ∧ (∀ a ∈ W1, Mt H' a) ∧ forL t g (items.drop i) env' = some o,
    ⟨items.length, by simp, Nat.zero_le _, e1, Ws1, re1, Tr.refl (t1.sep.mono hs), Hold.refl, g0, o1, mt1, h⟩, ?_⟩
  rintro i m σ' H' ⟨rfl, hi', env', Ws', re', t', kh', g', o', mt', h'⟩
  have spb := t'.sep
  by_cases hlt : i < items.length
  · obtain ⟨hgo, hy⟩ := gg i H' items[i] g' (List.getElem?_eq_getElem hlt)
    rw [List.drop_eq_getElem_cons hlt] at h'
    obtain ⟨e2, h2, h'⟩ := Option.bind_eq_some_iff.mp (show ((t items[i] env').bind fun e1 => (g e1).bind fun o => match o with
      | .nx e2 => forL t g (items.drop (i + 1)) e2
      | .ct e2 => forL t g (items.drop (i + 1)) e2
      | .bk e2 => some (.nx e2)
      | .rt r e2 => some (.rt r e2)) = some o from h')
    obtain ⟨o2, h3, h'⟩ := Option.bind_eq_some_iff.mp h'
    have hflat : lf items[i] = true := lfs_iff.mp hlf _ (List.getElem_mem hlt)
    have next : ∀ e3 σ3 H3 Ws3, forL t g (items.drop (i + 1)) e3 = some o → REnv X.K H3 e3 σ3 Ws3 → ∀ H2, Ext H' H2 → ∀ Ws2, REnv X.K H2 e2 σ3 Ws2 ∨ True → Tr Mb Ws' Ws3 H' H3 → Hold A σ' σ3 →
        (items.length - (i + 1) = items.length - (i + 1) ∧ i + 1 ≤ items.length ∧ ∃ env' Ws', REnv X.K H3 env' σ3 Ws' ∧ Tr Mb Ws1 Ws' H1 H3 ∧ Hold A σ σ3 ∧ G H3 ∧ Own M R Ws Ws' H W1 ∧ (∀ a ∈ W1, Mt H3 a) ∧ forL t g (items.drop (i + 1)) env' = some o) := by
      intro e3 σ3 H3 Ws3 h4 re3 _ _ _ _ t3 kh3
      have off := o'.off spb hR
      refine ⟨rfl, hlt, e3, Ws3, re3, t'.trans t3, kh'.trans kh3, gk _ H' H3 g' t3.keep re'.mtM off, o'.later (fun a ha => (mt' a ha).some) t3 spb hR, fun a ha => ?_, h4⟩
      rcases mt' a ha with ⟨xs, e⟩ | ⟨xs, e⟩ | ⟨xs, e⟩ | ⟨o1, xs, e⟩
      · exact .inl ⟨xs, t3.keep _ _ e (off a ha)⟩
      · exact .inr (.inl ⟨xs, t3.keep _ _ e (off a ha)⟩)
      · exact .inr (.inr (.inl ⟨xs, t3.keep _ _ e (off a ha)⟩))
      · exact .inr (.inr (.inr ⟨o1, xs, t3.keep _ _ e (off a ha)⟩))
    refine .inr ⟨hgo, fun σ3 H3 => (items.length - (i + 1) = items.length - (i + 1) ∧ i + 1 ≤ items.length ∧ ∃ env' Ws', REnv X.K H3 env' σ3 Ws' ∧ Tr Mb Ws1 Ws' H1 H3 ∧ Hold A σ σ3 ∧ G H3 ∧ Own M R Ws Ws' H W1 ∧ (∀ a ∈ W1, Mt H3 a) ∧ forL t g (items.drop (i + 1)) env' = some o),
      fun σ3 H3 n => ⟨items.length - (i + 1), by omega, n⟩, fun x H2 yx => ?_⟩
    obtain ⟨k2, W2, r2, sub2⟩ := hy x H2 yx
    have r2' := r2.flat hflat
    have re2 := k2.renv re'
    refine hg.run items[i] env' e2 h2 x σ' H2 Ws' [] _ r2' re2 fun σ3 Ws3 re3 k3 kh3 => ?_
    have kh3 : Hold A σ' σ3 := Hold.mono kh3.2 hA
    have t3 : Tr Mb Ws' Ws3 H' H2 := k3.tr re2.ne (k2.tr (Tr.refl spb)) Own.nil hT
    refine hb.run e2 o2 h3 σ3 H2 Ws3 _ re3 t3.sep ?_
    have wb : ∀ {Ws4 H4}, Tr Mb Ws3 Ws4 H2 H4 → Tr M Ws Ws4 H H4 := fun t4 => t1.trans (((t'.trans t3).trans t4).weaken hs t1.sep re1.ne)
    cases o2 with
    | nx e3 => exact fun σ4 H4 Ws4 re4 t4 kh4 => next e3 σ4 H4 Ws4 h' re4 H2 k2 Ws3 (.inr trivial) (t3.trans t4) (kh3.trans kh4)
    | ct e3 => exact fun σ4 H4 Ws4 re4 t4 kh4 => next e3 σ4 H4 Ws4 h' re4 H2 k2 Ws3 (.inr trivial) (t3.trans t4) (kh3.trans kh4)
    | bk e3 =>
      cases h'
      exact fun σ4 H4 Ws4 re4 t4 kh4 => q σ4 H4 Ws4 re4 (wb t4) ((kh'.trans kh3).trans kh4)
    | rt d e3 =>
      cases h'
      exact fun v σ4 H4 Ws4 W4 r4 re4 t4 o4 kh4 => q v σ4 H4 Ws4 W4 r4 re4 (wb t4) ((o4.early (t'.trans t3) fun _ z => z).early t1 hs) ((kh'.trans kh3).trans kh4)
  · have e : i = items.length := by omega
    subst e
    rw [List.drop_length] at h'
    cases h'
    exact .inl ⟨gs H' g', q σ' H' Ws' re' (t1.trans (t'.weaken hs t1.sep re1.ne)) kh'⟩⟩
theorem vs_while {c : Expr} (n : Nat) (hc : VT X M c ft) (hb : VSs X A M sts g) (hp : PassesOwn (model X.prog X.w) X.A X.env X.xe := by exact PassesOwn.never) : VS X A M (.While c sts [] pos) (sWh n ft g) := ⟨fun env o h σ H Ws Dn re sp q => by
  unfold sWh at h
  refine WS.of (ps_while hp pt_wt pss_wss) ⟨fun m σ' H' => ∃ env' Ws', REnv X.K H' env' σ' Ws' ∧ Tr M Ws Ws' H H' ∧ Hold A σ σ' ∧ whL ft g m env' = some o, ⟨n, env, Ws, re, Tr.refl sp, Hold.refl, h⟩, ?_⟩
  rintro m σ' H' ⟨env', Ws', re', t', kh', h'⟩
  cases m with
  | zero => cases h'
  | succ m =>
    obtain ⟨⟨x, e1⟩, h1, h'⟩ := Option.bind_eq_some_iff.mp (show ((ft env').bind fun p => if p.1 = true then (g p.2).bind fun o => match o with
      | .nx e2 => whL ft g m e2
      | .ct e2 => whL ft g m e2
      | .bk e2 => some (.nx e2)
      | .rt r e2 => some (.rt r e2)
    else some (.nx p.2)) = some o from h')
    refine hc.run env' x e1 h1 σ' H' Ws' _ re' t'.sep fun H1 Ws1 re1 t1 => ?_
    have t01 := t'.trans t1
    split at h'
    · rename_i hx
      have hx' : x = true := hx
      subst hx'
      rw [if_pos rfl]
      obtain ⟨o2, h3, h'⟩ := Option.bind_eq_some_iff.mp h'
      refine ⟨fun σ3 H3 => ∃ env' Ws', REnv X.K H3 env' σ3 Ws' ∧ Tr M Ws Ws' H H3 ∧ Hold A σ σ3 ∧ whL ft g m env' = some o, fun σ3 H3 n => ⟨m, Nat.lt_succ_self m, n⟩, hb.run e1 o2 h3 σ' H1 Ws1 _ re1 t1.sep ?_⟩
      cases o2 with
      | nx e3 => exact fun σ4 H4 Ws4 re4 t4 kh4 => ⟨e3, Ws4, re4, t01.trans t4, kh'.trans kh4, h'⟩
      | ct e3 => exact fun σ4 H4 Ws4 re4 t4 kh4 => ⟨e3, Ws4, re4, t01.trans t4, kh'.trans kh4, h'⟩
      | bk e3 =>
        cases h'
        exact fun σ4 H4 Ws4 re4 t4 kh4 => q σ4 H4 Ws4 re4 (t01.trans t4) (kh'.trans kh4)
      | rt d e3 =>
        cases h'
        exact fun v σ4 H4 Ws4 W4 r4 re4 t4 o4 kh4 => q v σ4 H4 Ws4 W4 r4 re4 (t01.trans t4) (o4.early t01 fun _ z => z) (kh'.trans kh4)
    · rename_i hx
      have hx' : x = false := by cases x; rfl; exact absurd rfl hx
      subst hx'
      rw [if_neg (by decide)]
      cases h'
      exact q σ' H1 Ws1 re1 t01 kh'⟩
end
end VL

/-! VLD: calls of the program's own defs over plain data. -/
namespace VL
open PySem PySem.Spec L2

/-! ### a def's promise -/
abbrev Fn := List D → Option (D × List D)
/-- called with ds it gives r and leaves its arguments as ds'; it changes those in mu alone -/
def spF (K : PySem.W.Frag) (np : Nat) (mu : List Nat) (F : Fn) : Sp := fun vs H Q _ => vs.length = np ∧ ∃ ds r ds' Wp, F ds = some (r, ds') ∧ REnv K H (ds.map some) (vs.map some) Wp ∧ Sep mu Wp ∧
  ∀ v H' Wp' Wr, Rep K H' r v Wr → REnv K H' (ds'.map some) (vs.map some) Wp' → Tr mu Wp Wp' H H' → Own mu [] Wp Wp' H Wr → Q v H'
structure Cal (P : Program) (w : World) (K : PySem.W.Frag) (mg : Str → Option Value) (base : Heap) (k : Nat) (x : Str) (ps : List Str) (mu : List Nat) (F : Fn) : Prop where
  ex : ∃ f fd, mg x = some (.ref f) ∧ PySem.W.keepIn K (.ref f) = true ∧ Binds K fd ps [] ∧ FnOk P w K mg base CX0 k f fd ps (spF K ps.length mu F)
theorem Cal.mono {P : Program} {w : World} {K : PySem.W.Frag} {mg : Str → Option Value} {base : Heap} {k j : Nat} {x : Str} {ps : List Str} {mu : List Nat} {F : Fn} (C : Cal P w K mg base k x ps mu F) (h : k ≤ j) : Cal P w K mg base j x ps mu F :=
  let ⟨f, fd, h1, h2, h3, h4⟩ := C.ex; ⟨f, fd, h1, h2, h3, h4.mono h⟩

/-! ### arguments: names (read when the call is made) and other expressions -/
inductive BArgs (K : PySem.W.Frag) (H : Hp) (σ : St) : List (Option Nat) → List D → List V → List Addr → Prop
  | nil : BArgs K H σ [] [] [] []
  | nm {i : Nat} {sh : List (Option Nat)} {d : D} {ds : List D} {v : V} {vs : List V} {W : List Addr} : σ[i]? = some (some v) → BArgs K H σ sh ds vs W → BArgs K H σ (some i :: sh) (d :: ds) (v :: vs) W
  | ex {sh : List (Option Nat)} {d : D} {ds : List D} {v : V} {vs : List V} {W1 W2 : List Addr} : Rep K H d v W1 → BArgs K H σ sh ds vs W2 → BArgs K H σ (none :: sh) (d :: ds) (v :: vs) (W1 ++ W2)
theorem BArgs.kp {K : PySem.W.Frag} {H H' : Hp} {σ : St} {A : Addr → Prop} (k : Kp A H H') (m : ∀ a, A a → Mt H a) : ∀ {sh ds vs W}, BArgs K H σ sh ds vs W → (∀ a ∈ W, ¬ A a) → BArgs K H' σ sh ds vs W
  | _, _, _, _, .nil, _ => .nil
  | _, _, _, _, .nm e r, n => .nm e (BArgs.kp k m r n)
  | _, _, _, _, .ex r1 r, n => .ex (Rep.kp k m _ _ _ r1 fun a ha => n a (List.mem_append_left _ ha)) (BArgs.kp k m r fun a ha => n a (List.mem_append_right _ ha))
theorem BArgs.mt {K : PySem.W.Frag} {H : Hp} {σ : St} : ∀ {sh ds vs W}, BArgs K H σ sh ds vs W → ∀ a ∈ W, Mt H a
  | _, _, _, _, .nil, _, z => nomatch z
  | _, _, _, _, .nm _ r, a, ha => BArgs.mt r a ha
  | _, _, _, _, .ex r1 r, a, ha => (List.mem_append.mp ha).elim (Rep.mt _ _ _ r1 a) (BArgs.mt r a)
def rsv : List (Option Nat) → List D → Ev → Option (List D)
  | [], [], _ => some []
  | some i :: sh, _ :: ds, env => match env[i]? with
    | some (some d) => (rsv sh ds env).bind fun r => some (d :: r)
    | _ => none
  | none :: sh, d :: ds, env => (rsv sh ds env).bind fun r => some (d :: r)
  | _, _, _ => none
def wrb : List (Nat × Nat) → List D → Ev → Ev
  | [], _, env => env
  | (k, i) :: b, ds, env => wrb b ds (env.set i (ds[k]?))
def bNm (i : Nat) (g : Ev → Option (List D × Ev)) : Ev → Option (List D × Ev) := fun env => match env[i]? with
  | some (some _) => (g env).bind fun q => some (.non :: q.1, q.2)
  | _ => none
def eCall (F : Fn) (bw : List (Nat × Nat)) (sh : List (Option Nat)) (fb : Ev → Option (List D × Ev)) : Ev → Option (D × Ev) := fun env =>
  (fb env).bind fun p => (rsv sh p.1 p.2).bind fun ds => (F ds).bind fun q => some (q.1, wrb bw q.2 p.2)

structure VB (X : Cx) (M R : List Nat) (sh : List (Option Nat)) (es : List Expr) (f : Ev → Option (List D × Ev)) : Prop where
  run : ∀ (env : Ev) (d : List D) (env' : Ev), f env = some (d, env') → ∀ (σ : St) (H : Hp) (Ws : Wm) (Q : List V → Hp → Prop), REnv X.K H env σ Ws → Sep M Ws →
    (∀ v H' Ws' W, BArgs X.K H' σ sh d v W → REnv X.K H' env' σ Ws' → Tr M Ws Ws' H H' → Own M R Ws Ws' H W → Q v H') → WA X es σ H Q
section
variable {X : Cx} {M Mb R Ra Rb : List Nat} {a b c e : Expr} {es : List Expr} {pos : Pos} {f fa fb fc : Ev → Option (D × Ev)} {fs : Ev → Option (List D × Ev)} {sh : List (Option Nat)}
theorem vb_nil : VB X M [] [] [] aNil := ⟨fun env d env' h' σ H Ws Q re sp q => by
  cases h'
  exact WA.of pa_nil (q [] H Ws [] .nil re (Tr.refl sp) Own.nil)⟩
theorem vb_ex (ha : VE X M Ra a fa) (hb : VB X Mb Rb sh es fs) (hs : ∀ i ∈ Mb, i ∈ M := by decide) (hd : ∀ i ∈ Ra, i ∉ Mb := by decide) (he : starEach (a :: es) X.env = (false, eval a X.env) :: starEach es X.env := by rfl) :
    VB X M (Ra ++ Rb) (none :: sh) (a :: es) (aCons fa fs) := ⟨fun env d env' h' σ H Ws Q re sp q => by
  unfold aCons at h'
  obtain ⟨⟨x, e1⟩, h1, h'⟩ := Option.bind_eq_some_iff.mp h'
  obtain ⟨⟨y, e2⟩, h2, h'⟩ := Option.bind_eq_some_iff.mp h'
  cases h'
  refine WA.of (pa_cons pe_we pa_wa he) (ha.run env x e1 h1 σ H Ws _ re sp fun v H1 Ws1 W1 r1 re1 t1 o1 => ?_)
  have sp1 := t1.sep.mono hs
  refine hb.run e1 y _ h2 σ H1 Ws1 _ re1 sp1 fun u H2 Ws2 W2 r2 re2 t2 o2 => ?_
  have ne1 : ∀ a ∈ W1, H1 a ≠ none := fun a ha => (Rep.mt _ _ _ r1 a ha).some
  refine q (v :: u) H2 Ws2 (W1 ++ W2) (.ex (o1.stay r1 re1 t2 sp1 hd) r2) re2 (t1.trans (t2.weaken hs t1.sep re1.ne)) (Own.both (o1.later ne1 t2 sp1 hd) (o2.early t1 hs) fun e => ?_)
  obtain ⟨ea, eb⟩ := List.append_eq_nil_iff.mp e
  subst ea; subst eb
  exact o1.apart ne1 o2⟩
theorem vb_nm (i : Nat) {x : Str} {npos : Pos} (hb : VB X M Rb sh es fs) (hN : X.N[i]? = some x := by rfl) (hv : Vis X.env.scope x := by first | exact Or.inl rfl | exact Or.inr (Or.inl rfl) | exact Or.inr (Or.inr rfl)) (hd : (x == ("__debug__" : Str)) = false := by decide)
    (hcd : (x == ("__classdict__" : Str)) = false := by decide) (he : starEach (.Name x npos :: es) X.env = (false, eval (.Name x npos) X.env) :: starEach es X.env := by rfl) :
    VB X M Rb (some i :: sh) (.Name x npos :: es) (bNm i fs) := ⟨fun env d env' h' σ H Ws Q re sp q => by
  unfold bNm at h'
  split at h'
  · rename_i d' hd'
    obtain ⟨⟨y, e2⟩, h2, h'⟩ := Option.bind_eq_some_iff.mp h'
    cases h'
    obtain ⟨v, e1, r⟩ := re.at' i d' hd'
    refine WA.of (pa_cons (pe_var hN hv hd hcd) pa_wa he) ⟨v, e1, ?_⟩
    exact hb.run env y _ h2 σ H Ws _ re sp fun u H2 Ws2 W2 r2 re2 t2 o2 => q (v :: u) H2 Ws2 W2 (.nm e1 r2) re2 t2 o2
  · cases h'⟩

/-! ### the arguments as a def's environment -/
theorem BArgs.renv {K : PySem.W.Frag} {H : Hp} {σ : St} {env : Ev} {Ws : Wm} (re : REnv K H env σ Ws) : ∀ {sh ds vs W xs}, BArgs K H σ sh ds vs W → rsv sh ds env = some xs →
    xs.length = vs.length ∧ sh.length = vs.length ∧ ∃ Wp, REnv K H (xs.map some) (vs.map some) Wp ∧ (∀ k i, sh[k]? = some (some i) → Wp k = Ws i ∧ vs[k]?.map some = σ[i]?) ∧ (∀ k, sh[k]? = some none → ∀ a ∈ Wp k, a ∈ W)
  | _, _, _, _, xs, .nil, h => by
    cases h
    exact ⟨rfl, rfl, fun _ => [], ⟨rfl, fun i d e => by simp at e, fun _ _ => rfl⟩, fun k i e => by simp at e, fun k e => by simp at e⟩
  | _, _, _, _, xs, @BArgs.nm _ _ _ i sh d ds v vs W e r, h => by
    unfold rsv at h
    split at h
    · rename_i d' hd'
      obtain ⟨ys, h1, h2⟩ := Option.bind_eq_some_iff.mp h
      cases h2
      obtain ⟨l1, l2, Wp, q, qn, qx⟩ := BArgs.renv re r h1
      obtain ⟨v', e', rv⟩ := re.at' i d' hd'
      rw [e] at e'
      cases e'
      refine ⟨by simp [l1], by simp [l2], fun k => if k = 0 then Ws i else Wp (k - 1), ⟨by simp [l1], fun k x ek => ?_, fun k hk => ?_⟩, fun k j ek => ?_, fun k ek => ?_⟩
      · cases k with
        | zero =>
          have ek' : d' = x := by simpa using ek
          subst ek'
          exact ⟨v, by simp, by simpa using rv⟩
        | succ k =>
          obtain ⟨v2, e2, r2⟩ := q.at' k x (by simpa using ek)
          exact ⟨v2, by simpa using e2, by simpa using r2⟩
      · cases k with
        | zero => exact absurd rfl (hk d')
        | succ k =>
          show Wp (k + 1 - 1) = []
          exact q.non k fun d e => hk d (by simpa using e)
      · cases k with
        | zero =>
          have ek' : i = j := by simpa using ek
          subst ek'
          exact ⟨rfl, by simp [e]⟩
        | succ k => simpa using qn k j (by simpa using ek)
      · cases k with
        | zero => simp at ek
        | succ k => simpa using qx k (by simpa using ek)
    · cases h
  | _, _, _, _, xs, @BArgs.ex _ _ _ sh d ds v vs W1 W2 r1 r, h => by
    unfold rsv at h
    obtain ⟨ys, h1, h2⟩ := Option.bind_eq_some_iff.mp h
    cases h2
    obtain ⟨l1, l2, Wp, q, qn, qx⟩ := BArgs.renv re r h1
    refine ⟨by simp [l1], by simp [l2], fun k => if k = 0 then W1 else Wp (k - 1), ⟨by simp [l1], fun k x ek => ?_, fun k hk => ?_⟩, fun k j ek => ?_, fun k ek a ha => ?_⟩
    · cases k with
      | zero =>
        have ek' : d = x := by simpa using ek
        subst ek'
        exact ⟨v, by simp, by simpa using r1⟩
      | succ k =>
        obtain ⟨v2, e2, r2⟩ := q.at' k x (by simpa using ek)
        exact ⟨v2, by simpa using e2, by simpa using r2⟩
    · cases k with
      | zero => exact absurd rfl (hk d)
      | succ k =>
        show Wp (k + 1 - 1) = []
        exact q.non k fun d e => hk d (by simpa using e)
    · cases k with
      | zero => simp at ek
      | succ k => simpa using qn k j (by simpa using ek)
    · cases k with
      | zero => exact List.mem_append_left _ (by simpa using ha)
      | succ k => exact List.mem_append_right _ (qx k (by simpa using ek) a (by simpa using ha))

theorem wrb_len {ds : List D} : ∀ {bw : List (Nat × Nat)} {env : Ev}, (wrb bw ds env).length = env.length
  | [], _ => rfl
  | (k, i) :: b, env => by unfold wrb; rw [wrb_len, List.length_set]
theorem wrb_out {ds : List D} {j : Nat} : ∀ {bw : List (Nat × Nat)} {env : Ev}, j ∉ bw.map (·.2) → (wrb bw ds env)[j]? = env[j]?
  | [], _, _ => rfl
  | (k, i) :: b, env, h => by
    unfold wrb
    simp only [List.map_cons, List.mem_cons, not_or] at h
    rw [wrb_out h.2, List.getElem?_set_ne (Ne.symm h.1)]
theorem wrb_in {ds : List D} {j k : Nat} : ∀ {bw : List (Nat × Nat)} {env : Ev}, (bw.map (·.2)).Nodup → (k, j) ∈ bw → j < env.length → (wrb bw ds env)[j]? = some (ds[k]?)
  | [], _, _, h, _ => nomatch h
  | (k', i) :: b, env, n, h, hj => by
    unfold wrb
    obtain ⟨n1, n2⟩ := List.nodup_cons.mp n
    rcases List.mem_cons.mp h with e | h
    · cases e
      rw [wrb_out n1, List.getElem?_set_self hj]
    · exact wrb_in n2 h (by rw [List.length_set]; exact hj)
/-- what the static part of a call asks -/
structure CallOk (M R : List Nat) (mu : List Nat) (bw : List (Nat × Nat)) (sh : List (Option Nat)) : Prop where
  nd : (bw.map (·.2)).Nodup
  at' : ∀ p ∈ bw, sh[p.1]? = some (some p.2)
  inM : ∀ p ∈ bw, p.2 ∈ M
  mu1 : ∀ k ∈ mu, ∃ i, (k, i) ∈ bw
  mu2 : ∀ p ∈ bw, p.1 ∈ mu
  off : ∀ p ∈ bw, p.2 ∉ R
  once : ∀ p ∈ bw, ∀ k i, sh[k]? = some (some i) → i = p.2 → k = p.1
def callOk (M R : List Nat) (mu : List Nat) (bw : List (Nat × Nat)) (sh : List (Option Nat)) : Bool :=
  decide ((bw.map (·.2)).Nodup) && bw.all (fun p => decide (sh[p.1]? = some (some p.2)) && decide (p.2 ∈ M) && decide (p.1 ∈ mu) && decide (p.2 ∉ R) && (List.range sh.length).all fun k => decide (sh[k]? = some (some p.2) → k = p.1)) &&
    mu.all fun k => decide (k ∈ bw.map (·.1))
theorem callOk_by {M R : List Nat} {mu : List Nat} {bw : List (Nat × Nat)} {sh : List (Option Nat)} (h : callOk M R mu bw sh = true) : CallOk M R mu bw sh := by
  unfold callOk at h
  simp only [Bool.and_eq_true, List.all_eq_true, decide_eq_true_eq] at h
  obtain ⟨⟨h1, h2⟩, h3⟩ := h
  refine ⟨h1, fun p hp => (h2 p hp).1.1.1.1, fun p hp => (h2 p hp).1.1.1.2, fun k hk => ?_, fun p hp => (h2 p hp).1.1.2, fun p hp => (h2 p hp).1.2, fun p hp k i e ei => ?_⟩
  · obtain ⟨p, hp, e⟩ := List.mem_map.mp (h3 k hk)
    exact ⟨p.2, by rw [← e]; exact hp⟩
  · subst ei
    exact (h2 p hp).2 k (List.mem_range.mpr (List.getElem?_eq_some_iff.mp e).1) e
theorem ve_call {kk : Nat} {x : Str} {ps : List Str} {mu : List Nat} {F : Fn} {p : Pos} (C : Cal X.prog X.w X.K X.mg X.base kk x ps mu F) (hr : Room kk X.A) (bw : List (Nat × Nat)) (hB : VB X M R sh (e :: es) fs) (ok : callOk M R mu bw sh = true := by decide) (hl : sh.length = ps.length := by rfl)
    (hg : Gl X x := by rfl) (hdb : (x == ("__debug__" : Str)) = false := by decide) (he : starEach (e :: es) X.env = (false, eval e X.env) :: starEach es X.env := by rfl) (hpl : (backTo pos (starEach es X.env)).any (·.1) = false := by rfl) :
    VE X M [] (.Call (.Name x p) (e :: es) [] pos) (eCall F bw sh fs) := ⟨fun env d env' h' σ H Ws Q re sp q => by
  unfold eCall at h'
  obtain ⟨⟨y, e1⟩, h1, h'⟩ := Option.bind_eq_some_iff.mp h'
  obtain ⟨xs, h2, h'⟩ := Option.bind_eq_some_iff.mp h'
  obtain ⟨⟨r, xs'⟩, h3, h'⟩ := Option.bind_eq_some_iff.mp h'
  cases h'
  have O := callOk_by ok
  obtain ⟨f, fd, hm, hk, hb, G⟩ := C.ex
  refine WE.of (pe_call (sp := spF X.K ps.length mu F) G hr hg hm hk hb .nil pass0 pa_wa hdb he hpl) (hB.run env y e1 h1 σ H Ws _ re sp fun v H1 Ws1 W1 r1 re1 t1 o1 => ?_)
  obtain ⟨l1, l2, Wp, rp, pn, px⟩ := BArgs.renv re1 r1 h2
  have sp1 := t1.sep
  have own1 : ∀ a ∈ W1, ∀ p ∈ bw, a ∉ Ws1 p.2 := fun a ha p hp z => by
    rcases o1.at' a ha with ⟨_, n⟩ | ⟨i, hi, q⟩
    · exact n _ z
    · exact (sp1 p.2 (O.inM p hp)).2 i (fun e => O.off p hp (e ▸ hi)) a z q
  have sepP : Sep mu Wp := fun k hk' => by
    obtain ⟨i, hi⟩ := O.mu1 k hk'
    have e1 := (pn k i (O.at' _ hi)).1
    rw [e1]
    refine ⟨(sp1 i (O.inM _ hi)).1, fun j hj a ha => ?_⟩
    by_cases hjl : j < sh.length
    · cases hs : sh[j]? with
      | none => exact absurd (List.getElem?_eq_none_iff.mp hs) (by omega)
      | some o =>
        cases o with
        | none => exact fun z => own1 a (px j hs a z) _ hi ha
        | some i' =>
          rw [(pn j i' hs).1]
          exact (sp1 i (O.inM _ hi)).2 i' (fun e => hj (O.once _ hi j i' hs e)) a ha
    · rw [rp.non j fun d e => ?_]
      · exact fun z => nomatch z
      · have := (List.getElem?_eq_some_iff.mp e).1
        rw [List.length_map, l1, ← l2] at this
        omega
  refine ⟨by rw [List.append_nil, ← l2, hl], xs, _, xs', Wp, h3, by rw [List.append_nil]; exact rp, sepP, fun u H2 Wp' Wr rr rp' tp op => ?_⟩
  rw [List.append_nil] at rp'
  have bwM : ∀ a, InM mu Wp a → InM (bw.map (·.2)) Ws1 a := fun a ⟨k, hk', ha⟩ => by
    obtain ⟨i, hi⟩ := O.mu1 k hk'
    rw [(pn k i (O.at' _ hi)).1] at ha
    exact ⟨i, List.mem_map.mpr ⟨_, hi, rfl⟩, ha⟩
  have hbM : ∀ i ∈ bw.map (·.2), i ∈ M := fun i hi => by
    obtain ⟨p, hp, e⟩ := List.mem_map.mp hi
    rw [← e]; exact O.inM p hp
  have bwM' : ∀ a, InM mu Wp a → InM M Ws1 a := fun a h => (bwM a h).mono hbM
  -- the slots behind the call
  let Ws2 : Wm := fun j => match bw.find? (fun p => p.2 == j) with
    | some p => Wp' p.1
    | none => Ws1 j
  have w2in : ∀ p ∈ bw, Ws2 p.2 = Wp' p.1 := fun p hp => by
    have : bw.find? (fun q => q.2 == p.2) = some p := by
      have ex : (bw.find? (fun q => q.2 == p.2)).isSome = true := List.find?_isSome.mpr ⟨p, hp, by simp⟩
      obtain ⟨q, hq⟩ := Option.isSome_iff_exists.mp ex
      have e1 : q.2 = p.2 := by simpa using List.find?_some hq
      have hq' := List.mem_of_find?_eq_some hq
      have e2 := O.once p hp q.1 q.2 (O.at' q hq') e1
      rw [hq]
      congr 1
      exact Prod.ext e2 e1
    show (match bw.find? (fun q => q.2 == p.2) with | some p => Wp' p.1 | none => Ws1 p.2) = _
    rw [this]
  have w2out : ∀ j, j ∉ bw.map (·.2) → Ws2 j = Ws1 j := fun j hj => by
    have : bw.find? (fun q => q.2 == j) = none := List.find?_eq_none.mpr fun q hq e => hj (List.mem_map.mpr ⟨q, hq, by simpa using e⟩)
    show (match bw.find? (fun q => q.2 == j) with | some p => Wp' p.1 | none => Ws1 j) = _
    rw [this]
  have inb : ∀ j, j ∈ bw.map (·.2) → ∃ p ∈ bw, p.2 = j := fun j hj => List.mem_map.mp hj
  have lenx' : xs'.length = xs.length := by
    have e1 := rp'.len
    have e2 := rp.len
    rw [List.length_map, List.length_map] at e1 e2
    omega
  have keep1 : ∀ j, j ∉ bw.map (·.2) → ∀ a ∈ Ws1 j, ¬ InM mu Wp a := fun j hj a ha h => by
    obtain ⟨i, hi, z⟩ := bwM a h
    obtain ⟨p, hp, e⟩ := inb i hi
    exact (sp1 i (hbM i hi)).2 j (fun e => hj (e ▸ hi)) a z ha
  have re2 : REnv X.K H2 (wrb bw xs' e1) σ Ws2 := by
    refine ⟨by rw [wrb_len]; exact re1.len, fun j dj ej => ?_, fun j hj => ?_⟩
    · by_cases hb' : j ∈ bw.map (·.2)
      · obtain ⟨⟨k, i⟩, hp, rfl⟩ := inb j hb'
        have hjl : i < e1.length := by
          have := (List.getElem?_eq_some_iff.mp ej).1
          rwa [wrb_len] at this
        rw [wrb_in O.nd hp hjl] at ej
        have ek : xs'[k]? = some dj := Option.some.inj ej
        obtain ⟨v2, e2, r2⟩ := rp'.at' k dj (by rw [List.getElem?_map, ek]; rfl)
        refine ⟨v2, ?_, by rw [w2in _ hp]; exact r2⟩
        have e3 := (pn k i (O.at' _ hp)).2
        rw [List.getElem?_map] at e2
        exact (e3.symm.trans e2)
      · rw [wrb_out hb'] at ej
        obtain ⟨v2, e2, r2⟩ := re1.at' j dj ej
        refine ⟨v2, e2, ?_⟩
        rw [w2out j hb']
        exact Rep.kp tp.keep (fun a ⟨k, _, ha⟩ => rp.mt k a ha) _ _ _ r2 (keep1 j hb')
    · by_cases hb' : j ∈ bw.map (·.2)
      · obtain ⟨⟨k, i⟩, hp, rfl⟩ := inb j hb'
        rw [w2in _ hp]
        refine rp'.non k fun dk ek => ?_
        by_cases hjl : i < e1.length
        · refine hj dk ?_
          rw [wrb_in O.nd hp hjl]
          rw [List.getElem?_map] at ek
          cases hx : xs'[k]? with
          | none => rw [hx] at ek; cases ek
          | some dd => rw [hx] at ek; cases ek; rfl
        · have e3 := (pn k i (O.at' _ hp)).2
          have hlk : k < v.length := by
            have := (List.getElem?_eq_some_iff.mp (O.at' _ hp)).1
            show k < v.length
            rw [← l2]; exact this
          rw [List.getElem?_eq_getElem hlk] at e3
          have := (List.getElem?_eq_some_iff.mp e3.symm).1
          rw [re1.len] at this
          exact absurd this hjl
      · rw [w2out j hb']
        refine re1.non j fun dj ej => hj dj ?_
        rw [wrb_out hb']; exact ej
  have t2 : Tr M Ws1 Ws2 H1 H2 := by
    refine ⟨fun a o ho n => tp.keep a o ho fun z => n (bwM' a z), fun i hi => w2out i fun z => hi (hbM i z), fun i hi a ha => ?_, fun i hi => ?_⟩
    · by_cases hb' : i ∈ bw.map (·.2)
      · obtain ⟨p, hp, rfl⟩ := inb i hb'
        rw [w2in _ hp] at ha
        exact (tp.sub p.1 (O.mu2 p hp) a ha).imp (bwM' a) id
      · rw [w2out i hb'] at ha
        exact .inl ⟨i, hi, ha⟩
    · by_cases hb' : i ∈ bw.map (·.2)
      · obtain ⟨p, hp, rfl⟩ := inb i hb'
        rw [w2in _ hp]
        refine ⟨(tp.sep p.1 (O.mu2 p hp)).1, fun j hj a ha => ?_⟩
        by_cases hb2 : j ∈ bw.map (·.2)
        · obtain ⟨p2, hp2, rfl⟩ := inb j hb2
          rw [w2in _ hp2]
          refine (tp.sep p.1 (O.mu2 p hp)).2 p2.1 (fun e => hj ?_) a ha
          have h1 := O.at' p hp
          have h2 := O.at' p2 hp2
          rw [e] at h2
          rw [h1] at h2
          exact (Option.some.inj (Option.some.inj h2)).symm
        · rw [w2out j hb2]
          intro z
          rcases tp.sub p.1 (O.mu2 p hp) a ha with y | y
          · exact keep1 j hb2 a z y
          · exact re1.ne j a z y
      · rw [w2out i hb']
        refine ⟨(sp1 i hi).1, fun j hj a ha => ?_⟩
        by_cases hb2 : j ∈ bw.map (·.2)
        · obtain ⟨p2, hp2, rfl⟩ := inb j hb2
          rw [w2in _ hp2]
          intro z
          rcases tp.sub p2.1 (O.mu2 p2 hp2) a z with y | y
          · exact keep1 i hb' a ha y
          · exact re1.ne i a ha y
        · rw [w2out j hb2]
          exact (sp1 i hi).2 j hj a ha
  refine q u H2 Ws2 Wr rr re2 (t1.trans t2) (Own.early (M2 := M) t1 ⟨fun a ha => ?_, fun e => op.nd e⟩ fun _ z => z)
  rcases op.at' a ha with ⟨z, n⟩ | ⟨i, hi, _⟩
  · refine .inl ⟨z.imp (bwM' a) id, fun j hj => ?_⟩
    by_cases hb' : j ∈ bw.map (·.2)
    · obtain ⟨p, hp, rfl⟩ := inb j hb'
      rw [w2in _ hp] at hj
      exact n p.1 hj
    · rw [w2out j hb'] at hj
      rcases z with z | z
      · exact keep1 j hb' a hj z
      · exact re1.ne j a hj z
  · exact nomatch hi⟩
end

/-! ### a def's body -/
def fin (mu : List Nat) : Nat → List D → Ev → Option (List D)
  | _, [], _ => some []
  | k, d :: ds, env => if k ∈ mu then match env[k]? with
      | some (some d') => (fin mu (k + 1) ds env).bind fun r => some (d' :: r)
      | _ => none
    else (fin mu (k + 1) ds env).bind fun r => some (d :: r)
def lfAt (rb : List Nat) (ds : List D) : Bool := rb.all fun k => match ds[k]? with
  | some d => lf d
  | none => true
/-- the body g as a function: np parameters, n names, mu the parameters that it changes, rb those that it sets -/
def runF (np n : Nat) (mu rb : List Nat) (g : Ev → Option Out) : Fn := fun ds =>
  if ds.length = np ∧ lfAt rb ds = true then (g (ds.map some ++ List.replicate (n - np) none)).bind fun o => match o with
    | .rt d e => (if mu = [] then some ds else fin mu 0 ds e).bind fun ds' => some (d, ds')
    | .nx e => (if mu = [] then some ds else fin mu 0 ds e).bind fun ds' => some (.non, ds')
    | _ => none
  else none
theorem fin_spec {mu : List Nat} {env : Ev} : ∀ {ds : List D} {k : Nat} {r : List D}, fin mu k ds env = some r → r.length = ds.length ∧ ∀ j d', r[j]? = some d' → if k + j ∈ mu then env[k + j]? = some (some d') else ds[j]? = some d'
  | [], k, r, h => by
    cases h
    exact ⟨rfl, fun j d' e => by simp at e⟩
  | d :: ds, k, r, h => by
    unfold fin at h
    have go : ∀ x r', fin mu (k + 1) ds env = some r' → (if k ∈ mu then env[k]? = some (some x) else d = x) → (x :: r').length = (d :: ds).length ∧ ∀ j d', (x :: r')[j]? = some d' → if k + j ∈ mu then env[k + j]? = some (some d') else (d :: ds)[j]? = some d' := by
      intro x r' h1 hx
      obtain ⟨l, q⟩ := fin_spec h1
      refine ⟨by simp [l], fun j d' e => ?_⟩
      cases j with
      | zero =>
        have e' : x = d' := by simpa using e
        subst e'
        show if k ∈ mu then _ else _
        by_cases z : k ∈ mu
        · rw [if_pos z] at hx ⊢; exact hx
        · rw [if_neg z] at hx ⊢; rw [hx]; rfl
      | succ j =>
        have := q j d' (by simpa using e)
        have e2 : k + 1 + j = k + (j + 1) := by omega
        rw [e2] at this
        simpa using this
    split at h
    · rename_i hk
      split at h
      · rename_i d' hd
        obtain ⟨r', h1, h2⟩ := Option.bind_eq_some_iff.mp h
        cases h2
        exact go d' r' h1 (by rw [if_pos hk]; exact hd)
      · cases h
    · rename_i hk
      obtain ⟨r', h1, h2⟩ := Option.bind_eq_some_iff.mp h
      cases h2
      exact go d r' h1 (by rw [if_neg hk])
/-- what the static part of a body asks -/
def bodyOk (np n : Nat) (A M mu rb : List Nat) : Bool :=
  decide (np ≤ n) && M.all (fun i => decide (i < np → i ∈ mu ∨ i ∈ rb)) && mu.all (fun i => decide (i ∈ M) && decide (i ∉ A) && decide (i < np))
theorem runF_end {mu : List Nat} {ds ds' : List D} {e : Ev} (h : (if mu = [] then some ds else fin mu 0 ds e) = some ds') : ds'.length = ds.length ∧ ∀ j d', ds'[j]? = some d' → if j ∈ mu then e[j]? = some (some d') else ds[j]? = some d' := by
  split at h
  · rename_i hm
    cases h
    refine ⟨rfl, fun j d' e => ?_⟩
    rw [hm, if_neg (by simp)]
    exact e
  · obtain ⟨l, q⟩ := fin_spec h
    exact ⟨l, fun j d' e => by simpa using q j d' e⟩
section
variable {P : Program} {w : World} {K : PySem.W.Frag} {mg : Str → Option Value} {base : Heap}
theorem fnok_of {x : Str} {st : Stmt} {f : Addr} {fd : FuncData} {N ps : List Str} {k : Nat} {A M mu rb : List Nat} {g : Ev → Option Out} {F : Fn} (Fd : Fun K x x st f fd) (S : FnScope N ps (defScope st))
    (ok : bodyOk ps.length N.length A M mu rb = true) (hF : ∀ ds, F ds = runF ps.length N.length mu rb g ds)
    (hbody : ∀ (cdv : Value) (Ar : Around) (outer : List Env) (s : Shared) (H : Hp) (E : XK), Room k (Ar.deeper (PyProof.Rows.envOfC x (defScope st) s.heap.objs.size f cdv)) → VSs (cxOf CX0 P w K mg base N x (defScope st) f cdv Ar outer s H E).nox A M (defBody st) g) :
    FnOk P w K mg base CX0 (k + 1) f fd ps (spF K ps.length mu F) := by
  refine Fd.ok S (fun vs H Q E h => h.1) fun cdv Ar outer s H vs Q E hr h => ?_
  obtain ⟨hl, ds, r, ds', Wp, hrun, rp, sp, q⟩ := h
  rw [hF] at hrun
  unfold bodyOk at ok
  simp only [Bool.and_eq_true, List.all_eq_true, decide_eq_true_eq] at ok
  obtain ⟨⟨ok1, ok2⟩, ok3⟩ := ok
  unfold runF at hrun
  split at hrun
  rotate_left
  · cases hrun
  rename_i hc
  obtain ⟨hdl, hlf⟩ := hc
  obtain ⟨o, ho, hrun⟩ := Option.bind_eq_some_iff.mp hrun
  -- the environment at the entry
  have elen : (L2.start N vs).length = N.length := by
    unfold L2.start
    rw [List.length_append, List.length_map, List.length_replicate]
    omega
  have re : REnv K H (ds.map some ++ List.replicate (N.length - ps.length) none) (L2.start N vs) Wp := by
    refine ⟨?_, fun i d e => ?_, fun i hi => ?_⟩
    · rw [elen, List.length_append, List.length_map, List.length_replicate]
      omega
    · by_cases hi : i < ds.length
      · rw [List.getElem?_append_left (by simpa using hi)] at e
        obtain ⟨v, e1, q1⟩ := rp.at' i d e
        refine ⟨v, ?_, q1⟩
        unfold L2.start
        rw [List.getElem?_append_left (by rw [List.length_map]; omega)]
        exact e1
      · rw [List.getElem?_append_right (by simpa using Nat.le_of_not_lt hi)] at e
        have := List.mem_of_getElem? e
        have := (List.mem_replicate.mp this).2
        cases this
    · refine rp.non i fun d e => hi d ?_
      have hi' := (List.getElem?_eq_some_iff.mp e).1
      rw [List.getElem?_append_left hi']
      exact e
  have wEmp : ∀ i ∈ M, i ∉ mu → Wp i = [] := fun i hi hn => by
    by_cases hp : i < ps.length
    · have hrb : i ∈ rb := (ok2 i hi hp).resolve_left hn
      have hil : i < ds.length := by omega
      have hd : ds[i]? = some ds[i] := List.getElem?_eq_getElem hil
      have hlf' := List.all_eq_true.mp hlf i hrb
      rw [hd] at hlf'
      obtain ⟨v, _, q1⟩ := rp.at' i ds[i] (by rw [List.getElem?_map, hd]; rfl)
      exact Rep.lfW _ _ _ q1 hlf'
    · refine rp.non i fun d e => ?_
      have := (List.getElem?_eq_some_iff.mp e).1
      rw [List.length_map] at this
      omega
  have spM : Sep M Wp := fun i hi => by
    by_cases hn : i ∈ mu
    · exact sp i hn
    · rw [wEmp i hi hn]
      exact ⟨.nil, fun j _ a ha => nomatch ha⟩
  have muM : ∀ i ∈ mu, i ∈ M := fun i hi => (ok3 i hi).1.1
  have inmu : ∀ a, InM M Wp a → InM mu Wp a := fun a ⟨j, hj, ha⟩ => by
    by_cases hn : j ∈ mu
    · exact ⟨j, hn, ha⟩
    · rw [wEmp j hj hn] at ha; exact nomatch ha
  -- what stands at a return
  have back : ∀ (u : V) (σ' : St) (H' : Hp) (Ws' : Wm) (W : List Addr) (d : D) (e : Ev) (ds' : List D), (if mu = [] then some ds else fin mu 0 ds e) = some ds' → Rep K H' d u W → REnv K H' e σ' Ws' → Tr M Wp Ws' H H' → Own M [] Wp Ws' H W → Hold A (L2.start N vs) σ' →
      (∀ v H' Wp' Wr, Rep K H' d v Wr → REnv K H' (ds'.map some) (vs.map some) Wp' → Tr mu Wp Wp' H H' → Own mu [] Wp Wp' H Wr → Q v H') → Q u H' := by
    intro u σ' H' Ws' W d e ds' hds rd re' t o kh q
    obtain ⟨l', at'⟩ := runF_end hds
    have vlen : vs.length = ds.length := by omega
    let Wp' : Wm := fun j => if j ∈ mu then Ws' j else Wp j
    have w1 : ∀ j, j ∈ mu → Wp' j = Ws' j := fun j h => if_pos h
    have w2 : ∀ j, j ∉ mu → Wp' j = Wp j := fun j h => if_neg h
    have offW : ∀ j, j ∉ mu → ∀ a ∈ Wp j, ¬ InM M Wp a := fun j hj a ha h => by
      obtain ⟨i, hi, z⟩ := inmu a h
      exact (sp i hi).2 j (fun e => hj (e ▸ hi)) a z ha
    have t' : Tr mu Wp Wp' H H' := by
      refine ⟨fun a o ho n => t.keep a o ho fun z => n (inmu a z), fun i hi => w2 i hi, fun i hi a ha => ?_, fun i hi => ?_⟩
      · rw [w1 i hi] at ha
        exact (t.sub i (muM i hi) a ha).imp (inmu a) id
      · rw [w1 i hi]
        refine ⟨(t.sep i (muM i hi)).1, fun j hj a ha => ?_⟩
        by_cases hn : j ∈ mu
        · rw [w1 j hn]
          exact (t.sep i (muM i hi)).2 j hj a ha
        · rw [w2 j hn]
          intro z
          rcases t.sub i (muM i hi) a ha with y | y
          · exact offW j hn a z y
          · exact rp.ne j a z y
    refine q u H' Wp' W rd ⟨by rw [List.length_map, List.length_map]; omega, fun j dj ej => ?_, fun j hj => ?_⟩ t' ⟨fun a ha => ?_, fun e => o.nd e⟩
    · have ej' : ds'[j]? = some dj := by
        rw [List.getElem?_map] at ej
        cases hx : ds'[j]? with
        | none => rw [hx] at ej; cases ej
        | some y => rw [hx] at ej; cases ej; rfl
      have hjl : j < vs.length := by
        have := (List.getElem?_eq_some_iff.mp ej').1
        omega
      have hv : (vs.map some)[j]? = some (some vs[j]) := by rw [List.getElem?_map, List.getElem?_eq_getElem hjl]; rfl
      have hq := at' j dj ej'
      by_cases hn : j ∈ mu
      · rw [if_pos hn] at hq
        obtain ⟨v2, e2, r2⟩ := re'.at' j dj hq
        have e3 := kh j (ok3 j hn).1.2
        have e4 : (L2.start N vs)[j]? = some (some vs[j]) := by
          unfold L2.start
          rw [List.getElem?_append_left (by rw [List.length_map]; exact hjl)]
          exact hv
        rw [e4] at e3
        rw [e3] at e2
        cases e2
        exact ⟨_, hv, by rw [w1 j hn]; exact r2⟩
      · rw [if_neg hn] at hq
        obtain ⟨v2, e2, r2⟩ := rp.at' j dj (by rw [List.getElem?_map, hq]; rfl)
        exact ⟨v2, e2, by rw [w2 j hn]; exact Rep.kp t.keep (fun a ⟨k, _, ha⟩ => rp.mt k a ha) _ _ _ r2 (offW j hn)⟩
    · have hjl : ¬ j < ds.length := fun h => by
        have h2 : j < ds'.length := by omega
        exact hj ds'[j] (by rw [List.getElem?_map, List.getElem?_eq_getElem h2]; rfl)
      have hn : j ∉ mu := fun h => hjl (by have := (ok3 j h).2; omega)
      rw [w2 j hn]
      refine rp.non j fun d e => ?_
      have := (List.getElem?_eq_some_iff.mp e).1
      rw [List.length_map] at this
      exact hjl this
    · rcases o.at' a ha with ⟨z, n⟩ | ⟨i, hi, _⟩
      · refine .inl ⟨z.imp (inmu a) id, fun j hj => ?_⟩
        by_cases hn : j ∈ mu
        · rw [w1 j hn] at hj; exact n j hj
        · rw [w2 j hn] at hj
          rcases z with z | z
          · exact offW j hn a hj z
          · exact rp.ne j a hj z
      · exact nomatch hi
  refine ⟨_, pss_wss, (hbody cdv Ar outer s H E hr).run _ o ho (L2.start N vs) H Wp _ re spM ?_⟩
  cases o with
  | nx e =>
    obtain ⟨ds2, h1, h2⟩ := Option.bind_eq_some_iff.mp hrun
    cases h2
    exact fun σ' H' Ws' re' t kh => back .non σ' H' Ws' [] .non e _ h1 .non re' t Own.nil kh q
  | rt d e =>
    obtain ⟨ds2, h1, h2⟩ := Option.bind_eq_some_iff.mp hrun
    cases h2
    exact fun v σ' H' Ws' W r re' t o kh => back v σ' H' Ws' W _ e _ h1 r re' t o kh q
  | bk e => cases hrun
  | ct e => cases hrun
theorem cal_of {x : Str} {st : Stmt} {f : Addr} {fd : FuncData} {N ps : List Str} {k : Nat} {A M mu rb : List Nat} {g : Ev → Option Out} {F : Fn} (Fd : Fun K x x st f fd) (S : FnScope N ps (defScope st)) (hm : mg x = some (.ref f)) (hb : Binds K fd ps [])
    (ok : bodyOk ps.length N.length A M mu rb = true) (hF : ∀ ds, F ds = runF ps.length N.length mu rb g ds)
    (hbody : ∀ (cdv : Value) (Ar : Around) (outer : List Env) (s : Shared) (H : Hp) (E : XK), Room k (Ar.deeper (PyProof.Rows.envOfC x (defScope st) s.heap.objs.size f cdv)) → VSs (cxOf CX0 P w K mg base N x (defScope st) f cdv Ar outer s H E).nox A M (defBody st) g) :
    Cal P w K mg base (k + 1) x ps mu F := ⟨f, fd, hm, Fd.kp, hb, fnok_of Fd S ok hF hbody⟩

end
end VL

/-! VLE: list comprehensions over plain data. -/
namespace VL
open PySem PySem.Spec L2

def wipeE (e : Ev) : List Nat → Ev
  | [] => e
  | v :: vs => (wipeE e vs).set v none
def restE (e eb : Ev) : List Nat → Ev
  | [] => eb
  | v :: vs => (restE e eb vs).set v (e[v]?.join)
theorem wipeE_len {e : Ev} : ∀ {vs : List Nat}, (wipeE e vs).length = e.length
  | [] => rfl
  | v :: vs => by unfold wipeE; rw [List.length_set, wipeE_len]
theorem restE_len {e eb : Ev} : ∀ {vs : List Nat}, (restE e eb vs).length = eb.length
  | [] => rfl
  | v :: vs => by unfold restE; rw [List.length_set, restE_len]
theorem wipeE_out {e : Ev} {i : Nat} : ∀ {vs : List Nat}, i ∉ vs → (wipeE e vs)[i]? = e[i]?
  | [], _ => rfl
  | v :: vs, h => by
    simp only [List.mem_cons, not_or] at h
    unfold wipeE
    rw [List.getElem?_set_ne (Ne.symm h.1), wipeE_out h.2]
theorem wipeE_in {e : Ev} {i : Nat} : ∀ {vs : List Nat}, i ∈ vs → i < e.length → (wipeE e vs)[i]? = some none
  | v :: vs, h, hl => by
    unfold wipeE
    by_cases hv : v = i
    · subst hv
      rw [List.getElem?_set_self (by rw [wipeE_len]; exact hl)]
    · rw [List.getElem?_set_ne hv]
      exact wipeE_in ((List.mem_cons.mp h).resolve_left (Ne.symm hv)) hl
theorem restE_out {e eb : Ev} {i : Nat} : ∀ {vs : List Nat}, i ∉ vs → (restE e eb vs)[i]? = eb[i]?
  | [], _ => rfl
  | v :: vs, h => by
    simp only [List.mem_cons, not_or] at h
    unfold restE
    rw [List.getElem?_set_ne (Ne.symm h.1), restE_out h.2]
theorem restE_in {e eb : Ev} {i : Nat} : ∀ {vs : List Nat}, i ∈ vs → i < eb.length → (restE e eb vs)[i]? = some (e[i]?.join)
  | v :: vs, h, hl => by
    unfold restE
    by_cases hv : v = i
    · subst hv
      rw [List.getElem?_set_self (by rw [restE_len]; exact hl)]
    · rw [List.getElem?_set_ne hv]
      exact restE_in ((List.mem_cons.mp h).resolve_left (Ne.symm hv)) hl
theorem wipe_in {σ : L2.St} {i : Nat} : ∀ {vs : List Nat}, i ∈ vs → i < σ.length → (wipe σ vs)[i]? = some none
  | v :: vs, h, hl => by
    unfold wipe
    by_cases hv : v = i
    · subst hv
      rw [List.getElem?_set_self (by rw [wipe_length]; exact hl)]
    · rw [List.getElem?_set_ne hv]
      exact wipe_in ((List.mem_cons.mp h).resolve_left (Ne.symm hv)) hl
theorem wipe_eq {σ σ2 : L2.St} {vs T : List Nat} (hl : σ2.length = σ.length) (h : Hold T (wipe σ vs) σ2) (hT : ∀ i ∈ T, i ∈ vs) : wipe σ2 vs = wipe σ vs := by
  refine List.ext_getElem? fun i => ?_
  by_cases hi : i ∈ vs
  · by_cases hlt : i < σ.length
    · rw [wipe_in hi hlt, wipe_in hi (by omega)]
    · rw [List.getElem?_eq_none (by rw [wipe_length]; omega), List.getElem?_eq_none (by rw [wipe_length]; omega)]
  · rw [wipe_out hi, h i fun z => hi (hT i z)]
def blkW (Ws : Wm) (ow : List Nat) : Wm := fun j => if j ∈ ow then [] else Ws j
theorem REnv.wipe {K : PySem.W.Frag} {H : Hp} {e : Ev} {σ : L2.St} {Ws : Wm} (re : REnv K H e σ Ws) (ow : List Nat) : REnv K H (wipeE e ow) (L2.wipe σ ow) (blkW Ws ow) where
  len := by rw [wipe_length, wipeE_len]; exact re.len
  at' := fun i d h => by
    by_cases hi : i ∈ ow
    · have hl := (List.getElem?_eq_some_iff.mp h).1
      rw [wipeE_len] at hl
      rw [wipeE_in hi hl] at h
      cases h
    · rw [wipeE_out hi] at h
      obtain ⟨v, e1, r⟩ := re.at' i d h
      exact ⟨v, by rw [wipe_out hi]; exact e1, by show Rep K H d v (if i ∈ ow then [] else Ws i); rw [if_neg hi]; exact r⟩
  non := fun i h => by
    show (if i ∈ ow then [] else Ws i) = []
    by_cases hi : i ∈ ow
    · rw [if_pos hi]
    · rw [if_neg hi]
      exact re.non i fun d e => h d (by rw [wipeE_out hi]; exact e)

/-! what a comprehension computes -/
def tY : Ev → Option (Bool × Ev) := fun env => some (true, env)
def lcL (ow : List Nat) (t : Tg) (tt : Ev → Option (Bool × Ev)) (fe : Ev → Option (D × Ev)) : List D → Ev → Option (List D × Ev)
  | [], e => some ([], e)
  | d :: ds, e => (t d (wipeE e ow)).bind fun e1 => (tt e1).bind fun p => if p.1 = true then (fe p.2).bind fun q => (lcL ow t tt fe ds (restE e q.2 ow)).bind fun r => some (q.1 :: r.1, r.2)
      else lcL ow t tt fe ds (restE e p.2 ow)
def eLc (ow : List Nat) (fi : Ev → Option (List D × Ev)) (t : Tg) (tt : Ev → Option (Bool × Ev)) (fe : Ev → Option (D × Ev)) : Ev → Option (D × Ev) := fun env =>
  (fi env).bind fun p => if p.1.length ≤ sizeLine then (lcL ow t tt fe p.1 p.2).bind fun q => some (.lst q.1, q.2) else none

/-- the context of a comprehension's block -/
abbrev Bk (X : Cx) (scope : Scope) (s : Shared) (H : Hp) (C : Addr) (cl : List (Str × Addr)) (fp : List Addr) : Cx := X.blk s H scope (compEnvC scope cl C X.env) fp
def WEb (X : Cx) (scope : Scope) (e : Expr) : TE := fun σ H Q => ∀ s0 H0 C cl fp, WE (Bk X scope s0 H0 C cl fp) e σ H Q
def WGb (X : Cx) (scope : Scope) (e : Expr) : TG := fun v σ H Q => ∀ s0 H0 C cl fp, WG (Bk X scope s0 H0 C cl fp) e v σ H Q
def WTs (X : Cx) (ifs : List Expr) : TT := fun σ H Q => ∃ t, PTs X ifs t ∧ t σ H Q
theorem pts_w {X : Cx} {ifs : List Expr} : PTs X ifs (WTs X ifs) := ⟨fun pins s σ H Q I ⟨t, h, q⟩ => h.run pins s σ H Q I q⟩
def WTsb (X : Cx) (scope : Scope) (ifs : List Expr) : TT := fun σ H Q => ∀ s0 H0 C cl fp, WTs (Bk X scope s0 H0 C cl fp) ifs σ H Q
structure VTs (X : Cx) (M : List Nat) (ifs : List Expr) (f : Ev → Option (Bool × Ev)) : Prop where
  run : ∀ (env : Ev) (b : Bool) (env' : Ev), f env = some (b, env') → ∀ (σ : L2.St) (H : Hp) (Ws : Wm) (Q : Bool → Hp → Prop), REnv X.K H env σ Ws → Sep M Ws →
    (∀ H' Ws', REnv X.K H' env' σ Ws' → Tr M Ws Ws' H H' → Q b H') → WTs X ifs σ H Q
theorem vts_nil {X : Cx} {M : List Nat} : VTs X M [] tY := ⟨fun env b env' h σ H Ws Q re sp q => by
  cases h
  exact ⟨_, pts_nil, q H Ws re (Tr.refl sp)⟩⟩
theorem vts_one {X : Cx} {M : List Nat} {c : Expr} {f : Ev → Option (Bool × Ev)} (h : VT X M c f) : VTs X M [c] f := ⟨fun env b env' h' σ H Ws Q re sp q =>
  ⟨_, pts_one pt_wt, h.run env b env' h' σ H Ws Q re sp q⟩⟩
theorem Took.blk {T ow : List Nat} {Ws Ws1 : Wm} {W : List Addr} (k : Took T (blkW Ws ow) Ws1 W) (hT : ∀ i ∈ T, i ∈ ow) : (∀ j, j ∉ ow → Ws1 j = Ws j) ∧ ∀ j ∈ ow, ∀ a ∈ Ws1 j, a ∈ W := by
  refine ⟨fun j hj => ?_, fun j hj a ha => ?_⟩
  · rw [k.same j fun z => hj (hT j z)]
    exact if_neg hj
  · by_cases z : j ∈ T
    · exact k.sub j z a ha
    · rw [k.same j z] at ha
      have e : blkW Ws ow j = [] := if_pos hj
      rw [e] at ha
      exact nomatch ha
/-- the state behind a turn: the block's own names are gone, the def's stand again -/
theorem blk_back {K : PySem.W.Frag} {H H4 : Hp} {e eb : Ev} {σ σ2 : L2.St} {Ws Ws1 Ws3 : Wm} {ow T Mi : List Nat} {W : List Addr} (re : REnv K H e σ Ws) (sp : Sep Mi Ws) (hl : σ2.length = σ.length) (hh : Hold T (L2.wipe σ ow) σ2) (hT : ∀ i ∈ T, i ∈ ow)
    (k1 : ∀ j, j ∉ ow → Ws1 j = Ws j) (k2 : ∀ j ∈ ow, ∀ a ∈ Ws1 j, a ∈ W) (hM : ∀ i ∈ Mi, i ∉ ow) (x2 : Ext H H2) (re4 : REnv K H4 eb σ2 Ws3) (t : Tr Mi Ws1 Ws3 H2 H4) :
    REnv K H4 (restE e eb ow) σ (fun j => if j ∈ ow then Ws j else Ws3 j) ∧ Tr Mi Ws (fun j => if j ∈ ow then Ws j else Ws3 j) H H4 := by
  have inM : ∀ a, InM Mi Ws1 a → InM Mi Ws a := fun a ⟨j, hj, ha⟩ => ⟨j, hj, by rw [← k1 j (hM j hj)]; exact ha⟩
  have inM' : ∀ a, InM Mi Ws a → InM Mi Ws1 a := fun a ⟨j, hj, ha⟩ => ⟨j, hj, by rw [k1 j (hM j hj)]; exact ha⟩
  have kp : Kp (InM Mi Ws) H H4 := fun a o ho n => t.keep a o (x2 a o ho) fun z => n (inM a z)
  have len : eb.length = σ.length := by rw [← re4.len, hl]
  have offO : ∀ j, j ∉ Mi → ∀ a ∈ Ws j, ¬ InM Mi Ws a := fun j hj a ha ⟨i, hi, z⟩ => (sp i hi).2 j (fun e => hj (e ▸ hi)) a z ha
  have s1 : ∀ i ∈ Mi, ∀ a ∈ Ws3 i, InM Mi Ws a ∨ H a = none := fun i hi a ha => by
    rcases t.sub i hi a ha with z | z
    · exact .inl (inM a z)
    · exact .inr (x2.none z)
  refine ⟨⟨by rw [restE_len]; exact len.symm, fun i d h => ?_, fun i h => ?_⟩, ⟨kp, fun i hi => ?_, fun i hi a ha => ?_, fun i hi => ?_⟩⟩
  · by_cases hi : i ∈ ow
    · have hlt := (List.getElem?_eq_some_iff.mp h).1
      rw [restE_len] at hlt
      rw [restE_in hi hlt] at h
      have h' : e[i]? = some (some d) := by
        cases hx : e[i]? with
        | none => rw [hx] at h; cases h
        | some y => rw [hx] at h; cases h; rfl
      obtain ⟨v, e1, r⟩ := re.at' i d h'
      refine ⟨v, e1, ?_⟩
      rw [if_pos hi]
      exact Rep.kp kp re.mtM _ _ _ r (offO i fun z => hM i z hi)
    · rw [restE_out hi] at h
      obtain ⟨v, e1, r⟩ := re4.at' i d h
      refine ⟨v, ?_, by rw [if_neg hi]; exact r⟩
      rw [← wipe_out (vs := ow) hi, ← hh i fun z => hi (hT i z)]
      exact e1
  · by_cases hi : i ∈ ow
    · rw [if_pos hi]
      refine re.non i fun d e1 => h d ?_
      have hlt : i < eb.length := by rw [len, re.len]; exact (List.getElem?_eq_some_iff.mp e1).1
      rw [restE_in hi hlt, e1]
      rfl
    · rw [if_neg hi]
      exact re4.non i fun d e1 => h d (by rw [restE_out hi]; exact e1)
  · by_cases ho : i ∈ ow
    · exact if_pos ho
    · rw [if_neg ho, t.same i hi, k1 i ho]
  · rw [if_neg (hM i hi)] at ha
    exact s1 i hi a ha
  · rw [if_neg (hM i hi)]
    refine ⟨(t.sep i hi).1, fun j hj a ha => ?_⟩
    by_cases ho : j ∈ ow
    · rw [if_pos ho]
      intro z
      rcases s1 i hi a ha with y | y
      · exact offO j (fun q => hM j q ho) a z y
      · exact re.ne j a z y
    · rw [if_neg ho]
      exact (t.sep i hi).2 j hj a ha
section
variable {X : Cx} {M Mi R T ow : List Nat} {tg it elt : Expr} {ifs : List Expr} {scope : Scope} {fi : Ev → Option (List D × Ev)} {t : Tg} {tt : Ev → Option (Bool × Ev)} {fe : Ev → Option (D × Ev)}
theorem lc_read (hi : VI X M R tg it fi) (hg : ∀ s H C cl fp, VG (Bk X scope s H C cl fp) T tg t) (ht : ∀ s H C cl fp, VTs (Bk X scope s H C cl fp) Mi ifs tt) (he : ∀ s H C cl fp, VE (Bk X scope s H C cl fp) Mi [] elt fe)
    (hT : ∀ i ∈ T, i ∈ ow) (hM1 : ∀ i ∈ Mi, i ∈ M) (hM2 : ∀ i ∈ Mi, i ∉ ow) (hR : ∀ i ∈ R, i ∉ Mi) {env env' : Ev} {d : D} (h : eLc ow fi t tt fe env = some (d, env')) {σ : L2.St} {H : Hp} {Ws : Wm} {Q : VK} (re : REnv X.K H env σ Ws) (sp : Sep M Ws)
    (q : ∀ v H' Ws' W, Rep X.K H' d v W → REnv X.K H' env' σ Ws' → Tr M Ws Ws' H H' → Own M [] Ws Ws' H W → Q v H') : tLc (WIt X tg it) (WGb X scope tg) (WTsb X scope ifs) (WEb X scope elt) ow σ H Q := by
  unfold eLc at h
  obtain ⟨⟨items, e1⟩, h1, h⟩ := Option.bind_eq_some_iff.mp h
  split at h
  rotate_left
  · cases h
  rename_i hsz
  have hsz : items.length ≤ sizeLine := hsz
  obtain ⟨⟨dd, e2⟩, h2, h⟩ := Option.bind_eq_some_iff.mp h
  cases h
  refine hi.run env items e1 h1 σ H Ws _ re sp fun J H1 Ws1 W1 wk re1 t1 o1 mt1 => ?_
  obtain ⟨G, g0, gk, gg, gs⟩ := wk
  intro A hA
  have newA : ∀ j, A ∉ Ws1 j := fun j z => re1.ne j A z hA
  have xA := Ext.new (o := HO.lst []) hA
  have kpA : ∀ {H' : Hp} {o : HO}, Kp (· = A) H' (upd H' A o) := fun a o ho n => by rw [upd_ne n]; exact ho
  refine ⟨fun i m H' => m = items.length - i ∧ i ≤ items.length ∧ ∃ ei Wi acc done Wa, REnv X.K H' ei σ Wi ∧ Tr Mi Ws1 Wi H1 H' ∧ G H' ∧ Own M R Ws Wi H W1 ∧ (∀ a ∈ W1, Mt H' a ∧ a ≠ A) ∧ H' A = some (.lst acc) ∧ Reps X.K H' done acc Wa ∧ Own M [] Ws1 Wi H1 (A :: Wa) ∧ done.length ≤ i ∧
      ∃ ds, lcL ow t tt fe (items.drop i) ei = some (ds, e2) ∧ dd = done ++ ds,
    ⟨items.length, by simp, Nat.zero_le _, e1, Ws1, [], [], [], xA.renv re1, xA.tr (Tr.refl (t1.sep.mono hM1)), gk _ _ _ g0 (Ext.kp (A := fun _ => False) xA) (fun _ z => z.elim) (fun _ _ z => z), o1, fun a ha => ⟨?_, fun e => (mt1 a ha).some (e ▸ hA)⟩, upd_same, .nil, ⟨fun a ha => ?_, fun _ => List.nodup_cons.mpr ⟨fun z => (nomatch z), .nil⟩⟩, Nat.le_refl _, dd, h2, rfl⟩, ?_⟩
  · have hne : a ≠ A := fun e => (mt1 a ha).some (e ▸ hA)
    rcases mt1 a ha with ⟨xs, e⟩ | ⟨xs, e⟩ | ⟨xs, e⟩ | ⟨o1, xs, e⟩
    · exact .inl ⟨xs, by rw [upd_ne hne]; exact e⟩
    · exact .inr (.inl ⟨xs, by rw [upd_ne hne]; exact e⟩)
    · exact .inr (.inr (.inl ⟨xs, by rw [upd_ne hne]; exact e⟩))
    · exact .inr (.inr (.inr ⟨o1, xs, by rw [upd_ne hne]; exact e⟩))
  · have e : a = A := by simpa using ha
    subst e
    exact .inl ⟨.inr hA, newA⟩
  rintro i m H' ⟨rfl, hi', ei, Wi, acc, done, Wa, rei, ti, gi, oi, mti, hAi, ri, owi, hdl, ds, hds, hdd⟩
  have spi := ti.sep
  by_cases hlt : i < items.length
  · obtain ⟨hgo, hy⟩ := gg i H' items[i] gi (List.getElem?_eq_getElem hlt)
    rw [List.drop_eq_getElem_cons hlt] at hds
    have hds' : ((t items[i] (wipeE ei ow)).bind fun e1 => (tt e1).bind fun p => if p.1 = true then (fe p.2).bind fun q => (lcL ow t tt fe (items.drop (i + 1)) (restE ei q.2 ow)).bind fun r => some (q.1 :: r.1, r.2)
      else lcL ow t tt fe (items.drop (i + 1)) (restE ei p.2 ow)) = some (ds, e2) := hds
    obtain ⟨eb, hb1, hds'⟩ := Option.bind_eq_some_iff.mp hds'
    obtain ⟨⟨b, eb2⟩, hb2, hds'⟩ := Option.bind_eq_some_iff.mp hds'
    refine .inr ⟨hgo, fun H' => (items.length - (i + 1) = items.length - (i + 1) ∧ i + 1 ≤ items.length ∧ ∃ ei Wi acc done Wa, REnv X.K H' ei σ Wi ∧ Tr Mi Ws1 Wi H1 H' ∧ G H' ∧ Own M R Ws Wi H W1 ∧ (∀ a ∈ W1, Mt H' a ∧ a ≠ A) ∧ H' A = some (.lst acc) ∧ Reps X.K H' done acc Wa ∧ Own M [] Ws1 Wi H1 (A :: Wa) ∧ done.length ≤ i + 1 ∧
      ∃ ds, lcL ow t tt fe (items.drop (i + 1)) ei = some (ds, e2) ∧ dd = done ++ ds), fun H' n => ⟨items.length - (i + 1), by omega, n⟩, fun x H2 yx => ?_⟩
    obtain ⟨x2, Wx, rx, subx⟩ := hy x H2 yx
    have rew := x2.renv (rei.wipe ow)
    -- the target
    have tgt : ∀ (Q2 : L2.St → Hp → Prop), (∀ σ2 Wb, REnv X.K H2 eb σ2 Wb → Took T (blkW Wi ow) Wb Wx → (σ2.length = (L2.wipe σ ow).length ∧ Hold T (L2.wipe σ ow) σ2) → Q2 σ2 H2) → WGb X scope tg x (L2.wipe σ ow) H2 Q2 := fun Q2 hQ s0 H0 C cl fp =>
      (hg s0 H0 C cl fp).run items[i] _ eb hb1 x (L2.wipe σ ow) H2 (blkW Wi ow) Wx Q2 rx rew hQ
    refine tgt _ fun σ2 Wb reb kb hb => ?_
    have hlen : σ2.length = σ.length := by rw [hb.1, wipe_length]
    obtain ⟨k1, k2⟩ := kb.blk hT
    refine ⟨wipe_eq hlen hb.2 hT, ?_⟩
    have offI := oi.off spi hR
    have spb : Sep Mi Wb := fun j hj => by
      rw [k1 j (hM2 j hj)]
      refine ⟨(spi j hj).1, fun k hk a ha => ?_⟩
      by_cases ho : k ∈ ow
      · exact fun z => offI a (subx a (k2 k ho a z)) ⟨j, hj, ha⟩
      · rw [k1 k ho]
        exact (spi j hj).2 k hk a ha
    -- what holds behind a turn
    have again : ∀ {eb3 : Ev} {H4 : Hp} {Wb3 : Wm}, REnv X.K H4 eb3 σ2 Wb3 → Tr Mi Wb Wb3 H2 H4 → REnv X.K H4 (restE ei eb3 ow) σ (fun j => if j ∈ ow then Wi j else Wb3 j) ∧ Tr Mi Wi (fun j => if j ∈ ow then Wi j else Wb3 j) H' H4 ∧ G H4 ∧ Own M R Ws (fun j => if j ∈ ow then Wi j else Wb3 j) H W1 ∧ (∀ a ∈ W1, Mt H4 a ∧ a ≠ A) ∧
        H4 A = some (.lst acc) ∧ Reps X.K H4 done acc Wa ∧ Own M [] Ws1 (fun j => if j ∈ ow then Wi j else Wb3 j) H1 (A :: Wa) := by
      intro eb3 H4 Wb3 re3 t3
      obtain ⟨reN, tN⟩ := blk_back rei spi hlen hb.2 hT k1 k2 hM2 x2 re3 t3
      have offA : ∀ a ∈ A :: Wa, ¬ InM Mi Wi a := owi.off spi (fun _ z => nomatch z)
      refine ⟨reN, tN, gk _ H' H4 gi tN.keep rei.mtM offI, oi.later (fun a ha => (mti a ha).1.some) tN spi hR, fun a ha => ⟨?_, (mti a ha).2⟩, tN.keep A _ hAi (offA A List.mem_cons_self), Reps.kp tN.keep rei.mtM _ _ _ ri fun a ha => offA a (List.mem_cons_of_mem _ ha),
        owi.later (fun a ha => ?_) tN spi (fun _ z => nomatch z)⟩
      · rcases (mti a ha).1 with ⟨xs, e⟩ | ⟨xs, e⟩ | ⟨xs, e⟩ | ⟨o1, xs, e⟩
        · exact .inl ⟨xs, tN.keep _ _ e (offI a ha)⟩
        · exact .inr (.inl ⟨xs, tN.keep _ _ e (offI a ha)⟩)
        · exact .inr (.inr (.inl ⟨xs, tN.keep _ _ e (offI a ha)⟩))
        · exact .inr (.inr (.inr ⟨o1, xs, tN.keep _ _ e (offI a ha)⟩))
      · rcases List.mem_cons.mp ha with rfl | ha
        · rw [hAi]; exact fun e => nomatch e
        · exact (Reps.mt _ _ _ ri a ha).some
    have tst : ∀ (Q2 : Bool → Hp → Prop), (∀ H3 Wb2, REnv X.K H3 eb2 σ2 Wb2 → Tr Mi Wb Wb2 H2 H3 → Q2 b H3) → WTsb X scope ifs σ2 H2 Q2 := fun Q2 hQ s0 H0 C cl fp =>
      (ht s0 H0 C cl fp).run eb b eb2 hb2 σ2 H2 Wb Q2 reb spb hQ
    refine tst _ fun H3 Wb2 reb2 tb2 => ?_
    split at hds'
    · rename_i hbt
      have hbt' : b = true := hbt
      subst hbt'
      rw [if_pos rfl]
      obtain ⟨⟨y, eb3⟩, hb3, hds'⟩ := Option.bind_eq_some_iff.mp hds'
      obtain ⟨⟨dr, e2'⟩, hb4, hds'⟩ := Option.bind_eq_some_iff.mp hds'
      cases hds'
      have elm : ∀ (Q2 : VK), (∀ v H4 Wb3 Wy, Rep X.K H4 y v Wy → REnv X.K H4 eb3 σ2 Wb3 → Tr Mi Wb2 Wb3 H3 H4 → Own Mi [] Wb2 Wb3 H3 Wy → Q2 v H4) → WEb X scope elt σ2 H3 Q2 := fun Q2 hQ s0 H0 C cl fp =>
        (he s0 H0 C cl fp).run eb2 y eb3 hb3 σ2 H3 Wb2 Q2 reb2 tb2.sep hQ
      refine elm _ fun v H4 Wb3 Wy ry reb3 tb3 oy => ?_
      obtain ⟨reN, tN, gN', oN, mtN, hAN, rN, owN⟩ := again reb3 (tb2.trans tb3)
      have oy' : Own Mi [] Wb Wb3 H2 Wy := oy.early tb2 fun _ z => z
      have lacc : acc.length = done.length := ri.len.symm
      -- the element's lists: new, or taken from Mi
      have yfr : ∀ a ∈ Wy, (InM Mi Wi a ∨ H' a = none) ∧ ∀ j, a ∉ Wb3 j := fun a ha => by
        rcases oy'.at' a ha with ⟨z, n⟩ | ⟨_, z, _⟩
        · refine ⟨?_, n⟩
          rcases z with ⟨j, hj, z⟩ | z
          · exact .inl ⟨j, hj, by rw [← k1 j (hM2 j hj)]; exact z⟩
          · exact .inr (x2.none z)
        · exact nomatch z
      have offA : ∀ a ∈ A :: Wa, ¬ InM Mi Wi a := owi.off spi (fun _ z => nomatch z)
      have trA : ∀ a ∈ A :: Wa, H' a ≠ none := fun a ha => by
        rcases List.mem_cons.mp ha with rfl | ha
        · rw [hAi]; exact fun e => nomatch e
        · exact (Reps.mt _ _ _ ri a ha).some
      have yA : ∀ a ∈ A :: Wa, a ∉ Wy := fun a ha z => by
        rcases (yfr a z).1 with y | y
        · exact offA a ha y
        · exact trA a ha y
      have offN : ∀ j, A ∉ (fun j => if j ∈ ow then Wi j else Wb3 j) j := fun j z => by
        rcases owN.at' A List.mem_cons_self with ⟨_, n⟩ | ⟨_, y, _⟩
        · exact n j z
        · exact nomatch y
      have reU : REnv X.K (upd H4 A (.lst (acc ++ [v]))) (restE ei eb3 ow) σ (fun j => if j ∈ ow then Wi j else Wb3 j) := ⟨reN.len, fun j dj ej => by
        obtain ⟨vj, e3, r3⟩ := reN.at' j dj ej
        exact ⟨vj, e3, Rep.kp kpA (fun a e => by rw [e]; exact .inl ⟨_, hAN⟩) _ _ _ r3 fun a ha e => offN j (e ▸ ha)⟩, reN.non⟩
      have nin1 : ¬ InM Mi Ws1 A := fun ⟨j, _, z⟩ => newA j z
      have tU : Tr Mi Ws1 (fun j => if j ∈ ow then Wi j else Wb3 j) H1 (upd H4 A (.lst (acc ++ [v]))) := by
        have t2 := ti.trans tN
        refine ⟨fun a o ho n => ?_, t2.same, t2.sub, t2.sep⟩
        have hne : a ≠ A := fun e => by rw [e, hA] at ho; cases ho
        rw [upd_ne hne]
        exact t2.keep a o ho n
      refine ⟨acc, hAN, by rw [lacc]; omega, rfl, hlt, restE ei eb3 ow, (fun j => if j ∈ ow then Wi j else Wb3 j), acc ++ [v], done ++ [y], Wa ++ (Wy ++ []), reU, tU, ?_, oN, fun a ha => ⟨?_, (mtN a ha).2⟩, upd_same, ?_, ?_, ?_, dr, hb4, by rw [hdd, List.append_assoc]; rfl⟩
      · exact gk _ H4 _ gN' kpA (fun a e => by rw [e]; exact .inl ⟨_, hAN⟩) fun a ha e => (mtN a ha).2 e
      · rcases (mtN a ha).1 with ⟨xs, e⟩ | ⟨xs, e⟩ | ⟨xs, e⟩ | ⟨o1, xs, e⟩
        · exact .inl ⟨xs, by rw [upd_ne (mtN a ha).2]; exact e⟩
        · exact .inr (.inl ⟨xs, by rw [upd_ne (mtN a ha).2]; exact e⟩)
        · exact .inr (.inr (.inl ⟨xs, by rw [upd_ne (mtN a ha).2]; exact e⟩))
        · exact .inr (.inr (.inr ⟨o1, xs, by rw [upd_ne (mtN a ha).2]; exact e⟩))
      · have nA : ∀ a ∈ Wa, a ≠ A := fun a ha e => (List.nodup_cons.mp (owi.nd rfl)).1 (e ▸ ha)
        refine Reps.append (Reps.kp kpA (fun a e => by rw [e]; exact .inl ⟨_, hAN⟩) _ _ _ rN nA) (.cons (Rep.kp kpA (fun a e => by rw [e]; exact .inl ⟨_, hAN⟩) _ _ _ ry fun a ha e => ?_) .nil)
        exact yA A List.mem_cons_self (e ▸ ha)
      · rw [List.append_nil]
        refine ⟨fun a ha => ?_, fun _ => ?_⟩
        · rw [← List.cons_append] at ha
          rcases List.mem_append.mp ha with ha | ha
          · exact owN.at' a ha
          · obtain ⟨z, n⟩ := yfr a ha
            refine .inl ⟨?_, fun j hj => ?_⟩
            · rcases z with z | z
              · exact (tr_in ti z).imp (InM.mono hM1) id
              · exact (tr_none ti z).imp (InM.mono hM1) id
            · have hj' : a ∈ (if j ∈ ow then Wi j else Wb3 j) := hj
              by_cases ho : j ∈ ow
              · rw [if_pos ho] at hj'
                rcases z with ⟨k, hk, z⟩ | z
                · exact (spi k hk).2 j (fun e => hM2 k hk (e ▸ ho)) a z hj'
                · exact rei.ne j a hj' z
              · rw [if_neg ho] at hj'
                exact n j hj'
        · rw [← List.cons_append]
          exact List.nodup_append.mpr ⟨owi.nd rfl, oy.nd rfl, fun a ha b hb e => yA a ha (e ▸ hb)⟩
      · rw [List.length_append, List.length_singleton]
        omega
    · rename_i hbt
      have hbt' : b = false := by cases b; rfl; exact absurd rfl hbt
      subst hbt'
      rw [if_neg (by decide)]
      obtain ⟨reN, tN, gN', oN, mtN, hAN, rN, owN⟩ := again reb2 tb2
      exact ⟨rfl, hlt, _, _, acc, done, Wa, reN, ti.trans tN, gN', oN, mtN, hAN, rN, owN, by omega, ds, hds', hdd⟩
  · have e : i = items.length := by omega
    subst e
    rw [List.drop_length] at hds
    cases hds
    rw [List.append_nil] at hdd
    subst hdd
    refine .inl ⟨gs H' gi, q (.ref A) H' Wi (A :: Wa) (.lst hAi ri) rei (t1.trans (ti.weaken hM1 t1.sep re1.ne)) (owi.early t1 fun _ z => z)⟩
theorem ve_lc {own : List (Str × Nat)} {pos : Pos} (hN : X.N.Nodup) (hi : VI X M R tg it fi) (ok : BlkOk X.N X.env.scope scope own) (hg : ∀ s H C cl fp, VG (Bk X scope s H C cl fp) T tg t) (ht : ∀ s H C cl fp, VTs (Bk X scope s H C cl fp) Mi ifs tt) (he : ∀ s H C cl fp, VE (Bk X scope s H C cl fp) Mi [] elt fe)
    (hc : X.calm = true := by rfl) (hT : ∀ i ∈ T, i ∈ own.map (·.2) := by decide) (hM1 : ∀ i ∈ Mi, i ∈ M := by decide) (hM2 : ∀ i ∈ Mi, i ∉ own.map (·.2) := by decide) (hR : ∀ i ∈ R, i ∉ Mi := by decide) (hs : ∀ x, foldedSetIterable it X.env x = pure x := by intro _; rfl) :
    VE X M [] (.ListComp elt [⟨tg, it, ifs, 0⟩] scope pos) (eLc (own.map (·.2)) fi t tt fe) := ⟨fun env d env' h σ H Ws Q re sp q =>
  WE.of (pe_lc (wi := WIt X tg it) (g := WGb X scope tg) (tt := WTsb X scope ifs) (te := WEb X scope elt) hc hN pi_wit ok (fun s H C cl fp => ⟨fun pins s' σ H v u Q I r h => h s _ C cl fp pins s' u I r⟩) (fun s H C cl fp => ⟨fun pins s' σ H Q I h => pts_w.run pins s' σ H Q I (h s _ C cl fp)⟩) (fun s H C cl fp => ⟨fun pins s' σ H Q I h => h s _ C cl fp pins s' I⟩) hs)
    (lc_read hi hg ht he hT hM1 hM2 hR h re sp q)⟩
/-- name = [..] on one line -/
theorem vs_setLc (i : Nat) {A : List Nat} {y : Str} {py spos : Pos} {own : List (Str × Nat)} {pos : Pos} (hN : X.N.Nodup) (hi : VI X M R tg it fi) (ok : BlkOk X.N X.env.scope scope own) (hg : ∀ s H C cl fp, VG (Bk X scope s H C cl fp) T tg t) (ht : ∀ s H C cl fp, VTs (Bk X scope s H C cl fp) Mi ifs tt) (he : ∀ s H C cl fp, VE (Bk X scope s H C cl fp) Mi [] elt fe)
    (hy : X.N[i]? = some y := by rfl) (hyl : X.env.scope.names.lookup y = some .local := by rfl) (hsw : swapsWith (.ListComp elt [⟨tg, it, ifs, 0⟩] scope pos) (some (.Name y py)) spos.line X.env = pure true := by exact sw_true rfl rfl rfl (by decide +kernel)) (hiM : i ∈ M := by decide) (hiA : i ∈ A := by decide)
    (hc : X.calm = true := by rfl) (hT : ∀ i ∈ T, i ∈ own.map (·.2) := by decide) (hM1 : ∀ i ∈ Mi, i ∈ M := by decide) (hM2 : ∀ i ∈ Mi, i ∉ own.map (·.2) := by decide) (hR : ∀ i ∈ R, i ∉ Mi := by decide) (hs : ∀ x, foldedSetIterable it X.env x = pure x := by intro _; rfl) :
    VS X A M (.Assign [.Name y py] (.ListComp elt [⟨tg, it, ifs, 0⟩] scope pos) spos) (sAsg (eLc (own.map (·.2)) fi t tt fe) (gN i)) := ⟨fun env o h σ H Ws Dn re sp q => by
  unfold sAsg at h
  obtain ⟨⟨d, e1⟩, h2, h⟩ := Option.bind_eq_some_iff.mp h
  obtain ⟨e2, h3, h⟩ := Option.bind_eq_some_iff.mp h
  cases h
  unfold gN at h3
  split at h3
  · rename_i hl
    cases h3
    refine WS.of (ps_setLc (wi := WIt X tg it) (g := WGb X scope tg) (tt := WTsb X scope ifs) (te := WEb X scope elt) hc hN hy hyl hsw pi_wit ok (fun s H C cl fp => ⟨fun pins s' σ H v u Q I r h => h s _ C cl fp pins s' u I r⟩) (fun s H C cl fp => ⟨fun pins s' σ H Q I h => pts_w.run pins s' σ H Q I (h s _ C cl fp)⟩) (fun s H C cl fp => ⟨fun pins s' σ H Q I h => h s _ C cl fp pins s' I⟩) hs)
      (lc_read hi hg ht he hT hM1 hM2 hR h2 re sp fun v H' Ws' W r re' t o => ?_)
    exact q _ H' _ (re'.set hl r) (Took.one.tr re'.ne t o fun j hj => by
      have e : j = i := by simpa using hj
      rw [e]; exact hiM) fun j hj => by
        rw [List.getElem?_set_ne (fun e => hj (by rw [← e]; exact hiA))]
  · cases h3⟩
end
end VL

/-! VLF: operations over plain data. -/
namespace VL
open PySem PySem.Spec L2

/-! ### helpers -/
theorem new1 {H : Hp} {p : Addr} (h : H p = none) : ∀ a ∈ [p], H a = none := fun a ha => by
  have e : a = p := by simpa using ha
  rw [e]; exact h
theorem nd1 {p : Addr} : [p].Nodup := List.nodup_cons.mpr ⟨fun z => (nomatch z), .nil⟩
theorem Reps.ints {K : PySem.W.Frag} {H : Hp} : ∀ {ns : List Int} {vs : List V} {W : List Addr}, Reps K H (ns.map D.int) vs W → vs = ns.map V.int
  | [], _, _, h => by cases h; rfl
  | n :: ns, _, _, h => by
    cases h with
    | cons h1 h2 =>
      cases h1
      rw [Reps.ints h2]
      rfl
theorem reps_ints {K : PySem.W.Frag} {H : Hp} : ∀ (ns : List Int), Reps K H (ns.map D.int) (ns.map V.int) []
  | [] => .nil
  | n :: ns => .cons (.int n) (reps_ints ns)
theorem lfs_ints : ∀ (ns : List Int), lfs (ns.map D.int) = true
  | [] => rfl
  | n :: ns => by show (lf (.int n) && lfs (ns.map D.int)) = true; rw [lfs_ints ns]; rfl
/-- the ints of a list -/
def ints? : List D → Option (List Int)
  | [] => some []
  | .int i :: r => (ints? r).bind fun s => some (i :: s)
  | _ => none
theorem ints?_eq : ∀ {ds : List D} {ns : List Int}, ints? ds = some ns → ds = ns.map D.int
  | [], _, h => by cases h; rfl
  | .int i :: r, _, h => by
    obtain ⟨s, h1, h2⟩ := Option.bind_eq_some_iff.mp (show ((ints? r).bind fun s => some (i :: s)) = some _ from h)
    cases h2
    rw [ints?_eq h1]; rfl
  | .non :: _, _, h => nomatch h
  | .bl _ :: _, _, h => nomatch h
  | .str _ :: _, _, h => nomatch h
  | .tup _ :: _, _, h => nomatch h
  | .lst _ :: _, _, h => nomatch h
  | .rol _ :: _, _, h => nomatch h
  | .dct _ :: _, _, h => nomatch h
  | .dtt _ :: _, _, h => nomatch h
  | .rod _ :: _, _, h => nomatch h
theorem ints?_map : ∀ (ns : List Int), ints? (ns.map D.int) = some ns
  | [] => rfl
  | n :: ns => by show ((ints? (ns.map D.int)).bind fun s => some (n :: s)) = _; rw [ints?_map ns]; rfl

/-! ### arithmetic -/
def mulOk (i j : Int) : Bool := decide (i.natAbs < 2 ^ 64) || decide (j.natAbs < 2 ^ 64) || decide (i.natAbs.log2 + j.natAbs.log2 < 1000000)
def dAdd : D → D → Option D
  | .int i, .int j => some (.int (i + j))
  | .str x, .str y => if x.length + y.length ≤ sizeLine then some (.str (x ++ y)) else none
  | .lst a, .lst b => if lfs a = true ∧ lfs b = true ∧ a.length + b.length ≤ sizeLine then some (.lst (a ++ b)) else none
  | .tup a, .tup b => if lfs a = true ∧ lfs b = true ∧ a.length + b.length ≤ sizeLine then some (.tup (a ++ b)) else none
  | _, _ => none
def dSub : D → D → Option D
  | .int i, .int j => some (.int (i - j))
  | _, _ => none
def dMul : D → D → Option D
  | .int i, .int j => if mulOk i j = true then some (.int (i * j)) else none
  | .lst a, .int k => if lfs a = true ∧ k.natAbs ≤ 1000000000 ∧ a.length * k.toNat ≤ sizeLine then some (.lst (List.replicate k.toNat a).flatten) else none
  | .tup a, .int k => if lfs a = true ∧ a ≠ [] ∧ 2 ≤ k ∧ k ≤ 1000 ∧ a.length ≤ 1000 then some (.tup (List.replicate k.toNat a).flatten) else none
  | _, _ => none
def dDiv : D → D → Option D
  | .int i, .int j => if 0 < j ∧ j.natAbs.log2 < 9000 then some (.int (i / j)) else none
  | _, _ => none
def dMod : D → D → Option D
  | .int i, .int j => if 0 < j then some (.int (i % j)) else none
  | _, _ => none
def dPow : D → D → Option D
  | .int i, .int j => if 0 ≤ j ∧ j ≤ 1000000 ∧ i.natAbs < 2 ^ 64 then some (.int (i ^ j.toNat)) else none
  | _, _ => none
def dXor : D → D → Option D
  | .int i, .int j => some (.int (Builtin.bitXor i j))
  | _, _ => none
def dNeg : D → Option D
  | .int i => some (.int (-i))
  | _ => none
section
variable {X : Cx}
theorem lfs_append {a b : List D} (ha : lfs a = true) (hb : lfs b = true) : lfs (a ++ b) = true := lfs_iff.mpr fun d hd => (List.mem_append.mp hd).elim (lfs_iff.mp ha d) (lfs_iff.mp hb d)
theorem ops_add : OpS X (binaryOp .Add) dAdd := fun x y z h v u H W1 W2 Q rx ry q => by
  unfold dAdd at h
  split at h
  · cases h; cases rx; cases ry
    exact WO.of op_add ⟨_, _, rfl, rfl, q _ H [] (.int _) (Ext.refl H) (fun _ z => nomatch z) .nil⟩
  · split at h
    · rename_i hl
      cases h; cases rx; cases ry
      exact WO.of op_add_str ⟨_, _, rfl, rfl, hl, q _ H [] (.str _) (Ext.refl H) (fun _ z => nomatch z) .nil⟩
    · cases h
  · split at h
    · rename_i hl
      cases h
      cases rx with
      | lst h1 r1 =>
        cases ry with
        | lst h2 r2 =>
          refine WO.of op_cat ⟨_, _, _, _, rfl, rfl, h1, h2, by rw [← r1.len, ← r2.len]; exact hl.2.2, fun p hp => ?_⟩
          exact q _ _ [p] (.lst upd_same (Ext.reps (Ext.new hp) (Reps.append (r1.flat hl.1) (r2.flat hl.2.1)))) (Ext.new hp) (new1 hp) nd1
    · cases h
  · split at h
    · rename_i a b hl
      cases h
      cases rx with
      | tup h1 r1 =>
        cases ry with
        | tup h2 r2 =>
          have r1' := r1.flat hl.1
          have r2' := r2.flat hl.2.1
          refine WO.of op_catA ⟨_, _, _, _, rfl, rfl, SqT.of h1, SqT.of h2, by rw [← r1.len, ← r2.len]; exact hl.2.2, fun e => ?_, fun _ e => ?_, fun _ _ p hp => ?_⟩
          · subst e
            cases r1'
            exact q _ H [] (.tup h2 r2') (Ext.refl H) (fun _ z => nomatch z) .nil
          · subst e
            cases r2'
            rw [List.append_nil] at q
            exact q _ H [] (.tup h1 r1') (Ext.refl H) (fun _ z => nomatch z) .nil
          · exact q _ _ [] (.tup upd_same (Ext.reps (Ext.new hp) (Reps.append r1' r2'))) (Ext.new hp) (fun _ z => nomatch z) .nil
    · cases h
  · cases h
theorem ops_sub : OpS X (binaryOp .Sub) dSub := fun x y z h v u H W1 W2 Q rx ry q => by
  unfold dSub at h
  split at h
  · cases h; cases rx; cases ry
    exact WO.of op_sub ⟨_, _, rfl, rfl, q _ H [] (.int _) (Ext.refl H) (fun _ z => nomatch z) .nil⟩
  · cases h
theorem Reps.rep {K : PySem.W.Frag} {H : Hp} {a : List D} {vs : List V} (h : Reps K H a vs []) : ∀ k : Nat, Reps K H (List.replicate k a).flatten (List.replicate k vs).flatten []
  | 0 => .nil
  | k + 1 => by
    rw [List.replicate_succ, List.replicate_succ, List.flatten_cons, List.flatten_cons]
    exact Reps.append h (Reps.rep h k)
theorem ops_mul : OpS X (binaryOp .Mult) dMul := fun x y z h v u H W1 W2 Q rx ry q => by
  unfold dMul at h
  split at h
  · rename_i i j
    split at h
    · rename_i hl
      cases h; cases rx; cases ry
      have q' := q _ H [] (.int _) (Ext.refl H) (fun _ z => nomatch z) .nil
      unfold mulOk at hl
      simp only [Bool.or_eq_true, decide_eq_true_eq] at hl
      rcases hl with (hl | hl) | hl
      · exact WO.of op_mul ⟨_, _, rfl, rfl, .inl ⟨by omega, by omega⟩, q'⟩
      · exact WO.of op_mul ⟨_, _, rfl, rfl, .inr ⟨by omega, by omega⟩, q'⟩
      · exact WO.of op_mulW ⟨_, _, rfl, rfl, hl, q'⟩
    · cases h
  · split at h
    · rename_i hl
      cases h
      cases ry
      cases rx with
      | lst h1 r1 =>
        refine WO.of op_rep ⟨_, _, _, rfl, rfl, h1, by have := hl.2.1; omega, by have := hl.2.1; omega, by rw [← r1.len]; exact hl.2.2, fun p hp => ?_⟩
        exact q _ _ [p] (.lst upd_same (Ext.reps (Ext.new hp) (Reps.rep (r1.flat hl.1) _))) (Ext.new hp) (new1 hp) nd1
    · cases h
  · split at h
    · rename_i hl
      cases h
      cases ry
      cases rx with
      | tup h1 r1 =>
        refine WO.of op_repT ⟨_, _, _, rfl, rfl, SqT.of h1, fun e => hl.2.1 (List.length_eq_zero_iff.mp (by rw [r1.len, e]; rfl)), hl.2.2.1, hl.2.2.2.1, by rw [← r1.len]; exact hl.2.2.2.2, fun p hp => ?_⟩
        exact q _ _ [] (.tup upd_same (Ext.reps (Ext.new hp) (Reps.rep (r1.flat hl.1) _))) (Ext.new hp) (fun _ z => nomatch z) .nil
    · cases h
  · cases h
theorem ops_div : OpS X (binaryOp .FloorDiv) dDiv := fun x y z h v u H W1 W2 Q rx ry q => by
  unfold dDiv at h
  split at h
  · split at h
    · rename_i hl
      cases h; cases rx; cases ry
      exact WO.of op_fdivW ⟨_, _, rfl, rfl, hl, q _ H [] (.int _) (Ext.refl H) (fun _ z => nomatch z) .nil⟩
    · cases h
  · cases h
theorem ops_mod : OpS X (binaryOp .Mod) dMod := fun x y z h v u H W1 W2 Q rx ry q => by
  unfold dMod at h
  split at h
  · split at h
    · rename_i hl
      cases h; cases rx; cases ry
      exact WO.of op_mod ⟨_, _, rfl, rfl, hl, q _ H [] (.int _) (Ext.refl H) (fun _ z => nomatch z) .nil⟩
    · cases h
  · cases h
theorem ops_pow : OpS X (binaryOp .Pow) dPow := fun x y z h v u H W1 W2 Q rx ry q => by
  unfold dPow at h
  split at h
  · split at h
    · rename_i hl
      cases h; cases rx; cases ry
      exact WO.of op_pow ⟨_, _, rfl, rfl, hl, q _ H [] (.int _) (Ext.refl H) (fun _ z => nomatch z) .nil⟩
    · cases h
  · cases h
theorem ops_xor : OpS X (binaryOp .BitXor) dXor := fun x y z h v u H W1 W2 Q rx ry q => by
  unfold dXor at h
  split at h
  · cases h; cases rx; cases ry
    exact WO.of op_xor ⟨_, _, rfl, rfl, q _ H [] (.int _) (Ext.refl H) (fun _ z => nomatch z) .nil⟩
  · cases h
theorem uns_neg : UnS X (unaryOp .USub) dNeg := fun x z h v H W1 Q rx q => by
  unfold dNeg at h
  split at h
  · cases h; cases rx
    exact WU.of un_neg ⟨_, rfl, q _ H [] (.int _) (Ext.refl H) (fun _ z => nomatch z) .nil⟩
  · cases h
end

/-! ### == -/
mutual
def toPy : D → Option PyData
  | .non => some .none
  | .bl b => some (.bool b)
  | .int i => some (.int i)
  | .str x => some (.str x)
  | .tup ds => (toPys ds).bind fun r => some (.tuple r)
  | .lst ds => (toPys ds).bind fun r => some (.list r)
  | .rol ds => (toPys ds).bind fun r => some (.list r)
  | .dct _ => none
  | .dtt _ => none
  | .rod _ => none
def toPys : List D → Option (List PyData)
  | [] => some []
  | d :: ds => (toPy d).bind fun p => (toPys ds).bind fun r => some (p :: r)
end
mutual
theorem Rep.dp {K : PySem.W.Frag} {H : Hp} : ∀ (d : D) (v : V) (W : List Addr) (p : PyData), Rep K H d v W → toPy d = some p → Dp K H v p
  | .non, _, _, _, h, e => by cases h; cases e; exact .non
  | .bl _, _, _, _, h, e => by cases h; cases e; exact .bl _
  | .int _, _, _, _, h, e => by cases h; cases e; exact .int _
  | .str _, _, _, _, h, e => by cases h; cases e; exact .str _
  | .tup ds, _, _, pp, h, e => by
    obtain ⟨r, e1, e2⟩ := Option.bind_eq_some_iff.mp (show ((toPys ds).bind fun r => some (PyData.tuple r)) = some pp from e)
    cases e2
    cases h with
    | tup h1 h2 => exact .tup (SqT.of h1) (Reps.dp ds _ _ _ h2 e1)
  | .lst ds, _, _, pp, h, e => by
    obtain ⟨r, e1, e2⟩ := Option.bind_eq_some_iff.mp (show ((toPys ds).bind fun r => some (PyData.list r)) = some pp from e)
    cases e2
    cases h with
    | lst h1 h2 => exact .lst (SqL.of h1) (Reps.dp ds _ _ _ h2 e1)
  | .rol ds, _, _, pp, h, e => by
    obtain ⟨r, e1, e2⟩ := Option.bind_eq_some_iff.mp (show ((toPys ds).bind fun r => some (PyData.list r)) = some pp from e)
    cases e2
    cases h with
    | rol h1 h2 => exact .lst h1.seq (Reps.dp ds _ _ _ h2 e1)
  | .dct _, _, _, _, _, e => nomatch e
  | .dtt _, _, _, _, _, e => nomatch e
  | .rod _, _, _, _, _, e => nomatch e
theorem Reps.dp {K : PySem.W.Frag} {H : Hp} : ∀ (d : List D) (v : List V) (W : List Addr) (p : List PyData), Reps K H d v W → toPys d = some p → DpAll K H v p
  | [], _, _, _, h, e => by cases h; cases e; exact .nil
  | d :: ds, _, _, pp, h, e => by
    obtain ⟨p, e1, e2⟩ := Option.bind_eq_some_iff.mp (show ((toPy d).bind fun p => (toPys ds).bind fun r => some (p :: r)) = some pp from e)
    obtain ⟨r, e3, e4⟩ := Option.bind_eq_some_iff.mp e2
    cases e4
    cases h with
    | cons h1 h2 => exact .cons (Rep.dp d _ _ _ h1 e1) (Reps.dp ds _ _ _ h2 e3)
end
def dEqG (x y : D) : Option Bool := match toPy x, toPy y with
  | some p, some q => if SeqAt.shaped p = true ∧ SeqAt.shaped q = true then some (PyData.eqv p q) else none
  | _, _ => none
/-- == by value -/
def eqB : D → D → Option Bool
  | .int i, .int j => some (decide (i = j))
  | .str x, .str y => some (decide (x = y))
  | .bl x, .bl y => some (decide (x = y))
  | .non, .non => some true
  | .non, .int _ => some false
  | .int _, .non => some false
  | .non, .str _ => some false
  | .str _, .non => some false
  | x, y => dEqG x y
def dEq (x y : D) : Option D := (eqB x y).bind fun b => some (.bl b)
def dNe (x y : D) : Option D := (eqB x y).bind fun b => some (.bl (!b))
section
variable {X : Cx}
theorem eqB_ok {x y : D} {b : Bool} (h : eqB x y = some b) {v u : V} {H : Hp} {W1 W2 : List Addr} (rx : Rep X.K H x v W1) (ry : Rep X.K H y u W2) :
    (scal v u = true ∧ decide (v = u) = b) ∨ ∃ p q, Dp X.K H v p ∧ Dp X.K H u q ∧ SeqAt.shaped p = true ∧ SeqAt.shaped q = true ∧ PyData.eqv p q = b := by
  unfold eqB at h
  split at h
  · cases h; cases rx; cases ry; exact .inl ⟨rfl, by simp⟩
  · cases h; cases rx; cases ry; exact .inl ⟨rfl, by simp⟩
  · cases h; cases rx; cases ry; exact .inl ⟨rfl, by simp⟩
  · cases h; cases rx; cases ry; exact .inl ⟨rfl, by simp⟩
  · cases h; cases rx; cases ry; exact .inl ⟨rfl, by simp⟩
  · cases h; cases rx; cases ry; exact .inl ⟨rfl, by simp⟩
  · cases h; cases rx; cases ry; exact .inl ⟨rfl, by simp⟩
  · cases h; cases rx; cases ry; exact .inl ⟨rfl, by simp⟩
  · unfold dEqG at h
    split at h
    · rename_i p q hp hq
      split at h
      · rename_i hs
        cases h
        exact .inr ⟨p, q, Rep.dp _ _ _ _ rx hp, Rep.dp _ _ _ _ ry hq, hs.1, hs.2, rfl⟩
      · cases h
    · cases h
theorem ops_eq (hu : X.A.units + 64 < cLine) : OpS X (compareOp .Eq) dEq := fun x y z h v u H W1 W2 Q rx ry q => by
  unfold dEq at h
  obtain ⟨b, h1, h2⟩ := Option.bind_eq_some_iff.mp h
  cases h2
  have q' := q _ H [] (.bl b) (Ext.refl H) (fun _ z => nomatch z) .nil
  rcases eqB_ok h1 rx ry with ⟨h2, h3⟩ | ⟨p, r, h2, h3, h4, h5, h6⟩
  · exact WO.of op_eq ⟨h2, by rw [h3]; exact q'⟩
  · exact WO.of (op_eqD hu) ⟨p, r, h2, h3, h4, h5, by rw [h6]; exact q'⟩
theorem ops_ne (hu : X.A.units + 64 < cLine) : OpS X (compareOp .NotEq) dNe := fun x y z h v u H W1 W2 Q rx ry q => by
  unfold dNe at h
  obtain ⟨b, h1, h2⟩ := Option.bind_eq_some_iff.mp h
  cases h2
  have q' := q _ H [] (.bl (!b)) (Ext.refl H) (fun _ z => nomatch z) .nil
  rcases eqB_ok h1 rx ry with ⟨h2, h3⟩ | ⟨p, r, h2, h3, h4, h5, h6⟩
  · exact WO.of op_ne ⟨h2, by rw [h3]; exact q'⟩
  · exact WO.of (op_neD hu) ⟨p, r, h2, h3, h4, h5, by rw [h6]; exact q'⟩
end

/-! ### order, is, in -/
def dLt : D → D → Option D
  | .int i, .int j => some (.bl (decide (i < j)))
  | .str x, .str y => some (.bl (decide (x.cps.toList < y.cps.toList)))
  | .tup a, .tup b => (ints? a).bind fun x => (ints? b).bind fun y => some (.bl (HT.lexLt x y))
  | _, _ => none
def dLe : D → D → Option D
  | .int i, .int j => some (.bl (decide (i ≤ j)))
  | _, _ => none
def dGt : D → D → Option D
  | .int i, .int j => some (.bl (decide (j < i)))
  | _, _ => none
def dGe : D → D → Option D
  | .int i, .int j => some (.bl (decide (j ≤ i)))
  | _, _ => none
def isNon : D → Bool
  | .non => true
  | _ => false
def dIsN (x : D) : D → Option D
  | .non => some (.bl (isNon x))
  | .bl b => match x with
    | .bl c => some (.bl (decide (c = b)))
    | _ => none
  | _ => none
def dNotN (x : D) : D → Option D
  | .non => some (.bl (!isNon x))
  | .bl b => match x with
    | .bl c => some (.bl (!decide (c = b)))
    | _ => none
  | _ => none
def flatD : D → Bool
  | .non => true
  | .bl _ => true
  | .int _ => true
  | .str _ => true
  | _ => false
def eqF : D → D → Bool
  | .non, .non => true
  | .bl a, .bl b => a == b
  | .bl a, .int b => (if a then 1 else 0) == b
  | .int a, .bl b => a == (if b then 1 else 0)
  | .int a, .int b => a == b
  | .str a, .str b => a == b
  | _, _ => false
def items? : D → Option (List D)
  | .lst ds => some ds
  | .rol ds => some ds
  | .tup ds => some ds
  | _ => none
def inB : D → D → Option Bool
  | .str x, .str y => some (!(Builtin.Str.occurrences y x 0 y.length 1).isEmpty)
  | x, y => (items? y).bind fun ds => if flatD x = true ∧ ds.all flatD = true then some (ds.any fun z => eqF z x) else
      match toPy x, toPys ds, y with
      | some p, some ps, .lst _ => if SeqAt.shaped p = true ∧ SeqAt.shaped (.list ps) = true then some (ps.any fun z => PyData.eqv z p) else none
      | _, _, _ => none
def dIn (x y : D) : Option D := (inB x y).bind fun b => some (.bl b)
def dNotIn (x y : D) : Option D := (inB x y).bind fun b => some (.bl (!b))
section
variable {X : Cx}
theorem ops_lt (hu : X.A.units + 64 < cLine) : OpS X (compareOp .Lt) dLt := fun x y z h v u H W1 W2 Q rx ry q => by
  unfold dLt at h
  split at h
  · cases h; cases rx; cases ry
    exact WO.of op_lt ⟨_, _, rfl, rfl, q _ H [] (.bl _) (Ext.refl H) (fun _ z => nomatch z) .nil⟩
  · cases h; cases rx; cases ry
    exact WO.of op_lt_str ⟨_, _, rfl, rfl, q _ H [] (.bl _) (Ext.refl H) (fun _ z => nomatch z) .nil⟩
  · obtain ⟨ns, h1, h⟩ := Option.bind_eq_some_iff.mp h
    obtain ⟨ms, h2, h⟩ := Option.bind_eq_some_iff.mp h
    cases h
    have e1 := ints?_eq h1
    have e2 := ints?_eq h2
    subst e1; subst e2
    cases rx with
    | tup h3 r1 =>
      cases ry with
      | tup h4 r2 =>
        rw [r1.ints] at h3
        rw [r2.ints] at h4
        exact WO.of (op_ltT (by omega)) ⟨_, _, ns, ms, rfl, rfl, SqT.of h3, SqT.of h4, q _ H [] (.bl _) (Ext.refl H) (fun _ z => nomatch z) .nil⟩
  · cases h
theorem ops_le : OpS X (compareOp .LtE) dLe := fun x y z h v u H W1 W2 Q rx ry q => by
  unfold dLe at h
  split at h
  · cases h; cases rx; cases ry
    exact WO.of op_le ⟨_, _, rfl, rfl, q _ H [] (.bl _) (Ext.refl H) (fun _ z => nomatch z) .nil⟩
  · cases h
theorem ops_gt : OpS X (compareOp .Gt) dGt := fun x y z h v u H W1 W2 Q rx ry q => by
  unfold dGt at h
  split at h
  · cases h; cases rx; cases ry
    exact WO.of op_gt ⟨_, _, rfl, rfl, q _ H [] (.bl _) (Ext.refl H) (fun _ z => nomatch z) .nil⟩
  · cases h
theorem ops_ge : OpS X (compareOp .GtE) dGe := fun x y z h v u H W1 W2 Q rx ry q => by
  unfold dGe at h
  split at h
  · cases h; cases rx; cases ry
    exact WO.of op_ge ⟨_, _, rfl, rfl, q _ H [] (.bl _) (Ext.refl H) (fun _ z => nomatch z) .nil⟩
  · cases h
theorem isNon_ok {x : D} {v : V} {H : Hp} {W1 : List Addr} (rx : Rep X.K H x v W1) : decide (v = .non) = isNon x := by
  cases rx <;> rfl
theorem ops_is : OpS X (compareOp .Is) dIsN := fun x y z h v u H W1 W2 Q rx ry q => by
  unfold dIsN at h
  split at h
  · cases h; cases ry
    exact WO.of op_isN ⟨rfl, by rw [isNon_ok rx]; exact q _ H [] (.bl _) (Ext.refl H) (fun _ z => nomatch z) .nil⟩
  · split at h
    · cases h; cases rx; cases ry
      exact WO.of op_isBl ⟨_, _, rfl, rfl, q _ H [] (.bl _) (Ext.refl H) (fun _ z => nomatch z) .nil⟩
    · cases h
  · cases h
theorem ops_isnot : OpS X (compareOp .IsNot) dNotN := fun x y z h v u H W1 W2 Q rx ry q => by
  unfold dNotN at h
  split at h
  · cases h; cases ry
    exact WO.of op_notN ⟨rfl, by rw [isNon_ok rx]; exact q _ H [] (.bl _) (Ext.refl H) (fun _ z => nomatch z) .nil⟩
  · split at h
    · cases h; cases rx; cases ry
      exact WO.of op_notBl ⟨_, _, rfl, rfl, q _ H [] (.bl _) (Ext.refl H) (fun _ z => nomatch z) .nil⟩
    · cases h
  · cases h
theorem flat_v {x : D} {v : V} {K : PySem.W.Frag} {H : Hp} {W1 : List Addr} (f : flatD x = true) (rx : Rep K H x v W1) : flatV v = true := by
  cases rx <;> first | rfl | cases f
theorem eqF_v {x y : D} {v u : V} {K : PySem.W.Frag} {H : Hp} {W1 W2 : List Addr} (fx : flatD x = true) (fy : flatD y = true) (rx : Rep K H x v W1) (ry : Rep K H y u W2) : eqV v u = eqF x y := by
  cases rx <;> first | (cases fx; done) | (cases ry <;> first | rfl | cases fy)
theorem flats_v {K : PySem.W.Frag} {H : Hp} {x : D} {v : V} (fx : flatD x = true) {W : List Addr} (rx : Rep K H x v W) : ∀ {ds : List D} {vs : List V} {W1 : List Addr}, ds.all flatD = true → Reps K H ds vs W1 → vs.all flatV = true ∧ (vs.any fun y => eqV y v) = ds.any fun z => eqF z x
  | [], _, _, _, r => by cases r; exact ⟨rfl, rfl⟩
  | d :: ds, _, _, f, r => by
    rw [List.all_cons, Bool.and_eq_true] at f
    cases r with
    | cons r1 r2 =>
      obtain ⟨q1, q2⟩ := flats_v fx rx f.2 r2
      rw [List.all_cons, List.any_cons, List.any_cons, q1, q2, flat_v f.1 r1, eqF_v f.1 fx r1 rx]
      exact ⟨rfl, rfl⟩
theorem items_seq {K : PySem.W.Frag} {H : Hp} {y : D} {u : V} {W : List Addr} {ds : List D} (h : items? y = some ds) (ry : Rep K H y u W) : ∃ a vs W', u = .ref a ∧ (SqL K H a vs ∨ SqT K H a vs) ∧ Reps K H ds vs W' := by
  cases ry with
  | lst h1 r1 => cases h; exact ⟨_, _, _, rfl, .inl (SqL.of h1), r1⟩
  | rol h1 r1 => cases h; exact ⟨_, _, _, rfl, .inl h1.seq, r1⟩
  | tup h1 r1 => cases h; exact ⟨_, _, _, rfl, .inr (SqT.of h1), r1⟩
  | non => cases h
  | bl => cases h
  | int => cases h
  | str => cases h
  | dct => cases h
  | dtt => cases h
  | rod => cases h
theorem inB_ok (hu : X.A.units + 65 < cLine) {x y : D} {b : Bool} (h : inB x y = some b) {v u : V} {H : Hp} {W1 W2 : List Addr} (rx : Rep X.K H x v W1) (ry : Rep X.K H y u W2) {Q : VK} :
    (Q (.bl b) H → WO X (compareOp .In) v u H Q) ∧ (Q (.bl (!b)) H → WO X (compareOp .NotIn) v u H Q) := by
  unfold inB at h
  split at h
  · cases h; cases rx; cases ry
    exact ⟨fun q => WO.of op_in_str ⟨_, _, rfl, rfl, q⟩, fun q => WO.of op_notin_str ⟨_, _, rfl, rfl, q⟩⟩
  · obtain ⟨ds, h1, h⟩ := Option.bind_eq_some_iff.mp h
    split at h
    · rename_i hf
      cases h
      obtain ⟨a, vs, W', e, hs, rs⟩ := items_seq h1 ry
      subst e
      obtain ⟨q1, q2⟩ := flats_v hf.1 rx hf.2 rs
      refine ⟨fun q => WO.of op_in_seq ⟨a, vs, rfl, hs, flat_v hf.1 rx, q1, ?_⟩, fun q => WO.of op_notIn_seq ⟨a, vs, rfl, hs, flat_v hf.1 rx, q1, ?_⟩⟩
      · show Q (.bl (vs.any fun y => eqV y v)) H
        rw [q2]; exact q
      · show Q (.bl (!(vs.any fun y => eqV y v))) H
        rw [q2]; exact q
    · split at h
      · rename_i p ps es hp hps _ _
        split at h
        · rename_i hs
          cases h
          cases h1
          have d1 := Rep.dp _ _ _ _ rx hp
          have d2 : Dp X.K H u (.list ps) := Rep.dp _ _ _ _ ry (by show ((toPys _).bind fun r => some (PyData.list r)) = _; rw [hps]; rfl)
          exact ⟨fun q => WO.of (op_inD hu) ⟨p, ps, d1, d2, hs.1, hs.2, q⟩, fun q => WO.of (op_notInD hu) ⟨p, ps, d1, d2, hs.1, hs.2, q⟩⟩
        · cases h
      · cases h
theorem ops_in (hu : X.A.units + 65 < cLine) : OpS X (compareOp .In) dIn := fun x y z h v u H W1 W2 Q rx ry q => by
  unfold dIn at h
  obtain ⟨b, h1, h2⟩ := Option.bind_eq_some_iff.mp h
  cases h2
  exact (inB_ok hu h1 rx ry).1 (q _ H [] (.bl b) (Ext.refl H) (fun _ z => nomatch z) .nil)
theorem ops_notin (hu : X.A.units + 65 < cLine) : OpS X (compareOp .NotIn) dNotIn := fun x y z h v u H W1 W2 Q rx ry q => by
  unfold dNotIn at h
  obtain ⟨b, h1, h2⟩ := Option.bind_eq_some_iff.mp h
  cases h2
  exact (inB_ok hu h1 rx ry).2 (q _ H [] (.bl (!b)) (Ext.refl H) (fun _ z => nomatch z) .nil)
end

/-! ### subscripts -/
def dIx : D → D → Option D
  | .lst ds, .int i => atI ds i
  | .rol ds, .int i => atI ds i
  | .tup ds, .int i => atI ds i
  | .str z, .int i => if z.length ≤ sizeLine then (atI z.cps.toList i).bind fun c => some (.str ⟨#[c]⟩) else none
  | _, _ => none
theorem Reps.atI {K : PySem.W.Frag} {H : Hp} {ds : List D} {vs : List V} {W : List Addr} {i : Int} {d : D} (r : Reps K H ds vs W) (h : L2.atI ds i = some d) : ∃ v W', L2.atI vs i = some v ∧ Rep K H d v W' ∧ (∀ a ∈ W', a ∈ W) ∧ (W.Nodup → W'.Nodup) := by
  unfold L2.atI at h ⊢
  rw [← r.len]
  obtain ⟨j, h1, h2⟩ := Option.bind_eq_some_iff.mp h
  obtain ⟨v, W', e1, q⟩ := Reps.get j r h2
  exact ⟨v, W', by rw [h1]; exact e1, q⟩
section
variable {X : Cx}
theorem ixs : IxS X dIx := fun x y z h v u H W1 W2 Q rx ry q => by
  unfold dIx at h
  split at h
  · cases ry
    cases rx with
    | lst h1 r1 =>
      obtain ⟨v, W', e1, r, s, n⟩ := Reps.atI r1 h
      exact WI.of ix_list ⟨_, _, _, _, rfl, rfl, SqL.of h1, e1, q v W' r (fun a ha => List.mem_cons_of_mem _ (s a ha)) fun z => n (List.nodup_cons.mp z).2⟩
  · cases ry
    cases rx with
    | rol h1 r1 =>
      obtain ⟨v, W', e1, r, s, n⟩ := Reps.atI r1 h
      exact WI.of ix_list ⟨_, _, _, _, rfl, rfl, h1.seq, e1, q v W' r s fun _ => n .nil⟩
  · cases ry
    cases rx with
    | tup h1 r1 =>
      obtain ⟨v, W', e1, r, s, n⟩ := Reps.atI r1 h
      exact WI.of ix_tup ⟨_, _, _, _, rfl, rfl, SqT.of h1, e1, q v W' r s n⟩
  · split at h
    · rename_i hz
      obtain ⟨c, e1, h⟩ := Option.bind_eq_some_iff.mp h
      cases h
      cases rx; cases ry
      exact WI.of ix_str ⟨_, _, _, rfl, rfl, hz, e1, q _ [] (.str _) (fun _ z => nomatch z) fun _ => .nil⟩
    · cases h
  · cases h
end
end VL

/-! VLG: calls of built-ins, slices, methods and stores over plain data. -/
namespace VL
open PySem PySem.Spec L2

/-! ### built-ins by name -/
def eB (g : List D → Option D) (fs : Ev → Option (List D × Ev)) : Ev → Option (D × Ev) := fun env => (fs env).bind fun p => (g p.1).bind fun z => some (z, p.2)
section
variable {X : Cx} {M Mb R Ra Rb : List Nat} {a b c e o : Expr} {es : List Expr} {pos p : Pos} {f fa fb fc : Ev → Option (D × Ev)} {fs : Ev → Option (List D × Ev)} {g : List D → Option D} {id T : String} {x : Str}
theorem cb_run {F : Value} (hc : CallS X F g) (ha : VA X M R (e :: es) fs) {env : Ev} {d : D} {env' : Ev} (h : eB g fs env = some (d, env')) {σ : L2.St} {H : Hp} {Ws : Wm} {Q : VK} (re : REnv X.K H env σ Ws) (sp : Sep M Ws)
    (q : ∀ v H' Ws' W, Rep X.K H' d v W → REnv X.K H' env' σ Ws' → Tr M Ws Ws' H H' → Own M [] Ws Ws' H W → Q v H') : tCB (WC X F) (WA X (e :: es)) σ H Q := by
  unfold eB at h
  obtain ⟨⟨y, e1⟩, h1, h⟩ := Option.bind_eq_some_iff.mp h
  obtain ⟨z, h2, h⟩ := Option.bind_eq_some_iff.mp h
  cases h
  refine ha.run env y _ h1 σ H Ws _ re sp fun v H1 Ws1 W1 r1 re1 t1 o1 => ?_
  exact hc y _ h2 v H1 W1 Q r1 fun w H2 W r k hn nd => q w H2 Ws1 W r (k.renv re1) (k.tr t1) (Own.new t1 re1 hn nd)
theorem ve_callB (hc : CallS X (.builtin id) g) (hm : X.mg x = none) (hv : bootBuiltins x = some (.builtin id)) (ha : VA X M R (e :: es) fs) (hg : Gl X x := by rfl) (hn : x ≠ "__name__" := by decide) (hdb : (x == ("__debug__" : Str)) = false := by decide)
    (he : starEach (e :: es) X.env = (false, eval e X.env) :: starEach es X.env := by rfl) (hpl : (backTo pos (starEach es X.env)).any (·.1) = false := by rfl) : VE X M [] (.Call (.Name x p) (e :: es) [] pos) (eB g fs) := ⟨fun env d env' h σ H Ws Q re sp q =>
  WE.of (pe_callB call_wc hg hm hv pa_wa hn hdb he hpl) (cb_run hc ha h re sp q)⟩
theorem ve_callT (hc : CallS X (.type T) g) (hm : X.mg x = none) (hv : bootBuiltins x = some (.type T)) (ha : VA X M R (e :: es) fs) (hg : Gl X x := by rfl) (hn : x ≠ "__name__" := by decide) (hdb : (x == ("__debug__" : Str)) = false := by decide)
    (he : starEach (e :: es) X.env = (false, eval e X.env) :: starEach es X.env := by rfl) (hpl : (backTo pos (starEach es X.env)).any (·.1) = false := by rfl) : VE X M [] (.Call (.Name x p) (e :: es) [] pos) (eB g fs) := ⟨fun env d env' h σ H Ws Q re sp q =>
  WE.of (pe_callTy call_wc hg hm hv pa_wa hn hdb he hpl) (cb_run hc ha h re sp q)⟩
end

/-! what they answer -/
def gLen : List D → Option D
  | [.str z] => if z.length ≤ sizeLine then some (.int z.length) else none
  | [.lst ds] => some (.int ds.length)
  | [.rol ds] => some (.int ds.length)
  | [.tup ds] => some (.int ds.length)
  | [.dct ds] => some (.int ds.length)
  | [.rod ds] => some (.int ds.length)
  | [.dtt ds] => some (.int ds.length)
  | _ => none
def gInt : List D → Option D
  | [.int i] => some (.int i)
  | [.bl k] => some (.int (if k then 1 else 0))
  | _ => none
def gAbs : List D → Option D
  | [.int i] => some (.int (if i < 0 then -i else i))
  | _ => none
def maxI : List Int → Option Int
  | [] => none
  | [x] => some x
  | x :: r => (maxI r).bind fun m => some (if x ≤ m then m else x)
def minI : List Int → Option Int
  | [] => none
  | [x] => some x
  | x :: r => (minI r).bind fun m => some (if m ≤ x then m else x)
def gMax : List D → Option D
  | [.int i, .int j] => some (.int (if j > i then j else i))
  | [.lst ds] => (ints? ds).bind fun ns => (maxI ns).bind fun m => some (.int m)
  | [.tup ds] => (ints? ds).bind fun ns => (maxI ns).bind fun m => some (.int m)
  | _ => none
def gMin : List D → Option D
  | [.int i, .int j] => some (.int (if j < i then j else i))
  | [.lst ds] => (ints? ds).bind fun ns => (minI ns).bind fun m => some (.int m)
  | [.tup ds] => (ints? ds).bind fun ns => (minI ns).bind fun m => some (.int m)
  | _ => none
def gSum : List D → Option D
  | [.lst ds] => (ints? ds).bind fun ns => some (.int ns.sum)
  | _ => none
def gTuple : List D → Option D
  | [.lst ds] => if lfs ds = true then some (.tup ds) else none
  | [.tup ds] => if lfs ds = true then some (.tup ds) else none
  | _ => none
def gList : List D → Option D
  | [.lst ds] => if lfs ds = true then some (.lst ds) else none
  | [.rol ds] => if lfs ds = true then some (.lst ds) else none
  | [.tup ds] => if lfs ds = true then some (.lst ds) else none
  | _ => none
def insI (x : Int) : List Int → List Int
  | [] => [x]
  | y :: r => if x ≤ y then x :: y :: r else y :: insI x r
def sortI : List Int → List Int
  | [] => []
  | x :: r => insI x (sortI r)
def gSorted : List D → Option D
  | [.lst ds] => (ints? ds).bind fun ns => some (.lst ((sortI ns).map D.int))
  | _ => none
def bls? : List D → Option (List Bool)
  | [] => some []
  | .bl i :: r => (bls? r).bind fun s => some (i :: s)
  | _ => none
def gAny : List D → Option D
  | [.lst ds] => (bls? ds).bind fun bs => some (.bl (bs.any id))
  | _ => none
def gAll : List D → Option D
  | [.lst ds] => (bls? ds).bind fun bs => some (.bl (bs.all id))
  | _ => none
def gStr : List D → Option D
  | [.int i] => if i.natAbs.log2 < 1920 then some (.str (toString i)) else none
  | _ => none
theorem insI_perm (x : Int) : ∀ l, (insI x l).Perm (x :: l)
  | [] => .refl _
  | y :: r => by
    unfold insI
    split
    · exact .refl _
    · exact ((insI_perm x r).cons y).trans (.swap x y r)
theorem sortI_perm : ∀ l, (sortI l).Perm l
  | [] => .refl _
  | x :: r => (insI_perm x (sortI r)).trans ((sortI_perm r).cons x)
theorem insI_sorted {x : Int} : ∀ {l : List Int}, l.Pairwise (· ≤ ·) → (insI x l).Pairwise (· ≤ ·)
  | [], _ => List.pairwise_singleton _ _
  | y :: r, h => by
    unfold insI
    have h' := List.pairwise_cons.mp h
    split
    · rename_i hxy
      refine List.pairwise_cons.mpr ⟨fun z hz => ?_, h⟩
      rcases List.mem_cons.mp hz with rfl | hz
      · exact hxy
      · exact Int.le_trans hxy (h'.1 z hz)
    · rename_i hxy
      refine List.pairwise_cons.mpr ⟨fun z hz => ?_, insI_sorted h'.2⟩
      rcases List.mem_cons.mp ((insI_perm x r).mem_iff.mp hz) with rfl | hz
      · omega
      · exact h'.1 z hz
theorem sortI_sorted : ∀ l : List Int, (sortI l).Pairwise (· ≤ ·)
  | [] => .nil
  | x :: r => insI_sorted (sortI_sorted r)
theorem sorted_uniq : ∀ {l l' : List Int}, l.Perm l' → l.Pairwise (· ≤ ·) → l'.Pairwise (· ≤ ·) → l = l'
  | [], l', p, _, _ => (List.Perm.nil_eq p)
  | x :: r, [], p, _, _ => absurd p.length_eq (by simp)
  | x :: r, y :: s, p, h, h' => by
    have h1 := List.pairwise_cons.mp h
    have h2 := List.pairwise_cons.mp h'
    have exy : x = y := by
      have m1 : x ∈ y :: s := p.mem_iff.mp List.mem_cons_self
      have m2 : y ∈ x :: r := p.mem_iff.mpr List.mem_cons_self
      rcases List.mem_cons.mp m1 with e | m1
      · exact e
      · rcases List.mem_cons.mp m2 with e | m2
        · exact e.symm
        · have a := h2.1 x m1
          have b := h1.1 y m2
          omega
    subst exy
    rw [sorted_uniq (List.Perm.cons_inv p) h1.2 h2.2]
theorem sortI_of {l l' : List Int} (p : l'.Perm l) (h : l'.Pairwise (· ≤ ·)) : l' = sortI l := sorted_uniq (p.trans (sortI_perm l).symm) h (sortI_sorted l)
theorem maxI_spec : ∀ {l : List Int} {m : Int}, maxI l = some m → m ∈ l ∧ ∀ y ∈ l, y ≤ m
  | [x], m, h => by
    cases h
    exact ⟨List.mem_cons_self, fun y hy => by have e : y = x := by simpa using hy
                                              rw [e]; exact Int.le_refl _⟩
  | x :: z :: r, m, h => by
    obtain ⟨m', h1, h2⟩ := Option.bind_eq_some_iff.mp (show ((maxI (z :: r)).bind fun m => some (if x ≤ m then m else x)) = some m from h)
    obtain ⟨q1, q2⟩ := maxI_spec h1
    cases h2
    split
    · rename_i hx
      refine ⟨List.mem_cons_of_mem _ q1, fun y hy => ?_⟩
      rcases List.mem_cons.mp hy with rfl | hy
      · exact hx
      · exact q2 y hy
    · rename_i hx
      refine ⟨List.mem_cons_self, fun y hy => ?_⟩
      rcases List.mem_cons.mp hy with rfl | hy
      · exact Int.le_refl _
      · have := q2 y hy
        omega
theorem minI_spec : ∀ {l : List Int} {m : Int}, minI l = some m → m ∈ l ∧ ∀ y ∈ l, m ≤ y
  | [x], m, h => by
    cases h
    exact ⟨List.mem_cons_self, fun y hy => by have e : y = x := by simpa using hy
                                              rw [e]; exact Int.le_refl _⟩
  | x :: z :: r, m, h => by
    obtain ⟨m', h1, h2⟩ := Option.bind_eq_some_iff.mp (show ((minI (z :: r)).bind fun m => some (if m ≤ x then m else x)) = some m from h)
    obtain ⟨q1, q2⟩ := minI_spec h1
    cases h2
    split
    · rename_i hx
      refine ⟨List.mem_cons_of_mem _ q1, fun y hy => ?_⟩
      rcases List.mem_cons.mp hy with rfl | hy
      · exact hx
      · exact q2 y hy
    · rename_i hx
      refine ⟨List.mem_cons_self, fun y hy => ?_⟩
      rcases List.mem_cons.mp hy with rfl | hy
      · exact Int.le_refl _
      · have := q2 y hy
        omega
theorem bls?_eq : ∀ {ds : List D} {ns : List Bool}, bls? ds = some ns → ds = ns.map D.bl
  | [], _, h => by cases h; rfl
  | .bl i :: r, _, h => by
    obtain ⟨s, h1, h2⟩ := Option.bind_eq_some_iff.mp (show ((bls? r).bind fun s => some (i :: s)) = some _ from h)
    cases h2
    rw [bls?_eq h1]; rfl
  | .non :: _, _, h => nomatch h
  | .int _ :: _, _, h => nomatch h
  | .str _ :: _, _, h => nomatch h
  | .tup _ :: _, _, h => nomatch h
  | .lst _ :: _, _, h => nomatch h
  | .rol _ :: _, _, h => nomatch h
  | .dct _ :: _, _, h => nomatch h
  | .dtt _ :: _, _, h => nomatch h
  | .rod _ :: _, _, h => nomatch h
theorem Reps.bls {K : PySem.W.Frag} {H : Hp} : ∀ {ns : List Bool} {vs : List V} {W : List Addr}, Reps K H (ns.map D.bl) vs W → vs = ns.map V.bl
  | [], _, _, h => by cases h; rfl
  | n :: ns, _, _, h => by
    cases h with
    | cons h1 h2 =>
      cases h1
      rw [Reps.bls h2]
      rfl
theorem RepK.len {K : PySem.W.Frag} {H : Hp} : ∀ {ds : List (Key × D)} {vs : List (Key × V)} {W : List Addr}, RepK K H ds vs W → ds.length = vs.length
  | [], _, _, h => by cases h; rfl
  | (_, _) :: _, _, _, h => by cases h with | cons h1 h2 => exact congrArg (· + 1) (RepK.len h2)
theorem RepT.len {K : PySem.W.Frag} {H : Hp} : ∀ {ds : List (List Key × D)} {vs : List (List Key × V)} {W : List Addr}, RepT K H ds vs W → ds.length = vs.length
  | [], _, _, h => by cases h; rfl
  | (_, _) :: _, _, _, h => by cases h with | cons h1 h2 => exact congrArg (· + 1) (RepT.len h2)
theorem Reps.one {K : PySem.W.Frag} {H : Hp} {d : D} {vs : List V} {W : List Addr} (h : Reps K H [d] vs W) : ∃ v, vs = [v] ∧ Rep K H d v W := by
  cases h with
  | cons h1 h2 => cases h2; rw [List.append_nil]; exact ⟨_, rfl, h1⟩
section
variable {X : Cx}
theorem cs_len : CallS X (.builtin "len") gLen := fun x z h v H W1 Q r q => by
  unfold gLen at h
  split at h
  · split at h
    · rename_i hl
      cases h
      obtain ⟨u, rfl, r0⟩ := r.one
      cases r0
      exact WC.of call_len ⟨_, _, rfl, ⟨hl, rfl⟩, q _ H [] (.int _) (Ext.refl H) (fun _ z => nomatch z) .nil⟩
    · cases h
  · cases h
    obtain ⟨u, rfl, r0⟩ := r.one
    cases r0 with
    | lst h1 r1 => exact WC.of call_len ⟨_, _, rfl, .inl ⟨_, SqL.of h1, rfl⟩, by rw [← r1.len]; exact q _ H [] (.int _) (Ext.refl H) (fun _ z => nomatch z) .nil⟩
  · cases h
    obtain ⟨u, rfl, r0⟩ := r.one
    cases r0 with
    | rol h1 r1 => exact WC.of call_len ⟨_, _, rfl, .inl ⟨_, h1.seq, rfl⟩, by rw [← r1.len]; exact q _ H [] (.int _) (Ext.refl H) (fun _ z => nomatch z) .nil⟩
  · cases h
    obtain ⟨u, rfl, r0⟩ := r.one
    cases r0 with
    | tup h1 r1 => exact WC.of call_len ⟨_, _, rfl, .inr ⟨_, SqT.of h1, rfl⟩, by rw [← r1.len]; exact q _ H [] (.int _) (Ext.refl H) (fun _ z => nomatch z) .nil⟩
  · cases h
    obtain ⟨u, rfl, r0⟩ := r.one
    cases r0 with
    | dct h1 r1 =>
      have q' := q _ H [] (.int _) (Ext.refl H) (fun _ z => nomatch z) .nil
      rw [r1.len] at q'
      intro pins s σ us I ru
      rw [Vals.ref1 ru]
      exact d_len I (.inl h1) fun t s' I' => ⟨.int _, H, I', ⟨t, rfl⟩, q'⟩
  · cases h
    obtain ⟨u, rfl, r0⟩ := r.one
    cases r0 with
    | rod h1 r1 =>
      obtain ⟨o, h1⟩ := h1
      have q' := q _ H [] (.int _) (Ext.refl H) (fun _ z => nomatch z) .nil
      rw [r1.len] at q'
      intro pins s σ us I ru
      rw [Vals.ref1 ru]
      exact d_len I (.inr ⟨o, h1⟩) fun t s' I' => ⟨.int _, H, I', ⟨t, rfl⟩, q'⟩
  · cases h
    obtain ⟨u, rfl, r0⟩ := r.one
    cases r0 with
    | dtt h1 r1 => exact WC.of call_len_dT ⟨_, _, rfl, h1, by rw [← r1.len]; exact q _ H [] (.int _) (Ext.refl H) (fun _ z => nomatch z) .nil⟩
  · cases h
theorem cs_int : CallS X (.type "int") gInt := fun x z h v H W1 Q r q => by
  unfold gInt at h
  split at h
  · cases h
    obtain ⟨u, rfl, r0⟩ := r.one
    cases r0
    exact WC.of call_int1 (.inl ⟨_, rfl, q _ H [] (.int _) (Ext.refl H) (fun _ z => nomatch z) .nil⟩)
  · cases h
    obtain ⟨u, rfl, r0⟩ := r.one
    cases r0
    exact WC.of call_int1 (.inr ⟨_, rfl, q _ H [] (.int _) (Ext.refl H) (fun _ z => nomatch z) .nil⟩)
  · cases h
theorem cs_abs : CallS X (.builtin "abs") gAbs := fun x z h v H W1 Q r q => by
  unfold gAbs at h
  split at h
  · cases h
    obtain ⟨u, rfl, r0⟩ := r.one
    cases r0
    exact WC.of call_abs ⟨_, rfl, q _ H [] (.int _) (Ext.refl H) (fun _ z => nomatch z) .nil⟩
  · cases h
theorem max_raw' (hc : X.calm = true) {v : V} {ns : List Int} {m : Int} (hm : maxI ns = some m) {H : Hp} {Q : VK} {a : Addr} (hl : SqL X.K H a (ns.map V.int)) (q : Q (.int m) H) : WC X (.builtin "max") [.ref a] H Q := by
  obtain ⟨m1, m2⟩ := maxI_spec hm
  refine WC.of (cr_max hc) ⟨a, ns, rfl, hl, List.length_pos_of_mem m1, fun k k1 k2 => ?_⟩
  have a1 := m2 k k1
  have a2 := k2 m m1
  have e : k = m := by omega
  rw [e]; exact q
theorem min_raw' (hc : X.calm = true) {v : V} {ns : List Int} {m : Int} (hm : minI ns = some m) {H : Hp} {Q : VK} {a : Addr} (hl : SqL X.K H a (ns.map V.int)) (q : Q (.int m) H) : WC X (.builtin "min") [.ref a] H Q := by
  obtain ⟨m1, m2⟩ := minI_spec hm
  refine WC.of (cr_min hc) ⟨a, ns, rfl, hl, List.length_pos_of_mem m1, fun k k1 k2 => ?_⟩
  have a1 := m2 k k1
  have a2 := k2 m m1
  have e : k = m := by omega
  rw [e]; exact q
def gMaxL : List D → Option D
  | [.int i, .int j] => some (.int (if j > i then j else i))
  | [.lst ds] => (ints? ds).bind fun ns => (maxI ns).bind fun m => some (.int m)
  | _ => none
def gMinL : List D → Option D
  | [.int i, .int j] => some (.int (if j < i then j else i))
  | [.lst ds] => (ints? ds).bind fun ns => (minI ns).bind fun m => some (.int m)
  | _ => none
theorem cs_max (hc : X.calm = true := by rfl) : CallS X (.builtin "max") gMaxL := fun x z h v H W1 Q r q => by
  unfold gMaxL at h
  split at h
  · cases h
    cases r with
    | cons r1 r =>
      obtain ⟨u, rfl, r2⟩ := Reps.one r
      cases r1; cases r2
      exact WC.of (call_max2 hc) ⟨_, _, rfl, q _ H [] (.int _) (Ext.refl H) (fun _ z => nomatch z) .nil⟩
  · obtain ⟨ns, h1, h⟩ := Option.bind_eq_some_iff.mp h
    obtain ⟨m, h2, h⟩ := Option.bind_eq_some_iff.mp h
    cases h
    have e1 := ints?_eq h1
    subst e1
    obtain ⟨u, rfl, r0⟩ := r.one
    cases r0 with
    | lst h3 r3 =>
      rw [r3.ints] at h3
      exact max_raw' hc (v := .non) h2 (SqL.of h3) (q _ H [] (.int _) (Ext.refl H) (fun _ z => nomatch z) .nil)
  · cases h
theorem cs_min (hc : X.calm = true := by rfl) : CallS X (.builtin "min") gMinL := fun x z h v H W1 Q r q => by
  unfold gMinL at h
  split at h
  · cases h
    cases r with
    | cons r1 r =>
      obtain ⟨u, rfl, r2⟩ := Reps.one r
      cases r1; cases r2
      exact WC.of (call_min2 hc) ⟨_, _, rfl, q _ H [] (.int _) (Ext.refl H) (fun _ z => nomatch z) .nil⟩
  · obtain ⟨ns, h1, h⟩ := Option.bind_eq_some_iff.mp h
    obtain ⟨m, h2, h⟩ := Option.bind_eq_some_iff.mp h
    cases h
    have e1 := ints?_eq h1
    subst e1
    obtain ⟨u, rfl, r0⟩ := r.one
    cases r0 with
    | lst h3 r3 =>
      rw [r3.ints] at h3
      exact min_raw' hc (v := .non) h2 (SqL.of h3) (q _ H [] (.int _) (Ext.refl H) (fun _ z => nomatch z) .nil)
  · cases h
theorem cs_sum (hc : X.calm = true := by rfl) : CallS X (.builtin "sum") gSum := fun x z h v H W1 Q r q => by
  unfold gSum at h
  split at h
  · obtain ⟨ns, h1, h⟩ := Option.bind_eq_some_iff.mp h
    cases h
    have e1 := ints?_eq h1
    subst e1
    obtain ⟨u, rfl, r0⟩ := r.one
    cases r0 with
    | lst h3 r3 =>
      rw [r3.ints] at h3
      exact WC.of (cr_sum hc) ⟨_, ns, rfl, SqL.of h3, q _ H [] (.int _) (Ext.refl H) (fun _ z => nomatch z) .nil⟩
  · cases h
theorem cs_any (hc : X.calm = true := by rfl) : CallS X (.builtin "any") gAny := fun x z h v H W1 Q r q => by
  unfold gAny at h
  split at h
  · obtain ⟨ns, h1, h⟩ := Option.bind_eq_some_iff.mp h
    cases h
    have e1 := bls?_eq h1
    subst e1
    obtain ⟨u, rfl, r0⟩ := r.one
    cases r0 with
    | lst h3 r3 =>
      rw [r3.bls] at h3
      exact WC.of (cr_any hc) ⟨_, ns, rfl, SqL.of h3, q _ H [] (.bl _) (Ext.refl H) (fun _ z => nomatch z) .nil⟩
  · cases h
theorem cs_all (hc : X.calm = true := by rfl) : CallS X (.builtin "all") gAll := fun x z h v H W1 Q r q => by
  unfold gAll at h
  split at h
  · obtain ⟨ns, h1, h⟩ := Option.bind_eq_some_iff.mp h
    cases h
    have e1 := bls?_eq h1
    subst e1
    obtain ⟨u, rfl, r0⟩ := r.one
    cases r0 with
    | lst h3 r3 =>
      rw [r3.bls] at h3
      exact WC.of (cr_all hc) ⟨_, ns, rfl, SqL.of h3, q _ H [] (.bl _) (Ext.refl H) (fun _ z => nomatch z) .nil⟩
  · cases h
theorem cs_str : CallS X (.type "str") gStr := fun x z h v H W1 Q r q => by
  unfold gStr at h
  split at h
  · split at h
    · rename_i hl
      cases h
      obtain ⟨u, rfl, r0⟩ := r.one
      cases r0
      exact WC.of call_str_int ⟨_, rfl, hl, q _ H [] (.str _) (Ext.refl H) (fun _ z => nomatch z) .nil⟩
    · cases h
  · cases h
theorem cs_sorted : CallS X (.builtin "sorted") gSorted := fun x z h v H W1 Q r q => by
  unfold gSorted at h
  split at h
  · obtain ⟨ns, h1, h⟩ := Option.bind_eq_some_iff.mp h
    cases h
    have e1 := ints?_eq h1
    subst e1
    obtain ⟨u, rfl, r0⟩ := r.one
    cases r0 with
    | lst h3 r3 =>
      rw [r3.ints] at h3
      refine WC.of cr_sortedI ⟨_, ns, rfl, SqL.of h3, fun ns' p hp hs hn => ?_⟩
      rw [sortI_of hp hs]
      exact q _ _ [p] (.lst upd_same (reps_ints _)) (Ext.new hn) (new1 hn) nd1
  · cases h
theorem cs_tuple : CallS X (.type "tuple") gTuple := fun x z h v H W1 Q r q => by
  unfold gTuple at h
  split at h
  · split at h
    · rename_i hl
      cases h
      obtain ⟨u, rfl, r0⟩ := r.one
      cases r0 with
      | lst h3 r3 =>
        refine WC.of call_tuple_of ⟨_, _, rfl, .inl ⟨SqL.of h3, fun p hn => ?_⟩⟩
        exact q _ _ [] (.tup upd_same ((Ext.new hn).reps (r3.flat hl))) (Ext.new hn) (fun _ z => nomatch z) .nil
    · cases h
  · split at h
    · rename_i hl
      cases h
      obtain ⟨u, rfl, r0⟩ := r.one
      cases r0 with
      | tup h3 r3 =>
        exact WC.of call_tuple_of ⟨_, _, rfl, .inr ⟨SqT.of h3, q _ H [] (.tup h3 (r3.flat hl)) (Ext.refl H) (fun _ z => nomatch z) .nil⟩⟩
    · cases h
  · cases h
theorem cs_list : CallS X (.type "list") gList := fun x z h v H W1 Q r q => by
  unfold gList at h
  split at h
  · split at h
    · rename_i hl
      cases h
      obtain ⟨u, rfl, r0⟩ := r.one
      cases r0 with
      | lst h3 r3 =>
        refine WC.of call_list_of ⟨_, _, rfl, .inl (SqL.of h3), fun p hn => ?_⟩
        exact q _ _ [p] (.lst upd_same ((Ext.new hn).reps (r3.flat hl))) (Ext.new hn) (new1 hn) nd1
    · cases h
  · split at h
    · rename_i hl
      cases h
      obtain ⟨u, rfl, r0⟩ := r.one
      cases r0 with
      | rol h3 r3 =>
        refine WC.of call_list_of ⟨_, _, rfl, .inl h3.seq, fun p hn => ?_⟩
        exact q _ _ [p] (.lst upd_same ((Ext.new hn).reps r3)) (Ext.new hn) (new1 hn) nd1
    · cases h
  · split at h
    · rename_i hl
      cases h
      obtain ⟨u, rfl, r0⟩ := r.one
      cases r0 with
      | tup h3 r3 =>
        refine WC.of call_list_of ⟨_, _, rfl, .inr (SqT.of h3), fun p hn => ?_⟩
        exact q _ _ [p] (.lst upd_same ((Ext.new hn).reps (r3.flat hl))) (Ext.new hn) (new1 hn) nd1
    · cases h
  · cases h
end

/-! ### isinstance -/
def tyN : D → String
  | .non => "NoneType"
  | .bl _ => "bool"
  | .int _ => "int"
  | .str _ => "str"
  | .tup _ => "tuple"
  | .lst _ => "list"
  | .rol _ => "list"
  | .dct _ => "dict"
  | .dtt _ => "dict"
  | .rod _ => "dict"
/-- what isinstance answers of the built-in type T -/
def isi (T : String) : D → Bool
  | .bl _ => T == "bool" || T == "int"
  | d => tyN d == T
def eIsi (T : String) (f : Ev → Option (D × Ev)) : Ev → Option (D × Ev) := fun env => (f env).bind fun p => some (.bl (isi T p.1), p.2)
section
variable {X : Cx} {M R : List Nat} {e : Expr} {f : Ev → Option (D × Ev)} {p p2 pos : Pos}
theorem tyx_of {d : D} {v : V} {H : Hp} {W : List Addr} (r : Rep X.K H d v W) : TyX X.K H v (.type (tyN d)) := by
  cases r with
  | non => exact .base .non
  | bl => exact .base (.bl _)
  | int => exact .base (.int _)
  | str => exact .base (.str _)
  | tup h1 r1 =>
    exact .base (.tup h1)
  | lst h1 r1 => exact .base (.lst h1)
  | rol h1 r1 =>
    rcases h1 with ⟨o, h1⟩ | ⟨o, its, n, h1, h2, _⟩
    · exact .base (.frz h1)
    · exact .kList h1 h2
  | dct h1 r1 => exact .base (.dK h1)
  | dtt h1 r1 => exact .base (.dT h1)
  | rod h1 r1 => obtain ⟨o, h1⟩ := h1; exact .fDict h1
theorem ve_isi {T : String} {x : Str} (he : VE X M R e f) (hm : X.mg "isinstance" = none) (hx : X.mg x = none) (hv : bootBuiltins x = some (.type T)) (hk : ∀ d, kitB (tyN d) T = some (isi T d)) (hg : Gl X "isinstance" := by rfl) (hgx : Gl X x := by rfl)
    (hn : x ≠ "__name__" := by decide) (hdb : (x == ("__debug__" : Str)) = false := by decide)
    (h1 : starEach [e, .Name x p2] X.env = (false, eval e X.env) :: starEach [.Name x p2] X.env := by rfl) (h2 : starEach [.Name x p2] X.env = (false, eval (.Name x p2) X.env) :: starEach [] X.env := by rfl) (hpl : (backTo pos (starEach [.Name x p2] X.env)).any (·.1) = false := by rfl) :
    VE X M [] (.Call (.Name "isinstance" p) [e, .Name x p2] [] pos) (eIsi T f) := ⟨fun env d env' h σ H Ws Q re sp q => by
  unfold eIsi at h
  obtain ⟨⟨y, e1⟩, h3, h⟩ := Option.bind_eq_some_iff.mp h
  cases h
  refine WE.of (pe_callB call_isi hg hm (by decide +kernel) (pa_cons pe_we (pa_cons (pe_bltn (v := .ty T) hgx hx hv rfl hn hdb) pa_nil h2) h1) (by decide) (by decide) h1 hpl) ?_
  refine he.run env y _ h3 σ H Ws _ re sp fun v H1 Ws1 W1 r1 re1 t1 o1 => ?_
  exact ⟨v, .ty T, _, _, isi T y, rfl, .ty T, tyx_of r1, kit_ty (hk y), q _ H1 Ws1 [] (.bl _) re1 t1 Own.nil⟩⟩
theorem kit_bool_NoneType : kitB "NoneType" "bool" = some false := by decide +kernel
theorem kit_bool_bool : kitB "bool" "bool" = some true := by decide +kernel
theorem kit_bool_dict : kitB "dict" "bool" = some false := by decide +kernel
theorem kit_bool_int : kitB "int" "bool" = some false := by decide +kernel
theorem kit_bool_list : kitB "list" "bool" = some false := by decide +kernel
theorem kit_bool_str : kitB "str" "bool" = some false := by decide +kernel
theorem kit_bool_tuple : kitB "tuple" "bool" = some false := by decide +kernel
theorem kit_bool : ∀ d : D, kitB (tyN d) "bool" = some (isi "bool" d)
  | .non => kit_bool_NoneType
  | .bl _ => kit_bool_bool
  | .int _ => kit_bool_int
  | .str _ => kit_bool_str
  | .tup _ => kit_bool_tuple
  | .lst _ => kit_bool_list
  | .rol _ => kit_bool_list
  | .dct _ => kit_bool_dict
  | .dtt _ => kit_bool_dict
  | .rod _ => kit_bool_dict
theorem kit_int_NoneType : kitB "NoneType" "int" = some false := by decide +kernel
theorem kit_int_bool : kitB "bool" "int" = some true := by decide +kernel
theorem kit_int_dict : kitB "dict" "int" = some false := by decide +kernel
theorem kit_int_int : kitB "int" "int" = some true := by decide +kernel
theorem kit_int_list : kitB "list" "int" = some false := by decide +kernel
theorem kit_int_str : kitB "str" "int" = some false := by decide +kernel
theorem kit_int_tuple : kitB "tuple" "int" = some false := by decide +kernel
theorem kit_int : ∀ d : D, kitB (tyN d) "int" = some (isi "int" d)
  | .non => kit_int_NoneType
  | .bl _ => kit_int_bool
  | .int _ => kit_int_int
  | .str _ => kit_int_str
  | .tup _ => kit_int_tuple
  | .lst _ => kit_int_list
  | .rol _ => kit_int_list
  | .dct _ => kit_int_dict
  | .dtt _ => kit_int_dict
  | .rod _ => kit_int_dict
theorem kit_str_NoneType : kitB "NoneType" "str" = some false := by decide +kernel
theorem kit_str_bool : kitB "bool" "str" = some false := by decide +kernel
theorem kit_str_dict : kitB "dict" "str" = some false := by decide +kernel
theorem kit_str_int : kitB "int" "str" = some false := by decide +kernel
theorem kit_str_list : kitB "list" "str" = some false := by decide +kernel
theorem kit_str_str : kitB "str" "str" = some true := by decide +kernel
theorem kit_str_tuple : kitB "tuple" "str" = some false := by decide +kernel
theorem kit_str : ∀ d : D, kitB (tyN d) "str" = some (isi "str" d)
  | .non => kit_str_NoneType
  | .bl _ => kit_str_bool
  | .int _ => kit_str_int
  | .str _ => kit_str_str
  | .tup _ => kit_str_tuple
  | .lst _ => kit_str_list
  | .rol _ => kit_str_list
  | .dct _ => kit_str_dict
  | .dtt _ => kit_str_dict
  | .rod _ => kit_str_dict
theorem kit_tuple_NoneType : kitB "NoneType" "tuple" = some false := by decide +kernel
theorem kit_tuple_bool : kitB "bool" "tuple" = some false := by decide +kernel
theorem kit_tuple_dict : kitB "dict" "tuple" = some false := by decide +kernel
theorem kit_tuple_int : kitB "int" "tuple" = some false := by decide +kernel
theorem kit_tuple_list : kitB "list" "tuple" = some false := by decide +kernel
theorem kit_tuple_str : kitB "str" "tuple" = some false := by decide +kernel
theorem kit_tuple_tuple : kitB "tuple" "tuple" = some true := by decide +kernel
theorem kit_tuple : ∀ d : D, kitB (tyN d) "tuple" = some (isi "tuple" d)
  | .non => kit_tuple_NoneType
  | .bl _ => kit_tuple_bool
  | .int _ => kit_tuple_int
  | .str _ => kit_tuple_str
  | .tup _ => kit_tuple_tuple
  | .lst _ => kit_tuple_list
  | .rol _ => kit_tuple_list
  | .dct _ => kit_tuple_dict
  | .dtt _ => kit_tuple_dict
  | .rod _ => kit_tuple_dict
end

/-! ### slices -/
def cutD (ds : List D) (lo hi : Option Int) : List D := (ds.drop (HT.sIx ds.length 0 lo)).take (HT.sIx ds.length ds.length hi - HT.sIx ds.length 0 lo)
def dSl : D → Option Int → Option Int → Option D
  | .tup ds, lo, hi => if lfs ds = true then some (.tup (cutD ds lo hi)) else none
  | .lst ds, lo, hi => if lfs ds = true then some (.lst (cutD ds lo hi)) else none
  | .rol ds, lo, hi => if lfs ds = true then some (.lst (cutD ds lo hi)) else none
  | .str z, lo, hi => if z.length ≤ sizeLine then some (.str (cutS z lo hi)) else none
  | _, _, _ => none
abbrev Po := Ev → Option (Option Int × Ev)
def oN : Po := fun env => some (none, env)
def oS (f : Ev → Option (D × Ev)) : Po := fun env => (f env).bind fun p => match p.1 with
  | .int i => some (some i, p.2)
  | _ => none
def eSl (f : Ev → Option (D × Ev)) (g h : Po) : Ev → Option (D × Ev) := fun env => (f env).bind fun p => (g p.2).bind fun q => (h q.2).bind fun r => (dSl p.1 q.1 r.1).bind fun z => some (z, r.2)
def WPo (X : Cx) (e : Option Expr) : TO := fun σ H Q => ∀ pins s, Inv X pins σ H s → wpAny (model X.prog X.w) X.A (evalPart e X.env) (fun u s' => ∃ o H', Inv X pins σ H' s' ∧ PySem.IsPart u o ∧ Q o H') X.xe s
theorem po_w {X : Cx} {e : Option Expr} : PO X e (WPo X e) := ⟨fun pins s σ H Q I h => h pins s I⟩
structure VO (X : Cx) (M : List Nat) (e : Option Expr) (f : Po) : Prop where
  run : ∀ (env : Ev) (d : Option Int) (env' : Ev), f env = some (d, env') → ∀ (σ : L2.St) (H : Hp) (Ws : Wm) (Q : Option Int → Hp → Prop), REnv X.K H env σ Ws → Sep M Ws →
    (∀ H' Ws', REnv X.K H' env' σ Ws' → Tr M Ws Ws' H H' → Q d H') → WPo X e σ H Q
theorem Reps.cut {K : PySem.W.Frag} {H : Hp} {ds : List D} {vs : List V} (r : Reps K H ds vs []) (lo hi : Option Int) : Reps K H (cutD ds lo hi) (cutV vs lo hi) [] := by
  unfold cutD cutV
  rw [← r.len]
  obtain ⟨W1, r1, s1, _⟩ := r.drop (HT.sIx ds.length 0 lo)
  have e1 : W1 = [] := by
    cases W1 with
    | nil => rfl
    | cons a _ => exact nomatch s1 a List.mem_cons_self
  subst e1
  obtain ⟨W2, r2, s2, _⟩ := r1.take (HT.sIx ds.length ds.length hi - HT.sIx ds.length 0 lo)
  have e2 : W2 = [] := by
    cases W2 with
    | nil => rfl
    | cons a _ => exact nomatch s2 a List.mem_cons_self
  subst e2
  exact r2
section
variable {X : Cx} {M Mb R Ra : List Nat} {e : Expr} {lo hi : Option Expr} {f : Ev → Option (D × Ev)} {fl fh : Po} {p2 pos : Pos}
theorem vo_none : VO X M none oN := ⟨fun env d env' h σ H Ws Q re sp q => by
  cases h
  exact fun pins s I => po_none.run pins s σ H Q I (q H Ws re (Tr.refl sp))⟩
theorem vo_some (he : VE X M R e f) : VO X M (some e) (oS f) := ⟨fun env d env' h σ H Ws Q re sp q => by
  unfold oS at h
  obtain ⟨⟨y, e1⟩, h1, h⟩ := Option.bind_eq_some_iff.mp h
  split at h
  · rename_i i hi
    cases h
    have hi' : y = .int i := hi
    subst hi'
    intro pins s I
    refine (po_some pe_we).run pins s σ H Q I (he.run env _ _ h1 σ H Ws _ re sp fun v H1 Ws1 W1 r1 re1 t1 o1 => ?_)
    cases r1
    exact ⟨i, rfl, q H1 Ws1 re1 t1⟩
  · cases h⟩
theorem sl_any : SlR X (fun x lo hi H Q => (rSlA X.K x lo hi H Q ∨ rSlL X.K x lo hi H Q) ∨ ∃ z, x = .str z ∧ z.length ≤ sizeLine ∧ Q (.str (cutS z lo hi)) H) := (sl_tupA.or sl_list).or sl_str
theorem ve_sl (he : VE X M Ra e f) (hl : VO X Mb lo fl) (hh : VO X Mb hi fh) (hs : ∀ i ∈ Mb, i ∈ M := by decide) (hd : ∀ i ∈ Ra, i ∉ Mb := by decide) : VE X M [] (.Subscript e (.Slice lo hi none p2) pos) (eSl f fl fh) := ⟨fun env d env' h σ H Ws Q re sp q => by
  unfold eSl at h
  obtain ⟨⟨y, e1⟩, h1, h⟩ := Option.bind_eq_some_iff.mp h
  obtain ⟨⟨l, e2⟩, h2, h⟩ := Option.bind_eq_some_iff.mp h
  obtain ⟨⟨u, e3⟩, h3, h⟩ := Option.bind_eq_some_iff.mp h
  obtain ⟨z, h4, h⟩ := Option.bind_eq_some_iff.mp h
  cases h
  refine WE.of (pe_slice sl_any pe_we po_w po_w) (he.run env y e1 h1 σ H Ws _ re sp fun v H1 Ws1 W1 r1 re1 t1 o1 => ?_)
  have sp1 := t1.sep.mono hs
  refine hl.run e1 l e2 h2 σ H1 Ws1 _ re1 sp1 fun H2 Ws2 re2 t2 => ?_
  refine hh.run e2 u _ h3 σ H2 Ws2 _ re2 t2.sep fun H3 Ws3 re3 t3 => ?_
  have t23 := t2.trans t3
  have r3 := o1.stay r1 re1 t23 sp1 hd
  have tt := t1.trans (t23.weaken hs t1.sep re1.ne)
  have done : ∀ (w : V) (H' : Hp) (W : List Addr), Rep X.K H' d w W → Ext H3 H' → (∀ a ∈ W, H3 a = none) → W.Nodup → Q w H' := fun w H' W r k hn nd => q w H' Ws3 W r (k.renv re3) (k.tr tt) (Own.new tt re3 hn nd)
  replace h4 : dSl y l u = some _ := h4
  unfold dSl at h4
  split at h4
  · split at h4
    · rename_i hf
      cases h4
      cases r3 with
      | tup hx rx =>
        have rx' := rx.flat hf
        refine .inl (.inl ⟨_, _, rfl, SqT.of hx, fun hw => ?_, fun _ p hp => ?_⟩)
        · have rc := rx'.cut l u
          unfold cutV at rc
          rw [hw.1, hw.2, List.drop_zero, Nat.sub_zero, List.take_length] at rc
          exact done _ H3 [] (.tup hx rc) (Ext.refl H3) (fun _ z => nomatch z) .nil
        · exact done _ _ [] (.tup upd_same ((Ext.new hp).reps (rx'.cut l u))) (Ext.new hp) (fun _ z => nomatch z) .nil
    · cases h4
  · split at h4
    · rename_i hf
      cases h4
      cases r3 with
      | lst hx rx => exact .inl (.inr ⟨_, _, rfl, SqL.of hx, fun p hp => done _ _ [p] (.lst upd_same ((Ext.new hp).reps ((rx.flat hf).cut l u))) (Ext.new hp) (new1 hp) nd1⟩)
    · cases h4
  · split at h4
    · rename_i hf
      cases h4
      cases r3 with
      | rol hx rx => exact .inl (.inr ⟨_, _, rfl, hx.seq, fun p hp => done _ _ [p] (.lst upd_same ((Ext.new hp).reps (rx.cut l u))) (Ext.new hp) (new1 hp) nd1⟩)
    · cases h4
  · split at h4
    · rename_i hf
      cases h4
      cases r3
      exact .inr ⟨_, rfl, hf, done _ H3 [] (.str _) (Ext.refl H3) (fun _ z => nomatch z) .nil⟩
    · cases h4
  · cases h4⟩
end
end VL

/-! VLH: methods, stores, ranges over plain data. -/
namespace VL
open PySem PySem.Spec L2

/-! ### a method that changes its receiver: the answer, the receiver behind it -/
def MtS (X : Cx) (id : String) (g : D → List D → Option (D × D)) : Prop :=
  ∀ x args r x', g x args = some (r, x') → ∀ (v : V) (us : List V) (H : Hp) (W Wa : List Addr) (Q : VK), Rep X.K H x v W → Reps X.K H args us Wa → (W ++ Wa).Nodup →
    (∀ w H' Wr W', Rep X.K H' r w Wr → Rep X.K H' x' v W' → Kp (· ∈ W) H H' → (∀ a ∈ Wr ++ W', a ∈ W ++ Wa) → (Wr ++ W').Nodup → Q w H') → WM X id v us H Q
def isL : D → Bool
  | .lst _ => true
  | _ => false
def eMeth (i : Nat) (g : D → List D → Option (D × D)) (fs : Ev → Option (List D × Ev)) : Ev → Option (D × Ev) := fun env => match env[i]? with
  | some (some x0) => if isL x0 = true then (fs env).bind fun p => match p.2[i]? with
      | some (some x) => (g x p.1).bind fun q => some (q.1, p.2.set i (some q.2))
      | _ => none
    else none
  | _ => none
section
variable {K : PySem.W.Frag} {H H' : Hp} {env : Ev} {σ : L2.St} {Ws : Wm} {M : List Nat}
/-- slot i's object has changed in place -/
theorem REnv.upd {i : Nat} {x : D} {v : V} {W' : List Addr} (re : REnv K H env σ Ws) (sp : ∀ j, j ≠ i → ∀ a ∈ Ws i, a ∉ Ws j) (hi : i < env.length) (hv : σ[i]? = some (some v)) (k : Kp (· ∈ Ws i) H H') (r : Rep K H' x v W') : REnv K H' (env.set i (some x)) σ (setW Ws i W') where
  len := by rw [List.length_set]; exact re.len
  at' := fun j d e => by
    by_cases hj : j = i
    · subst hj
      rw [List.getElem?_set_self hi] at e
      cases e
      exact ⟨v, hv, by rw [setW_same]; exact r⟩
    · rw [List.getElem?_set_ne (Ne.symm hj)] at e
      obtain ⟨u, e1, q⟩ := re.at' j d e
      exact ⟨u, e1, by rw [setW_ne hj]; exact Rep.kp k (fun a ha => re.mt i a ha) _ _ _ q fun a ha z => sp j hj a z ha⟩
  non := fun j h => by
    by_cases hj : j = i
    · subst hj
      exact absurd (List.getElem?_set_self hi) (h x)
    · rw [setW_ne hj]
      exact re.non j fun d e => h d (by rw [List.getElem?_set_ne (Ne.symm hj)]; exact e)
theorem Tr.slot {i : Nat} {W' : List Addr} (re : REnv K H env σ Ws) (hM : i ∈ M) (sp : Sep M Ws) (k : Kp (· ∈ Ws i) H H') (sub : ∀ a ∈ W', a ∈ Ws i ∨ (∀ j, a ∉ Ws j) ∧ H a = none) (nd : W'.Nodup) : Tr M Ws (setW Ws i W') H H' where
  keep := fun a o e n => k a o e fun z => n ⟨i, hM, z⟩
  same := fun j hj => setW_ne fun e => hj (e ▸ hM)
  sub := fun j hj a ha => by
    by_cases e : j = i
    · subst e
      rw [setW_same] at ha
      rcases sub a ha with z | z
      · exact .inl ⟨j, hM, z⟩
      · exact .inr z.2
    · rw [setW_ne e] at ha
      exact .inl ⟨j, hj, ha⟩
  sep := fun j hj => by
    have new : ∀ a ∈ W', ∀ l, l ≠ i → a ∉ Ws l := fun a ha l hl => by
      rcases sub a ha with z | z
      · exact (sp i hM).2 l hl a z
      · exact z.1 l
    by_cases e : j = i
    · subst e
      rw [setW_same]
      exact ⟨nd, fun l hl a ha => by rw [setW_ne hl]; exact new a ha l hl⟩
    · rw [setW_ne e]
      refine ⟨(sp j hj).1, fun l hl a ha => ?_⟩
      by_cases e2 : l = i
      · subst e2
        rw [setW_same]
        exact fun z => new a z j e ha
      · rw [setW_ne e2]
        exact (sp j hj).2 l hl a ha
end
section
variable {X : Cx} {M Mb R Ra : List Nat} {e o : Expr} {es : List Expr} {fs : Ev → Option (List D × Ev)} {g : D → List D → Option (D × D)} {id : String} {name : Str} {apos cpos npos : Pos} {x : Str}
/-- the slot i's object, then the arguments, then the change -/
theorem slot_run (i : Nat) (hiM : i ∈ M) (ha : VA X M [] es fs) {env env1 : Ev} {args : List D} (h1 : fs env = some (args, env1)) {σ : L2.St} {H : Hp} {Ws : Wm} (re : REnv X.K H env σ Ws) (sp : Sep M Ws) {x0 : D} (h0 : env[i]? = some (some x0)) {y r x' : D} (h2 : env1[i]? = some (some y)) (h3 : g y args = some (r, x')) (hg : MtS X id g)
    {Q : VK} (q : ∀ w H' Ws' W, Rep X.K H' r w W → REnv X.K H' (env1.set i (some x')) σ Ws' → Tr M Ws Ws' H H' → Own M [] Ws Ws' H W → Q w H') : ∃ v W0, σ[i]? = some (some v) ∧ Rep X.K H x0 v W0 ∧ WA X es σ H fun us H1 => WM X id v us H1 Q := by
  obtain ⟨v, hv, r0⟩ := re.at' i x0 h0
  refine ⟨v, Ws i, hv, r0, ha.run env args env1 h1 σ H Ws _ re sp fun us H1 Ws1 W1 r1 re1 t1 o1 => ?_⟩
  obtain ⟨v', hv', ry⟩ := re1.at' i y h2
  rw [hv] at hv'
  cases hv'
  have sp1 := t1.sep
  have own1 : ∀ a ∈ W1, (InM M Ws a ∨ H a = none) ∧ ∀ j, a ∉ Ws1 j := fun a ha => by
    rcases o1.at' a ha with z | ⟨_, z, _⟩
    · exact z
    · exact nomatch z
  have ndW : (Ws1 i ++ W1).Nodup := List.nodup_append.mpr ⟨(sp1 i hiM).1, o1.nd rfl, fun a ha b hb e => (own1 b hb).2 i (e ▸ ha)⟩
  refine hg y args r x' h3 v us H1 (Ws1 i) W1 Q ry r1 ndW fun w H2 Wr W' rr rx k sub nd => ?_
  have hil : i < env1.length := (List.getElem?_eq_some_iff.mp h2).1
  have sub' : ∀ a ∈ Wr ++ W', a ∈ Ws1 i ∨ a ∈ W1 := fun a ha => List.mem_append.mp (sub a ha)
  have re2 := re1.upd (sp1 i hiM).2 hil hv k rx
  obtain ⟨nd1, nd2, nd3⟩ := List.nodup_append.mp nd
  have fr : ∀ a ∈ Ws1 i ++ W1, InM M Ws a ∨ H a = none := fun a ha => by
    rcases List.mem_append.mp ha with z | z
    · exact t1.sub i hiM a z
    · exact (own1 a z).1
  have tr : Tr M Ws (setW Ws1 i W') H H2 := by
    refine ⟨fun a o ho n => ?_, fun j hj => ?_, fun j hj a ha => ?_, fun j hj => ?_⟩
    · refine k a o (t1.keep a o ho n) fun z => ?_
      rcases t1.sub i hiM a z with y | y
      · exact n y
      · rw [ho] at y; cases y
    · have hji : j ≠ i := fun e => hj (by rw [e]; exact hiM)
      rw [setW_ne hji]
      exact t1.same j hj
    · by_cases e : j = i
      · subst e
        rw [setW_same] at ha
        exact fr a (sub a (List.mem_append_right _ ha))
      · rw [setW_ne e] at ha
        exact t1.sub j hj a ha
    · have new : ∀ a ∈ W', ∀ l, l ≠ i → a ∉ Ws1 l := fun a ha l hl => by
        rcases sub' a (List.mem_append_right _ ha) with z | z
        · exact (sp1 i hiM).2 l hl a z
        · exact (own1 a z).2 l
      by_cases e : j = i
      · subst e
        rw [setW_same]
        exact ⟨nd2, fun l hl a ha => by rw [setW_ne hl]; exact new a ha l hl⟩
      · rw [setW_ne e]
        refine ⟨(sp1 j hj).1, fun l hl a ha => ?_⟩
        by_cases e2 : l = i
        · subst e2
          rw [setW_same]
          exact fun z => new a z j e ha
        · rw [setW_ne e2]
          exact (sp1 j hj).2 l hl a ha
  refine q w H2 _ Wr rr re2 tr ⟨fun a ha => .inl ⟨fr a (sub a (List.mem_append_left _ ha)), fun j z => ?_⟩, fun _ => nd1⟩
  by_cases e : j = i
  · subst e
    rw [setW_same] at z
    exact nd3 a ha a z rfl
  · rw [setW_ne e] at z
    rcases sub' a (List.mem_append_left _ ha) with y | y
    · exact (sp1 i hiM).2 j e a y z
    · exact (own1 a y).2 j z
theorem ty_list {K : PySem.W.Frag} {H : Hp} {x0 : D} {v : V} {W : List Addr} (h : isL x0 = true) (r : Rep K H x0 v W) : tyV K "list" v H := by
  cases r with
  | lst h1 r1 => exact .inl ⟨rfl, _, SqL.of h1⟩
  | non => cases h
  | bl => cases h
  | int => cases h
  | str => cases h
  | tup => cases h
  | rol => cases h
  | dct => cases h
  | dtt => cases h
  | rod => cases h
theorem ve_meth (i : Nat) (slot : PySem.Slot "list" name id) (hty : typeOf (.builtin id) = pure (.type "method_descriptor")) (hg : MtS X id g) (ha : VA X M [] (e :: es) fs) (hiM : i ∈ M := by decide) (hN : X.N[i]? = some x := by rfl) (hv : Vis X.env.scope x := by first | exact Or.inl rfl | exact Or.inr (Or.inl rfl) | exact Or.inr (Or.inr rfl)) (hd : (x == ("__debug__" : Str)) = false := by decide) (hcd : (x == ("__classdict__" : Str)) = false := by decide)
    (hbase : attributeBase (.Name x npos) name X.env (eval (.Name x npos) X.env) = eval (.Name x npos) X.env := by rfl)
    (hfew : ((backTo cpos (starEach (e :: es) X.env)).all (fun x => !x.1) && (backToKw cpos (keywordEach [] X.env)).all (fun x => x.1.isSome)
      && decide ((e :: es).length + ([] : List Keyword).length + (if ([] : List Keyword).isEmpty then 0 else 1) < 30)) = true := by rfl)
    (hline : (apos.endLine == cpos.line) = true := by rfl) (hs : starEach (e :: es) X.env = (false, eval e X.env) :: starEach es X.env := by rfl) (hplain : (backTo cpos (starEach es X.env)).any (·.1) = false := by rfl) :
    VE X M [] (.Call (.Attribute (.Name x npos) name apos) (e :: es) [] cpos) (eMeth i g fs) := ⟨fun env d env' h σ H Ws Q re sp q => by
  unfold eMeth at h
  split at h
  · rename_i x0 h0
    split at h
    · rename_i hL
      obtain ⟨⟨args, e1⟩, h1, h⟩ := Option.bind_eq_some_iff.mp h
      split at h
      · rename_i y h2
        obtain ⟨⟨r, x'⟩, h3, h⟩ := Option.bind_eq_some_iff.mp h
        cases h
        obtain ⟨v, W0, hv', r0, hw⟩ := slot_run i hiM ha h1 re sp h0 h2 h3 hg q
        refine WE.of (pe_bm PySem.F.plainAttrs_list slot hty mt_wm (pe_var hN hv hd hcd) pa_wa hbase hfew hline hs hplain) ⟨v, hv', ty_list hL r0, hw⟩
      · cases h
    · cases h
  · cases h⟩
theorem ve_meth0 (i : Nat) (slot : PySem.Slot "list" name id) (hty : typeOf (.builtin id) = pure (.type "method_descriptor")) (hg : MtS X id g) (hiM : i ∈ M := by decide) (hN : X.N[i]? = some x := by rfl) (hv : Vis X.env.scope x := by first | exact Or.inl rfl | exact Or.inr (Or.inl rfl) | exact Or.inr (Or.inr rfl)) (hd : (x == ("__debug__" : Str)) = false := by decide) (hcd : (x == ("__classdict__" : Str)) = false := by decide)
    (hbase : attributeBase (.Name x npos) name X.env (eval (.Name x npos) X.env) = eval (.Name x npos) X.env := by rfl) (hline : (apos.endLine == cpos.line) = true := by rfl) :
    VE X M [] (.Call (.Attribute (.Name x npos) name apos) [] [] cpos) (eMeth i g aNil) := ⟨fun env d env' h σ H Ws Q re sp q => by
  unfold eMeth at h
  split at h
  · rename_i x0 h0
    split at h
    · rename_i hL
      obtain ⟨⟨args, e1⟩, h1, h⟩ := Option.bind_eq_some_iff.mp h
      split at h
      · rename_i y h2
        obtain ⟨⟨r, x'⟩, h3, h⟩ := Option.bind_eq_some_iff.mp h
        cases h
        cases h1
        obtain ⟨v, W0, hv', r0, hw⟩ := slot_run i hiM va_nil rfl re sp h0 h2 h3 hg q
        refine WE.of (pe_bm0 PySem.F.plainAttrs_list slot hty mt_wm (pe_var hN hv hd hcd) hbase hline) ⟨v, hv', ty_list hL r0, ?_⟩
        intro pins s σ' v' us I rv rus
        cases rus
        have hw' := (WA.of (X := X) pa_nil (t := tNil) (σ := σ) (H := H) (Q := fun us H1 => WM X id v us H1 Q))
        -- the empty argument list changes nothing
        obtain ⟨v2, W2, hv2, r2, _⟩ := (⟨v, W0, hv', r0, hw⟩ : ∃ v W0, σ[i]? = some (some v) ∧ Rep X.K H x0 v W0 ∧ WA X [] σ H fun us H1 => WM X id v us H1 Q)
        have sp' := sp
        obtain ⟨v3, hv3, r3⟩ := re.at' i y h2
        rw [hv'] at hv3
        cases hv3
        have hil : i < env.length := (List.getElem?_eq_some_iff.mp h2).1
        refine hg y [] _ x' h3 v [] H (Ws i) [] Q r3 .nil (by rw [List.append_nil]; exact (sp i hiM).1) (fun w H2 Wr W' rr rx k sub nd => ?_) pins s σ' v' [] I rv .nil
        obtain ⟨nd1, nd2, nd3⟩ := List.nodup_append.mp nd
        have sub' : ∀ a ∈ Wr ++ W', a ∈ Ws i := fun a ha => by have := sub a ha; rwa [List.append_nil] at this
        refine q w H2 _ Wr rr (re.upd (sp i hiM).2 hil hv' k rx) (Tr.slot re hiM sp k (fun a ha => .inl (sub' a (List.mem_append_right _ ha))) nd2) ⟨fun a ha => .inl ⟨.inl ⟨i, hiM, sub' a (List.mem_append_left _ ha)⟩, fun j z => ?_⟩, fun _ => nd1⟩
        by_cases e : j = i
        · subst e
          rw [setW_same] at z
          exact nd3 a ha a z rfl
        · rw [setW_ne e] at z
          exact (sp i hiM).2 j e a (sub' a (List.mem_append_left _ ha)) z
      · cases h
    · cases h
  · cases h⟩
end

/-! ### the lists' methods -/
def mApp : D → List D → Option (D × D)
  | .lst ds, [d] => if ds.length < sizeLine then some (.non, .lst (ds ++ [d])) else none
  | _, _ => none
def mPop : D → List D → Option (D × D)
  | .lst ds, [] => (ds.getLast?).bind fun d => some (d, .lst ds.dropLast)
  | .lst ds, [.int i] => if i.natAbs ≤ 1000000000 then (seqIndex? i ds.length).bind fun k => (ds[k]?).bind fun d => some (d, .lst (ds.eraseIdx k)) else none
  | _, _ => none
def mRev : D → List D → Option (D × D)
  | .lst ds, [] => some (.non, .lst ds.reverse)
  | _, _ => none
def mIns : D → List D → Option (D × D)
  | .lst ds, [.int i, d] => if ds.length < sizeLine ∧ 0 ≤ i ∧ i.natAbs ≤ 1000000000 then some (.non, .lst (ds.take i.toNat ++ [d] ++ ds.drop i.toNat)) else none
  | _, _ => none
/-- list.remove of ints -/
def mRem : D → List D → Option (D × D)
  | .lst ds, [.int k] => (ints? ds).bind fun ns => if k ∈ ns then some (.non, .lst ((ns.erase k).map D.int)) else none
  | _, _ => none
section
variable {K : PySem.W.Frag} {H H' : Hp}
theorem kp_upd {l : Addr} {W : List Addr} {o : HO} (h : l ∈ W) : Kp (· ∈ W) H (upd H l o) := fun a u e n => by
  rw [upd_ne fun z => n (by rw [z]; exact h)]; exact e
/-- what does not hold the address l stands behind its change -/
theorem Reps.off {l : Addr} {o o' : HO} {ds : List D} {vs : List V} {W : List Addr} (r : Reps K H ds vs W) (hl : H l = some o) (hm : Mt H l) (n : l ∉ W) : Reps K (L2.upd H l o') ds vs W :=
  Reps.kp (A := fun a => a = l) (fun a u e z => by rw [upd_ne z]; exact e) (fun a e => by rw [e]; exact hm) _ _ _ r fun a ha e => n (e ▸ ha)
theorem Rep.off {l : Addr} {o o' : HO} {ds : D} {vs : V} {W : List Addr} (r : Rep K H ds vs W) (hl : H l = some o) (hm : Mt H l) (n : l ∉ W) : Rep K (L2.upd H l o') ds vs W :=
  Rep.kp (A := fun a => a = l) (fun a u e z => by rw [upd_ne z]; exact e) (fun a e => by rw [e]; exact hm) _ _ _ r fun a ha e => n (e ▸ ha)
theorem Reps.last : ∀ {ds : List D} {vs : List V} {W : List Addr} {d : D}, Reps K H ds vs W → ds.getLast? = some d → ∃ v W1 W2, vs[vs.length - 1]? = some v ∧ Reps K H ds.dropLast vs.dropLast W1 ∧ Rep K H d v W2 ∧ W = W1 ++ W2
  | [], _, _, _, h, e => by simp at e
  | [x], _, _, d, h, e => by
    cases h with
    | cons h1 h2 =>
      cases h2
      have e' : x = d := by simpa using e
      subst e'
      exact ⟨_, [], _, rfl, .nil, h1, by simp⟩
  | x :: y :: r, _, _, d, h, e => by
    cases h with
    | @cons _ v0 _ vs0 W0 W' h1 h2 =>
      obtain ⟨v, W1, W2, e1, r1, r2, e2⟩ := Reps.last (ds := y :: r) (d := d) h2 (by rw [List.getLast?_cons_cons] at e; exact e)
      cases h2 with
      | @cons _ v1 _ vs1 _ _ h3 h4 =>
        refine ⟨v, W0 ++ W1, W2, ?_, ?_, r2, by rw [e2, List.append_assoc]⟩
        · show (v0 :: v1 :: vs1)[(v0 :: v1 :: vs1).length - 1]? = some v
          have e3 : (v0 :: v1 :: vs1).length - 1 = ((v1 :: vs1).length - 1) + 1 := by simp
          rw [e3, List.getElem?_cons_succ]
          exact e1
        · exact .cons h1 r1
theorem Reps.erase : ∀ {ds : List D} {vs : List V} {W : List Addr} (k : Nat) {d : D}, Reps K H ds vs W → ds[k]? = some d → ∃ v W1 W2, vs[k]? = some v ∧ Reps K H (ds.eraseIdx k) (vs.eraseIdx k) W1 ∧ Rep K H d v W2 ∧ (∀ a, a ∈ W ↔ a ∈ W2 ∨ a ∈ W1) ∧ (W.Nodup → (W2 ++ W1).Nodup)
  | [], _, _, _, _, h, e => by simp at e
  | x :: r, _, _, 0, d, h, e => by
    cases h with
    | cons h1 h2 =>
      have e' : x = d := by simpa using e
      subst e'
      exact ⟨_, _, _, rfl, h2, h1, fun a => List.mem_append, fun n => n⟩
  | x :: r, _, _, k + 1, d, h, e => by
    cases h with
    | @cons _ v0 _ vs0 W0 W' h1 h2 =>
      obtain ⟨v, W1, W2, e1, r1, r2, e2, n⟩ := Reps.erase k h2 (by simpa using e)
      refine ⟨v, W0 ++ W1, W2, by simpa using e1, .cons h1 r1, r2, fun a => ?_, fun hn => ?_⟩
      · rw [List.mem_append, e2 a, List.mem_append]
        constructor
        · rintro (h | h | h)
          · exact .inr (.inl h)
          · exact .inl h
          · exact .inr (.inr h)
        · rintro (h | h | h)
          · exact .inr (.inl h)
          · exact .inl h
          · exact .inr (.inr h)
      · obtain ⟨n1, n2, n3⟩ := List.nodup_append.mp hn
        obtain ⟨n4, n5, n6⟩ := List.nodup_append.mp (n n2)
        refine List.nodup_append.mpr ⟨n4, List.nodup_append.mpr ⟨n1, n5, fun a ha b hb q => n3 a ha b ((e2 b).mpr (.inr hb)) q⟩, fun a ha b hb q => ?_⟩
        rcases List.mem_append.mp hb with z | z
        · exact n3 b z a ((e2 a).mpr (.inl ha)) q.symm
        · exact n6 a ha b z q
theorem Reps.rev : ∀ {ds : List D} {vs : List V} {W : List Addr}, Reps K H ds vs W → ∃ W', Reps K H ds.reverse vs.reverse W' ∧ W'.Perm W
  | [], _, _, h => by cases h; exact ⟨[], .nil, .refl _⟩
  | x :: r, _, _, h => by
    cases h with
    | @cons _ v0 _ vs0 W0 W' h1 h2 =>
      obtain ⟨W2, r2, p2⟩ := Reps.rev h2
      rw [List.reverse_cons, List.reverse_cons]
      refine ⟨W2 ++ (W0 ++ []), Reps.append r2 (.cons h1 .nil), ?_⟩
      rw [List.append_nil]
      exact (List.perm_append_comm).trans (p2.append_left W0)
theorem take_drop_perm {α : Type} : ∀ {a b : List α}, (a ++ b).Perm (b ++ a) := List.perm_append_comm
end
section
variable {X : Cx}
theorem ms_app : MtS X "list.append" mApp := fun x args r x' h v us H W Wa Q rx ra nd q => by
  unfold mApp at h
  split at h
  · rename_i ds d
    split at h
    · rename_i hl
      cases h
      obtain ⟨u, rfl, r0⟩ := ra.one
      cases rx with
      | @lst l vs _ W1 h1 r1 =>
        refine WM.of (fun pins s σ H x xs v us Q I r rs h => mt_append pins s σ H x xs v us Q I r rs h) ⟨l, vs, u, rfl, rfl, h1, by rw [← r1.len]; exact hl, ?_⟩
        have mt : Mt H l := .inl ⟨_, h1⟩
        have n1 : l ∉ W1 ++ Wa := (List.nodup_cons.mp nd).1
        refine q _ _ [] (l :: (W1 ++ (Wa ++ []))) .non (.lst upd_same (Reps.append (r1.off h1 mt fun z => n1 (List.mem_append_left _ z)) (.cons (r0.off h1 mt fun z => n1 (List.mem_append_right _ z)) .nil))) (kp_upd List.mem_cons_self) (fun a ha => ?_) ?_
        · rw [List.append_nil] at ha
          exact ha
        · rw [List.append_nil]
          exact nd
    · cases h
  · cases h
theorem ms_pop : MtS X "list.pop" mPop := fun x args r x' h v us H W Wa Q rx ra nd q => by
  unfold mPop at h
  split at h
  · rename_i ds
    obtain ⟨d, h1, h⟩ := Option.bind_eq_some_iff.mp h
    cases h
    cases ra
    cases rx with
    | @lst l vs _ W1 hl r1 =>
      obtain ⟨u, Wb, Wc, e1, r2, r3, e2⟩ := r1.last h1
      subst e2
      rw [List.append_nil] at nd
      have mt : Mt H l := .inl ⟨_, hl⟩
      have n1 := (List.nodup_cons.mp nd).1
      refine WM.of (fun pins s σ H x xs v us Q I r rs h => mt_pop pins s σ H x xs v us Q I r rs h) ⟨l, vs, u, rfl, rfl, hl, e1, ?_⟩
      refine q _ _ Wc (l :: Wb) (r3.off hl mt fun z => n1 (List.mem_append_right _ z)) (.lst upd_same (r2.off hl mt fun z => n1 (List.mem_append_left _ z))) (kp_upd List.mem_cons_self) (fun a ha => ?_) ?_
      · rw [List.append_nil]
        rcases List.mem_append.mp ha with z | z
        · exact List.mem_cons_of_mem _ (List.mem_append_right _ z)
        · rcases List.mem_cons.mp z with rfl | z
          · exact List.mem_cons_self
          · exact List.mem_cons_of_mem _ (List.mem_append_left _ z)
      · have p : (l :: (Wb ++ Wc)).Perm (Wc ++ (l :: Wb)) := by
          rw [← List.cons_append]
          exact List.perm_append_comm
        exact p.nodup_iff.mp nd
  · rename_i ds i
    split at h
    · rename_i hb
      obtain ⟨k, h1, h⟩ := Option.bind_eq_some_iff.mp h
      obtain ⟨d, h2, h⟩ := Option.bind_eq_some_iff.mp h
      cases h
      obtain ⟨u0, rfl, r0⟩ := ra.one
      cases r0
      cases rx with
      | @lst l vs _ W1 hl r1 =>
        obtain ⟨u, Wb, Wc, e1, r2, r3, e2, n⟩ := r1.erase k h2
        rw [List.append_nil] at nd
        have mt : Mt H l := .inl ⟨_, hl⟩
        obtain ⟨n1, n2⟩ := List.nodup_cons.mp nd
        refine WM.of (fun pins s σ H x xs v us Q I r rs h => mt_popAt pins s σ H x xs v us Q I r rs h) ⟨l, vs, i, k, u, rfl, rfl, hl, by omega, by omega, by rw [← r1.len]; exact h1, e1, ?_⟩
        refine q _ _ Wc (l :: Wb) (r3.off hl mt fun z => n1 ((e2 l).mpr (.inl z))) (.lst upd_same (r2.off hl mt fun z => n1 ((e2 l).mpr (.inr z)))) (kp_upd List.mem_cons_self) (fun a ha => ?_) ?_
        · rw [List.append_nil]
          rcases List.mem_append.mp ha with z | z
          · exact List.mem_cons_of_mem _ ((e2 a).mpr (.inl z))
          · rcases List.mem_cons.mp z with rfl | z
            · exact List.mem_cons_self
            · exact List.mem_cons_of_mem _ ((e2 a).mpr (.inr z))
        · obtain ⟨m1, m2, m3⟩ := List.nodup_append.mp (n n2)
          refine List.nodup_append.mpr ⟨m1, List.nodup_cons.mpr ⟨fun z => n1 ((e2 l).mpr (.inr z)), m2⟩, fun a ha b hb' e => ?_⟩
          rcases List.mem_cons.mp hb' with z | z
          · exact n1 ((e2 l).mpr (.inl (by rw [← z, ← e]; exact ha)))
          · exact m3 a ha b z e
    · cases h
  · cases h
theorem ms_rev : MtS X "list.reverse" mRev := fun x args r x' h v us H W Wa Q rx ra nd q => by
  unfold mRev at h
  split at h
  · cases h
    cases ra
    cases rx with
    | @lst l vs _ W1 hl r1 =>
      rw [List.append_nil] at nd
      obtain ⟨n1, n2⟩ := List.nodup_cons.mp nd
      obtain ⟨W2, r2, p2⟩ := r1.rev
      have mt : Mt H l := .inl ⟨_, hl⟩
      have n3 : l ∉ W2 := fun z => n1 (p2.mem_iff.mp z)
      refine WM.of (fun pins s σ H x xs v us Q I r rs h => mt_reverse pins s σ H x xs v us Q I r rs h) ⟨l, vs, rfl, rfl, hl, ?_⟩
      refine q _ _ [] (l :: W2) .non (.lst upd_same (r2.off hl mt n3)) (kp_upd List.mem_cons_self) (fun a ha => ?_) (List.nodup_cons.mpr ⟨n3, p2.nodup_iff.mpr n2⟩)
      rw [List.append_nil]
      rcases List.mem_cons.mp ha with rfl | z
      · exact List.mem_cons_self
      · exact List.mem_cons_of_mem _ (p2.mem_iff.mp z)
  · cases h
theorem ms_ins : MtS X "list.insert" mIns := fun x args r x' h v us H W Wa Q rx ra nd q => by
  unfold mIns at h
  split at h
  · rename_i ds i d
    split at h
    · rename_i hb
      cases h
      cases ra with
      | cons ra1 ra2 =>
        obtain ⟨u, rfl, r0⟩ := ra2.one
        cases ra1
        rename_i Wd
        cases rx with
        | @lst l vs _ W1 hl r1 =>
          have mt : Mt H l := .inl ⟨_, hl⟩
          rw [List.nil_append] at nd q
          have n1 : l ∉ W1 ++ Wd := (List.nodup_cons.mp nd).1
          have n2 := (List.nodup_cons.mp nd).2
          refine WM.of mt_insert ⟨l, vs, i, u, rfl, rfl, hl, by rw [← r1.len]; exact hb.1, hb.2.1, by have := hb.2.2; omega, ?_⟩
          -- the list cut at i
          have cut : ∀ (n : Nat) {ds : List D} {vs : List V} {W : List Addr}, Reps X.K H ds vs W → ∃ Wp Wq, Reps X.K H (ds.take n) (vs.take n) Wp ∧ Reps X.K H (ds.drop n) (vs.drop n) Wq ∧ W = Wp ++ Wq := by
            intro n
            induction n with
            | zero => intro ds vs W r; exact ⟨[], W, .nil, r, rfl⟩
            | succ n ih =>
              intro ds vs W r
              cases r with
              | nil => exact ⟨[], [], .nil, .nil, rfl⟩
              | cons h1 h2 =>
                obtain ⟨Wp, Wq, a, b, c⟩ := ih h2
                exact ⟨_, Wq, .cons h1 a, b, by rw [c, List.append_assoc]⟩
          obtain ⟨Wp, Wq, rp, rq, e⟩ := cut i.toNat r1
          subst e
          have np : l ∉ Wp := fun z => n1 (List.mem_append_left _ (List.mem_append_left _ z))
          have nq : l ∉ Wq := fun z => n1 (List.mem_append_left _ (List.mem_append_right _ z))
          have nd' : l ∉ Wd := fun z => n1 (List.mem_append_right _ z)
          have perm : (Wp ++ (Wd ++ []) ++ Wq).Perm ((Wp ++ Wq) ++ Wd) := by
            rw [List.append_nil, List.append_assoc, List.append_assoc]
            exact (List.perm_append_comm).append_left Wp
          refine q _ _ [] (l :: (Wp ++ (Wd ++ []) ++ Wq)) .non (.lst upd_same (Reps.append (Reps.append (rp.off hl mt np) (.cons (r0.off hl mt nd') .nil)) (rq.off hl mt nq))) (kp_upd List.mem_cons_self) (fun a ha => ?_) (List.nodup_cons.mpr ⟨fun z => n1 (perm.mem_iff.mp z), perm.nodup_iff.mpr n2⟩)
          rcases List.mem_cons.mp ha with rfl | z
          · exact List.mem_cons_self
          · exact List.mem_cons_of_mem _ (perm.mem_iff.mp z)
    · cases h
  · cases h
theorem ms_rem : MtS X "list.remove" mRem := fun x args r x' h v us H W Wa Q rx ra nd q => by
  unfold mRem at h
  split at h
  · rename_i ds k
    obtain ⟨ns, h1, h⟩ := Option.bind_eq_some_iff.mp h
    split at h
    · rename_i hk
      cases h
      have e1 := ints?_eq h1
      subst e1
      obtain ⟨u, rfl, r0⟩ := ra.one
      cases r0
      cases rx with
      | @lst l vs _ W1 hl r1 =>
        have ev := r1.ints
        subst ev
        have hj : ns.idxOf k < ns.length := List.idxOf_lt_length_of_mem hk
        refine WM.of (fun pins s σ H x xs v us Q I r rs h => L2.mt_remove pins s σ H x xs v us Q I r rs h) ⟨l, ns, k, ns.idxOf k, rfl, rfl, hl, ?_, fun m hm e => ?_, ?_⟩
        · rw [List.getElem?_eq_getElem hj, List.getElem_idxOf]
        · have hml : m < ns.length := Nat.lt_trans hm hj
          rw [List.getElem?_eq_getElem hml] at e
          have e' : ns[m] = k := Option.some.inj e
          have hf := List.not_of_lt_findIdx (p := (· == k)) (xs := ns) (i := m) hm
          rw [e'] at hf
          simp at hf
        · have ee : ns.eraseIdx (ns.idxOf k) = ns.erase k := (List.erase_eq_eraseIdx_of_idxOf rfl).symm
          rw [ee]
          have eW : W1 = [] := Reps.lfW _ _ _ r1 (lfs_ints ns)
          subst eW
          exact q _ _ [] [l] .non (.lst upd_same (reps_ints _)) (kp_upd List.mem_cons_self) (fun a ha => by simpa using ha) nd1
    · cases h
  · cases h
end
end VL

/-! VLI: ranges, dicts, stores in place, augmented stores over plain data. -/
namespace VL
open PySem PySem.Spec L2

/-! ### ranges -/
def rngD (lo c : Int) (n : Nat) : List D := (List.range n).map fun (k : Nat) => D.int (lo + (k : Int) * c)
def iRng1 (fs : Ev → Option (List D × Ev)) : Ev → Option (List D × Ev) := fun env => (fs env).bind fun p => match p.1 with
  | [.int j] => some (rngD 0 1 j.toNat, p.2)
  | _ => none
def iRng2 (fs : Ev → Option (List D × Ev)) : Ev → Option (List D × Ev) := fun env => (fs env).bind fun p => match p.1 with
  | [.int i, .int j] => some (rngD i 1 (j - i).toNat, p.2)
  | _ => none
def iRng3 (fs : Ev → Option (List D × Ev)) : Ev → Option (List D × Ev) := fun env => (fs env).bind fun p => match p.1 with
  | [.int i, .int j, .int c] => if c ≠ 0 ∧ c.natAbs < 1073741824 ∧ Builtin.Range.small i j c = true ∧ 0 ≤ Builtin.Range.rangeSize i j c then some (rngD i c (Builtin.Range.rangeSize i j c).toNat, p.2) else none
  | _ => none
/-! ### ranges of any size: beyond the machine's word another iterator walks -/
theorem lturn {P : Program} {w : World} {K : PySem.W.Frag} {tg : Expr} (jt : Addr) (lo : Int) (n : Nat) : Turn P w K tg (Itr lo n) [jt] jt (fun i h => IsLongIter h jt (lo + (i : Nat) * 1) ((n : Int) - (i : Nat)) 1) where
  mem := List.mem_singleton.mpr rfl
  obj := fun i h st b hb => by
    cases List.mem_singleton.mp hb
    exact ⟨_, st, fun v z => (nomatch (show Data.fields _ = Data.cell v from z))⟩
  keep := fun i h h' st k => k jt (List.mem_singleton.mpr rfl) _ st
  item := fun Y eP ew eK ec i ps s ρ G E I hf st hg => by
    subst eP ew eK
    have ff := hf jt (List.mem_singleton.mpr rfl)
    refine (Walks.longrange (prog := Y.prog) (w := Y.w) (I.ok.hd ec) jt lo 1 n).item i s _ _ hg st fun v g tk hv st' kk => ?_
    obtain ⟨t, rfl⟩ := hv
    have J : Inv Y ps ρ G { s with heap := g, toks := tk } := I.turned (fun b o hb e => kk b o (fun z => hb (List.mem_singleton.mp z)) e) ff.1 ff.2.1 ff.2.2.2.1 ff.2.2.2.2.1 ff.2.2.2.2.2
    refine ⟨_, rfl, go_of (s := { s with heap := g, toks := tk }) (n := "longrange_iterator") st' rfl rfl (by decide) ⟨.int (lo + i), G, J, ⟨t, ?_⟩, ⟨rfl, rfl⟩, st', fun b hb => (hf b hb).1⟩⟩
    rw [Int.mul_one]
  done := fun Y eP ew eK ec i ps s ρ G E I hf st hg => by
    subst eP ew eK
    have ff := hf jt (List.mem_singleton.mpr rfl)
    exact wpAny_pyNext_long_end (I.ok.hd ec) st (by have : n ≤ i := hg; omega) fun g eb => ⟨rfl, I.turned (t' := s.toks) (fun b o hb e => eb b o hb e) ff.1 ff.2.1 ff.2.2.2.1 ff.2.2.2.2.1 ff.2.2.2.2.2⟩
  self := fun _ _ _ _ _ st h => wpAny_pyIter_longiter st h
theorem lrange_it {X : Cx} {tg : Expr} {ps : List (Addr × Obj)} {ρ : L2.St} {G : Hp} {s : Shared} {R : It → Hp → Prop} {E : Value → Shared → Prop} {lo hi : Int} {t u v : Tok} {tk : Nat} (I : Inv X ps ρ G s)
    (q : R (Itr lo (hi - lo).toNat) G) : wpAny (model X.prog X.w) X.A (pyIter (.ref s.heap.objs.size)) (PIE X ps ρ tg R) E { s with heap := s.heap.push { cls := .type "range", data := .fields #[.int lo t, .int hi u, .int 1 v] }, toks := tk } := by
  have J : Inv X ps ρ G { s with heap := s.heap.push { cls := .type "range", data := .fields #[.int lo t, .int hi u, .int 1 v] }, toks := tk } := I.kept fun b o e => Heap.get?_push_of_some _ e
  have z1 : lo + ((0 : Nat) : Int) * 1 = lo := by simp
  have z2 : (((hi - lo).toNat : Nat) : Int) - ((0 : Nat) : Int) = Builtin.Range.rangeSize lo hi 1 := by rw [rangeSize_one]; split <;> omega
  by_cases sm : Builtin.Range.small lo hi 1 = true
  · refine wpAny_pyIter_range (IsRange.new ..) sm ?_
    refine ⟨_, [(s.heap.push { cls := .type "range", data := .fields #[.int lo t, .int hi u, .int 1 v] }).objs.size], _, _, G, rfl, J.kept (t' := tk) fun b o e => Heap.get?_push_of_some _ e, turn_range _ lo (hi - lo).toNat, ?_, fun b hb => ?_, q⟩
    · show IsRangeIter _ _ (lo + ((0 : Nat) : Int) * 1) ((((hi - lo).toNat : Nat) : Int) - ((0 : Nat) : Int)) 1
      rw [z1, z2]
      exact Heap.get?_push_size _ rfl
    · cases List.mem_singleton.mp hb
      exact J.fpOk (Nat.le_refl _) (J.hok.fresh (Nat.le_refl _))
  · refine wpAny_pyIter_longrange (IsRange.new ..) (Bool.eq_false_iff.mpr sm) ?_
    refine ⟨_, [(s.heap.push { cls := .type "range", data := .fields #[.int lo t, .int hi u, .int 1 v] }).objs.size], _, _, G, rfl, J.kept (t' := tk) fun b o e => Heap.get?_push_of_some _ e, lturn _ lo (hi - lo).toNat, ?_, fun b hb => ?_, q⟩
    · show IsLongIter _ _ (lo + ((0 : Nat) : Int) * 1) ((((hi - lo).toNat : Nat) : Int) - ((0 : Nat) : Int)) 1
      rw [z1, z2]
      exact Heap.get?_push_size _ rfl
    · cases List.mem_singleton.mp hb
      exact J.fpOk (Nat.le_refl _) (J.hok.fresh (Nat.le_refl _))
def tR1 (ta : TA) : TI := fun σ H R => ta σ H fun vs H1 => ∃ j : Int, vs = [.int j] ∧ R (Itr 0 j.toNat) H1
def tR2 (ta : TA) : TI := fun σ H R => ta σ H fun vs H1 => ∃ i j : Int, vs = [.int i, .int j] ∧ R (Itr i (j - i).toNat) H1
section
variable {X : Cx} {tg : Expr}
theorem pi_r1 {a : Expr} {ta : TA} {p pos : Pos} (hg : Gl X "range") (hm : X.mg "range" = none) (ha : PA X [a] ta) (hs : starEach [a] X.env = [(false, eval a X.env)] := by rfl) : PI X tg (.Call (.Name "range" p) [a] [] pos) (tR1 ta) := ⟨fun ps s ρ G R I h => by
  refine PyProof.Rows.Call_ (ld_blt I hg hm PyProof.Rows.boot_range (PyProof.Rows.callWith_type1 (thn (ha.run pos ps s ρ G _ I h) fun us s1 ⟨vs, G1, I1, r1, j, e, q⟩ => ?_) hs rfl))
  subst e
  cases r1 with
  | cons r rr =>
    cases rr
    obtain ⟨t, rfl⟩ := r
    exact call_range_1 (lrange_it I1 (by simpa using q))⟩
theorem pi_r2 {a b : Expr} {ta : TA} {p pos : Pos} (hg : Gl X "range") (hm : X.mg "range" = none) (ha : PA X [a, b] ta) (hs : starEach [a, b] X.env = [(false, eval a X.env), (false, eval b X.env)] := by rfl) (hs2 : starEach [b] X.env = [(false, eval b X.env)] := by rfl) :
    PI X tg (.Call (.Name "range" p) [a, b] [] pos) (tR2 ta) := ⟨fun ps s ρ G R I h => by
  refine PyProof.Rows.Call_ (ld_blt I hg hm PyProof.Rows.boot_range (PyProof.Rows.callWith_type1 (thn (ha.run pos ps s ρ G _ I h) fun us s1 ⟨vs, G1, I1, r1, i, j, e, q⟩ => ?_) (by rw [hs, hs2]) (by rw [hs2]; rfl)))
  subst e
  cases r1 with
  | cons r rr =>
    cases rr with
    | cons r2 rr =>
      cases rr
      obtain ⟨t, rfl⟩ := r
      obtain ⟨t2, rfl⟩ := r2
      exact call_range_2 (lrange_it I1 q)⟩
end
section
variable {X : Cx} {M R : List Nat} {tg a b c : Expr} {fs : Ev → Option (List D × Ev)} {p pos : Pos}
theorem rng_get {lo c : Int} {n i : Nat} {d : D} (h : (rngD lo c n)[i]? = some d) : i < n ∧ d = .int (lo + (i : Int) * c) := by
  unfold rngD at h
  rw [List.getElem?_map] at h
  by_cases hi : i < n
  · rw [List.getElem?_range hi] at h
    cases h
    exact ⟨hi, rfl⟩
  · rw [List.getElem?_eq_none (by simpa using Nat.le_of_not_lt hi)] at h
    cases h
theorem rng_len {lo c : Int} {n : Nat} : (rngD lo c n).length = n := by unfold rngD; rw [List.length_map, List.length_range]
theorem walk_rng1 {K : PySem.W.Frag} {H : Hp} {lo : Int} {n : Nat} : WalkOk K (Itr lo n) (rngD lo 1 n) [] H :=
  ⟨fun _ => True, trivial, fun _ _ _ _ _ _ _ => trivial, fun i H1 d _ e => by
    obtain ⟨h1, rfl⟩ := rng_get e
    refine ⟨h1, fun x H2 ⟨e1, e2⟩ => ?_⟩
    subst e1; subst e2
    rw [Int.mul_one]
    exact ⟨Ext.refl _, [], .int _, fun _ z => nomatch z⟩, fun H1 _ => by rw [rng_len]; exact Nat.le_refl _⟩
theorem walk_rng3 {K : PySem.W.Frag} {H : Hp} {lo c : Int} {n : Nat} : WalkOk K (Itc lo c n) (rngD lo c n) [] H :=
  ⟨fun _ => True, trivial, fun _ _ _ _ _ _ _ => trivial, fun i H1 d _ e => by
    obtain ⟨h1, rfl⟩ := rng_get e
    refine ⟨h1, fun x H2 ⟨e1, e2⟩ => ?_⟩
    subst e1; subst e2
    exact ⟨Ext.refl _, [], .int _, fun _ z => nomatch z⟩, fun H1 _ => by rw [rng_len]; exact Nat.le_refl _⟩
theorem vi_rng1 (hm : X.mg "range" = none) (ha : VA X M R [a] fs) (hg : Gl X "range" := by rfl) (hs : starEach [a] X.env = [(false, eval a X.env)] := by rfl) : VI X M [] tg (.Call (.Name "range" p) [a] [] pos) (iRng1 fs) := ⟨fun env items env' h σ H Ws Q re sp q => by
  unfold iRng1 at h
  obtain ⟨⟨y, e1⟩, h1, h⟩ := Option.bind_eq_some_iff.mp h
  refine WIt.of (pi_r1 hg hm pa_wa hs) (ha.run env y e1 h1 σ H Ws _ re sp fun v H1 Ws1 W1 r1 re1 t1 o1 => ?_)
  split at h
  · rename_i j hy
    have hy' : y = [.int j] := hy
    subst hy'
    cases h
    obtain ⟨u, rfl, r2⟩ := r1.one
    cases r2
    exact ⟨j, rfl, q _ H1 Ws1 [] walk_rng1 re1 t1 Own.nil fun _ z => nomatch z⟩
  · cases h⟩
theorem Reps.two {K : PySem.W.Frag} {H : Hp} {i j : Int} {vs : List V} {W : List Addr} (h : Reps K H [.int i, .int j] vs W) : vs = [.int i, .int j] := by
  cases h with
  | cons h1 h2 =>
    cases h1
    obtain ⟨u, rfl, r⟩ := h2.one
    cases r
    rfl
theorem Reps.three {K : PySem.W.Frag} {H : Hp} {i j k : Int} {vs : List V} {W : List Addr} (h : Reps K H [.int i, .int j, .int k] vs W) : vs = [.int i, .int j, .int k] := by
  cases h with
  | cons h1 h2 =>
    cases h1
    rw [h2.two]
theorem vi_rng2 (hm : X.mg "range" = none) (ha : VA X M R [a, b] fs) (hg : Gl X "range" := by rfl) (hs : starEach [a, b] X.env = [(false, eval a X.env), (false, eval b X.env)] := by rfl) (hs2 : starEach [b] X.env = [(false, eval b X.env)] := by rfl) : VI X M [] tg (.Call (.Name "range" p) [a, b] [] pos) (iRng2 fs) := ⟨fun env items env' h σ H Ws Q re sp q => by
  unfold iRng2 at h
  obtain ⟨⟨y, e1⟩, h1, h⟩ := Option.bind_eq_some_iff.mp h
  refine WIt.of (pi_r2 hg hm pa_wa hs hs2) (ha.run env y e1 h1 σ H Ws _ re sp fun v H1 Ws1 W1 r1 re1 t1 o1 => ?_)
  split at h
  · rename_i i j hy
    have hy' : y = [.int i, .int j] := hy
    subst hy'
    cases h
    have e2 := r1.two
    subst e2
    exact ⟨i, j, rfl, q _ H1 Ws1 [] walk_rng1 re1 t1 Own.nil fun _ z => nomatch z⟩
  · cases h⟩
theorem vi_rng3 (hm : X.mg "range" = none) (ha : VA X M R [a, b, c] fs) (hg : Gl X "range" := by rfl) (hs : starEach [a, b, c] X.env = (false, eval a X.env) :: starEach [b, c] X.env := by rfl) (hpl : (backTo pos (starEach [b, c] X.env)).any (·.1) = false := by rfl) : VI X M [] tg (.Call (.Name "range" p) [a, b, c] [] pos) (iRng3 fs) := ⟨fun env items env' h σ H Ws Q re sp q => by
  unfold iRng3 at h
  obtain ⟨⟨y, e1⟩, h1, h⟩ := Option.bind_eq_some_iff.mp h
  refine WIt.of (pi_range3 hg hm pa_wa hs hpl) (ha.run env y e1 h1 σ H Ws _ re sp fun v H1 Ws1 W1 r1 re1 t1 o1 => ?_)
  split at h
  · rename_i i j k hy
    have hy' : y = [.int i, .int j, .int k] := hy
    subst hy'
    split at h
    · rename_i hb
      cases h
      have e2 := r1.three
      subst e2
      refine ⟨i, j, k, (Builtin.Range.rangeSize i j k).toNat, rfl, ⟨hb.1, hb.2.1, hb.2.2.1, by have := hb.2.2.2; omega⟩, q _ H1 Ws1 [] walk_rng3 re1 t1 Own.nil fun _ z => nomatch z⟩
    · cases h
  · cases h⟩
end
end VL

/-! VLJ: stores in place, dicts, augmented stores over plain data. -/
namespace VL
open PySem PySem.Spec L2

/-! ### a slot's object has changed in place -/
section
variable {K : PySem.W.Frag} {H H1 H2 : Hp} {env1 : Ev} {σ : L2.St} {Ws Ws1 : Wm} {M : List Nat}
theorem slot_fin {i : Nat} {v : V} {x' : D} {W1 Wr W' : List Addr} (hiM : i ∈ M) (re1 : REnv K H1 env1 σ Ws1) (t1 : Tr M Ws Ws1 H H1) (hv : σ[i]? = some (some v)) (hil : i < env1.length) (own1 : ∀ a ∈ W1, (InM M Ws a ∨ H a = none) ∧ ∀ j, a ∉ Ws1 j)
    (k : Kp (· ∈ Ws1 i) H1 H2) (rx : Rep K H2 x' v W') (sub : ∀ a ∈ Wr ++ W', a ∈ Ws1 i ++ W1) (nd : (Wr ++ W').Nodup) :
    REnv K H2 (env1.set i (some x')) σ (setW Ws1 i W') ∧ Tr M Ws (setW Ws1 i W') H H2 ∧ Own M [] Ws (setW Ws1 i W') H Wr := by
  have sp1 := t1.sep
  have sub' : ∀ a ∈ Wr ++ W', a ∈ Ws1 i ∨ a ∈ W1 := fun a ha => List.mem_append.mp (sub a ha)
  have re2 := re1.upd (sp1 i hiM).2 hil hv k rx
  obtain ⟨nd1, nd2, nd3⟩ := List.nodup_append.mp nd
  have fr : ∀ a ∈ Ws1 i ++ W1, InM M Ws a ∨ H a = none := fun a ha => by
    rcases List.mem_append.mp ha with z | z
    · exact t1.sub i hiM a z
    · exact (own1 a z).1
  have tr : Tr M Ws (setW Ws1 i W') H H2 := by
    refine ⟨fun a o ho n => ?_, fun j hj => ?_, fun j hj a ha => ?_, fun j hj => ?_⟩
    · refine k a o (t1.keep a o ho n) fun z => ?_
      rcases t1.sub i hiM a z with y | y
      · exact n y
      · rw [ho] at y; cases y
    · have hji : j ≠ i := fun e => hj (by rw [e]; exact hiM)
      rw [setW_ne hji]
      exact t1.same j hj
    · by_cases e : j = i
      · subst e
        rw [setW_same] at ha
        exact fr a (sub a (List.mem_append_right _ ha))
      · rw [setW_ne e] at ha
        exact t1.sub j hj a ha
    · have new : ∀ a ∈ W', ∀ l, l ≠ i → a ∉ Ws1 l := fun a ha l hl => by
        rcases sub' a (List.mem_append_right _ ha) with z | z
        · exact (sp1 i hiM).2 l hl a z
        · exact (own1 a z).2 l
      by_cases e : j = i
      · subst e
        rw [setW_same]
        exact ⟨nd2, fun l hl a ha => by rw [setW_ne hl]; exact new a ha l hl⟩
      · rw [setW_ne e]
        refine ⟨(sp1 j hj).1, fun l hl a ha => ?_⟩
        by_cases e2 : l = i
        · subst e2
          rw [setW_same]
          exact fun z => new a z j e ha
        · rw [setW_ne e2]
          exact (sp1 j hj).2 l hl a ha
  refine ⟨re2, tr, ⟨fun a ha => .inl ⟨fr a (sub a (List.mem_append_left _ ha)), fun j z => ?_⟩, fun _ => nd1⟩⟩
  by_cases e : j = i
  · subst e
    rw [setW_same] at z
    exact nd3 a ha a z rfl
  · rw [setW_ne e] at z
    rcases sub' a (List.mem_append_left _ ha) with y | y
    · exact (sp1 i hiM).2 j e a y z
    · exact (own1 a y).2 j z
theorem own_fr {W : List Addr} {H : Hp} (o : Own M [] Ws Ws1 H W) : ∀ a ∈ W, (InM M Ws a ∨ H a = none) ∧ ∀ j, a ∉ Ws1 j := fun a ha => by
  rcases o.at' a ha with z | ⟨_, z, _⟩
  · exact z
  · exact nomatch z
/-- an item is another one -/
theorem Reps.setAt {K : PySem.W.Frag} {H : Hp} {d : D} {v : V} {Wd : List Addr} (rd : Rep K H d v Wd) : ∀ {ds : List D} {vs : List V} {W : List Addr} (j : Nat), Reps K H ds vs W → j < ds.length → (W ++ Wd).Nodup → ∃ W', Reps K H (ds.set j d) (vs.set j v) W' ∧ (∀ a ∈ W', a ∈ W ++ Wd) ∧ W'.Nodup
  | x :: ds, _, _, 0, r, h, n => by
    cases r with
    | @cons _ v0 _ vs0 W0 W2 h1 h2 =>
      rw [List.append_assoc] at n
      obtain ⟨n1, n2, n3⟩ := List.nodup_append.mp n
      obtain ⟨m1, m2, m3⟩ := List.nodup_append.mp n2
      refine ⟨Wd ++ W2, .cons rd h2, fun a ha => ?_, List.nodup_append.mpr ⟨m2, m1, fun a ha b hb e => m3 b hb a ha e.symm⟩⟩
      rw [List.append_assoc]
      rcases List.mem_append.mp ha with z | z
      · exact List.mem_append_right _ (List.mem_append_right _ z)
      · exact List.mem_append_right _ (List.mem_append_left _ z)
  | x :: ds, _, _, j + 1, r, h, n => by
    cases r with
    | @cons _ v0 _ vs0 W0 W2 h1 h2 =>
      rw [List.append_assoc] at n
      obtain ⟨n1, n2, n3⟩ := List.nodup_append.mp n
      obtain ⟨W', r', s', n'⟩ := Reps.setAt rd j h2 (Nat.lt_of_succ_lt_succ h) n2
      refine ⟨W0 ++ W', .cons h1 r', fun a ha => ?_, List.nodup_append.mpr ⟨n1, n', fun a ha b hb e => n3 a ha b (s' b hb) e⟩⟩
      rw [List.append_assoc]
      rcases List.mem_append.mp ha with z | z
      · exact List.mem_append_left _ z
      · exact List.mem_append_right _ (s' a z)
/-- an item's object changes in place -/
theorem Reps.focus {K : PySem.W.Frag} {H : Hp} : ∀ {ds : List D} {vs : List V} {W : List Addr} (j : Nat) {d : D}, Reps K H ds vs W → ds[j]? = some d → W.Nodup → ∃ v Wx, vs[j]? = some v ∧ Rep K H d v Wx ∧ (∀ a ∈ Wx, a ∈ W) ∧ Wx.Nodup ∧
    ∀ (H' : Hp) (d' : D) (W' : List Addr), Kp (· ∈ Wx) H H' → Rep K H' d' v W' → W'.Nodup → (∀ a ∈ W', a ∈ Wx ∨ a ∉ W) → ∃ W2, Reps K H' (ds.set j d') vs W2 ∧ (∀ a ∈ W2, (a ∈ W ∧ a ∉ Wx) ∨ a ∈ W') ∧ W2.Nodup
  | x :: ds, _, _, 0, d, r, h, n => by
    cases r with
    | @cons _ v0 _ vs0 W0 W2 h1 h2 =>
      have e : x = d := by simpa using h
      subst e
      obtain ⟨n1, n2, n3⟩ := List.nodup_append.mp n
      refine ⟨v0, W0, rfl, h1, fun a ha => List.mem_append_left _ ha, n1, fun H' d' W' k r' nd' s => ?_⟩
      have r2 := Reps.kp k (fun a ha => Rep.mt _ _ _ h1 a ha) _ _ _ h2 fun a ha z => n3 a z a ha rfl
      refine ⟨W' ++ W2, .cons r' r2, fun a ha => ?_, List.nodup_append.mpr ⟨nd', n2, fun a ha b hb e => ?_⟩⟩
      · rcases List.mem_append.mp ha with z | z
        · exact .inr z
        · exact .inl ⟨List.mem_append_right _ z, fun y => n3 a y a z rfl⟩
      · subst e
        rcases s a ha with z | z
        · exact n3 a z a hb rfl
        · exact z (List.mem_append_right _ hb)
  | x :: ds, _, _, j + 1, d, r, h, n => by
    cases r with
    | @cons _ v0 _ vs0 W0 W2 h1 h2 =>
      obtain ⟨n1, n2, n3⟩ := List.nodup_append.mp n
      obtain ⟨v, Wx, e1, rx, s1, nx, go⟩ := Reps.focus j h2 (by simpa using h) n2
      refine ⟨v, Wx, by simpa using e1, rx, fun a ha => List.mem_append_right _ (s1 a ha), nx, fun H' d' W' k r' nd' s => ?_⟩
      obtain ⟨W3, r3, s3, n4⟩ := go H' d' W' k r' nd' fun a ha => (s a ha).imp id fun z y => z (List.mem_append_right _ y)
      have r1 := Rep.kp k (fun a ha => Rep.mt _ _ _ rx a ha) _ _ _ h1 fun a ha z => n3 a ha a (s1 a z) rfl
      refine ⟨W0 ++ W3, .cons r1 r3, fun a ha => ?_, List.nodup_append.mpr ⟨n1, n4, fun a ha b hb e => ?_⟩⟩
      · rcases List.mem_append.mp ha with z | z
        · exact .inl ⟨List.mem_append_left _ z, fun y => n3 a z a (s1 a y) rfl⟩
        · exact (s3 a z).imp (fun y => ⟨List.mem_append_right _ y.1, y.2⟩) id
      · subst e
        rcases s3 a hb with z | z
        · exact n3 a ha a z.1 rfl
        · rcases s a z with y | y
          · exact n3 a ha a (s1 a y) rfl
          · exact y (List.mem_append_left _ ha)
end

/-! ### dicts as data -/
def keyD : D → Option Key
  | .int i => some (.inl i)
  | .str x => some (.inr x)
  | _ => none
def valD {κ : Type} [DecidableEq κ] (kds : List (κ × D)) (k : κ) : Option D := (kds.find? fun kv => decide (kv.1 = k)).map (·.2)
def putD {κ : Type} [DecidableEq κ] (kds : List (κ × D)) (k : κ) (d : D) : List (κ × D) :=
  if (kds.any fun kv => decide (kv.1 = k)) = true then kds.map (fun kv => if kv.1 = k then (kv.1, d) else kv) else kds ++ [(k, d)]
theorem keyD_kV {d : D} {k : Key} {K : PySem.W.Frag} {H : Hp} {v : V} {W : List Addr} (h : keyD d = some k) (r : Rep K H d v W) : v = kV k := by
  cases r <;> first | (cases h; rfl) | cases h
section
variable {K : PySem.W.Frag} {H : Hp}
theorem RepK.val {k : Key} : ∀ {kds : List (Key × D)} {kvs : List (Key × V)} {W : List Addr}, RepK K H kds kvs W → match valD kds k with
    | some d => ∃ v W', valV kvs k = some v ∧ Rep K H d v W' ∧ (∀ a ∈ W', a ∈ W) ∧ (W.Nodup → W'.Nodup)
    | none => valV kvs k = none
  | [], _, _, r => by cases r; exact rfl
  | (k0, d0) :: kds, _, _, r => by
    cases r with
    | @cons _ _ v0 _ vs W1 W2 r1 r2 =>
      by_cases h : k0 = k
      · have e1 : valD ((k0, d0) :: kds) k = some d0 := by unfold valD; rw [List.find?_cons_of_pos (by simpa using h)]; rfl
        have e2 : valV ((k0, v0) :: vs) k = some v0 := valV_pos h
        rw [e1]
        exact ⟨v0, W1, e2, r1, fun a ha => List.mem_append_left _ ha, fun n => (List.nodup_append.mp n).1⟩
      · have e1 : valD ((k0, d0) :: kds) k = valD kds k := by unfold valD; rw [List.find?_cons_of_neg (by simpa using h)]
        have e2 : valV ((k0, v0) :: vs) k = valV vs k := valV_neg h
        rw [e1, e2]
        have ih := RepK.val (k := k) r2
        cases hv : valD kds k with
        | none => rw [hv] at ih; exact ih
        | some d =>
          rw [hv] at ih
          obtain ⟨v, W', a, b, c, n⟩ := ih
          exact ⟨v, W', a, b, fun z hz => List.mem_append_right _ (c z hz), fun z => n (List.nodup_append.mp z).2.1⟩
theorem RepK.anyk {k : Key} : ∀ {kds : List (Key × D)} {kvs : List (Key × V)} {W : List Addr}, RepK K H kds kvs W → (kds.any fun kv => decide (kv.1 = k)) = kvs.any fun kv => decide (kv.1 = k)
  | [], _, _, r => by cases r; rfl
  | (k0, d0) :: kds, _, _, r => by
    cases r with
    | cons r1 r2 => rw [List.any_cons, List.any_cons, RepK.anyk r2]
theorem RepK.append {Wd : List Addr} : ∀ {kds : List (Key × D)} {kvs : List (Key × V)} {W : List Addr} {k : Key} {d : D} {v : V}, RepK K H kds kvs W → Rep K H d v Wd → RepK K H (kds ++ [(k, d)]) (kvs ++ [(k, v)]) (W ++ (Wd ++ []))
  | [], _, _, _, _, _, r, rd => by
    cases r
    show RepK K H _ _ (Wd ++ [])
    exact .cons rd .nil
  | (k0, d0) :: kds, _, _, _, _, _, r, rd => by
    cases r with
    | cons r1 r2 => rw [List.append_assoc]; exact .cons r1 (RepK.append r2 rd)
/-- flat values: a key's value is another one -/
theorem RepK.repl {k : Key} {d : D} {v : V} (rd : Rep K H d v []) : ∀ {kds : List (Key × D)} {kvs : List (Key × V)} {W : List Addr}, RepK K H kds kvs W → ∃ W', RepK K H (kds.map fun kv => if kv.1 = k then (kv.1, d) else kv) (kvs.map fun kv => if kv.1 = k then (kv.1, v) else kv) W' ∧ (∀ a ∈ W', a ∈ W) ∧ (W.Nodup → W'.Nodup)
  | [], _, _, r => by cases r; exact ⟨[], .nil, fun _ z => z, fun n => n⟩
  | (k0, d0) :: kds, _, _, r => by
    cases r with
    | @cons _ _ v0 _ vs W1 W2 r1 r2 =>
      obtain ⟨W', r', s, n⟩ := RepK.repl rd r2
      rw [List.map_cons, List.map_cons]
      by_cases h : k0 = k
      · rw [if_pos h, if_pos h]
        exact ⟨[] ++ W', .cons rd r', fun a ha => List.mem_append_right _ (s a ha), fun z => n (List.nodup_append.mp z).2.1⟩
      · rw [if_neg h, if_neg h]
        refine ⟨W1 ++ W', .cons r1 r', fun a ha => (List.mem_append.mp ha).elim (List.mem_append_left _) fun z => List.mem_append_right _ (s a z), fun z => ?_⟩
        obtain ⟨z1, z2, z3⟩ := List.nodup_append.mp z
        exact List.nodup_append.mpr ⟨z1, n z2, fun a ha b hb => z3 a ha b (s b hb)⟩
theorem RepT.val {k : List Key} : ∀ {kds : List (List Key × D)} {kvs : List (List Key × V)} {W : List Addr}, RepT K H kds kvs W → match valD kds k with
    | some d => ∃ v W', valV kvs k = some v ∧ Rep K H d v W' ∧ (∀ a ∈ W', a ∈ W) ∧ (W.Nodup → W'.Nodup)
    | none => valV kvs k = none
  | [], _, _, r => by cases r; exact rfl
  | (k0, d0) :: kds, _, _, r => by
    cases r with
    | @cons _ _ v0 _ vs W1 W2 r1 r2 =>
      by_cases h : k0 = k
      · have e1 : valD ((k0, d0) :: kds) k = some d0 := by unfold valD; rw [List.find?_cons_of_pos (by simpa using h)]; rfl
        have e2 : valV ((k0, v0) :: vs) k = some v0 := valV_pos h
        rw [e1]
        exact ⟨v0, W1, e2, r1, fun a ha => List.mem_append_left _ ha, fun n => (List.nodup_append.mp n).1⟩
      · have e1 : valD ((k0, d0) :: kds) k = valD kds k := by unfold valD; rw [List.find?_cons_of_neg (by simpa using h)]
        have e2 : valV ((k0, v0) :: vs) k = valV vs k := valV_neg h
        rw [e1, e2]
        have ih := RepT.val (k := k) r2
        cases hv : valD kds k with
        | none => rw [hv] at ih; exact ih
        | some d =>
          rw [hv] at ih
          obtain ⟨v, W', a, b, c, n⟩ := ih
          exact ⟨v, W', a, b, fun z hz => List.mem_append_right _ (c z hz), fun z => n (List.nodup_append.mp z).2.1⟩
theorem RepT.anyk {k : List Key} : ∀ {kds : List (List Key × D)} {kvs : List (List Key × V)} {W : List Addr}, RepT K H kds kvs W → (kds.any fun kv => decide (kv.1 = k)) = kvs.any fun kv => decide (kv.1 = k)
  | [], _, _, r => by cases r; rfl
  | (k0, d0) :: kds, _, _, r => by
    cases r with
    | cons r1 r2 => rw [List.any_cons, List.any_cons, RepT.anyk r2]
theorem RepT.append {Wd : List Addr} : ∀ {kds : List (List Key × D)} {kvs : List (List Key × V)} {W : List Addr} {k : List Key} {d : D} {v : V}, RepT K H kds kvs W → Rep K H d v Wd → RepT K H (kds ++ [(k, d)]) (kvs ++ [(k, v)]) (W ++ (Wd ++ []))
  | [], _, _, _, _, _, r, rd => by
    cases r
    show RepT K H _ _ (Wd ++ [])
    exact .cons rd .nil
  | (k0, d0) :: kds, _, _, _, _, _, r, rd => by
    cases r with
    | cons r1 r2 => rw [List.append_assoc]; exact .cons r1 (RepT.append r2 rd)
/-- flat values: a key's value is another one -/
theorem RepT.repl {k : List Key} {d : D} {v : V} (rd : Rep K H d v []) : ∀ {kds : List (List Key × D)} {kvs : List (List Key × V)} {W : List Addr}, RepT K H kds kvs W → ∃ W', RepT K H (kds.map fun kv => if kv.1 = k then (kv.1, d) else kv) (kvs.map fun kv => if kv.1 = k then (kv.1, v) else kv) W' ∧ (∀ a ∈ W', a ∈ W) ∧ (W.Nodup → W'.Nodup)
  | [], _, _, r => by cases r; exact ⟨[], .nil, fun _ z => z, fun n => n⟩
  | (k0, d0) :: kds, _, _, r => by
    cases r with
    | @cons _ _ v0 _ vs W1 W2 r1 r2 =>
      obtain ⟨W', r', s, n⟩ := RepT.repl rd r2
      rw [List.map_cons, List.map_cons]
      by_cases h : k0 = k
      · rw [if_pos h, if_pos h]
        exact ⟨[] ++ W', .cons rd r', fun a ha => List.mem_append_right _ (s a ha), fun z => n (List.nodup_append.mp z).2.1⟩
      · rw [if_neg h, if_neg h]
        refine ⟨W1 ++ W', .cons r1 r', fun a ha => (List.mem_append.mp ha).elim (List.mem_append_left _) fun z => List.mem_append_right _ (s a z), fun z => ?_⟩
        obtain ⟨z1, z2, z3⟩ := List.nodup_append.mp z
        exact List.nodup_append.mpr ⟨z1, n z2, fun a ha b hb => z3 a ha b (s b hb)⟩
end

/-! tuples as keys -/
def keysD? : List D → Option (List Key)
  | [] => some []
  | d :: r => (keyD d).bind fun k => (keysD? r).bind fun s => some (k :: s)
def keyT : D → Option (List Key)
  | .tup ds => keysD? ds
  | _ => none
theorem keysD?_kV {K : PySem.W.Frag} {H : Hp} : ∀ {ds : List D} {ks : List Key} {vs : List V} {W : List Addr}, keysD? ds = some ks → Reps K H ds vs W → vs = ks.map kV
  | [], _, _, _, h, r => by cases h; cases r; rfl
  | d :: ds, _, _, _, h, r => by
    obtain ⟨k, h1, h⟩ := Option.bind_eq_some_iff.mp (show ((keyD d).bind fun k => (keysD? ds).bind fun s => some (k :: s)) = some _ from h)
    obtain ⟨t, h2, h⟩ := Option.bind_eq_some_iff.mp h
    cases h
    cases r with
    | cons r1 r2 => rw [keyD_kV h1 r1, keysD?_kV h2 r2]; rfl
theorem keyT_kV {d : D} {k : List Key} {K : PySem.W.Frag} {H : Hp} {v : V} {W : List Addr} (h : keyT d = some k) (r : Rep K H d v W) : ∃ b, v = .ref b ∧ H b = some (.tup (k.map kV)) := by
  cases r with
  | tup h1 r1 => exact ⟨_, rfl, by rw [h1, keysD?_kV h r1]⟩
  | non => cases h
  | bl => cases h
  | int => cases h
  | str => cases h
  | lst => cases h
  | rol => cases h
  | dct => cases h
  | rod => cases h
  | dtt => cases h

/-! ### reading: lists and dicts alike -/
def dIxA : D → D → Option D
  | .dct kds, y => (keyD y).bind fun k => valD kds k
  | .rod kds, y => (keyD y).bind fun k => valD kds k
  | .dtt kds, y => (keyT y).bind fun k => valD kds k
  | x, y => dIx x y
def dInA (x y : D) : Option D := match y with
  | .dct kds => (keyD x).bind fun k => some (.bl (valD kds k).isSome)
  | .rod kds => (keyD x).bind fun k => some (.bl (valD kds k).isSome)
  | .dtt kds => (keyT x).bind fun k => some (.bl (valD kds k).isSome)
  | _ => dIn x y
def dNotInA (x y : D) : Option D := match y with
  | .dct kds => (keyD x).bind fun k => some (.bl (!(valD kds k).isSome))
  | .rod kds => (keyD x).bind fun k => some (.bl (!(valD kds k).isSome))
  | .dtt kds => (keyT x).bind fun k => some (.bl (!(valD kds k).isSome))
  | _ => dNotIn x y
section
variable {X : Cx} {M Mb R Ra Rb : List Nat} {a b c e : Expr} {es : List Expr} {pos : Pos} {f fa fb fc : Ev → Option (D × Ev)} {ft : Ev → Option (Bool × Ev)}
theorem dget_of {K : PySem.W.Frag} {H : Hp} {x : D} {v : V} {W : List Addr} {kds : List (Key × D)} (hx : x = .dct kds ∨ x = .rod kds) (r : Rep K H x v W) {k : Key} : ∃ p kvs Wk, v = .ref p ∧ Rd H p (.dK kvs) ∧ RepK K H kds kvs Wk ∧ W = p :: Wk ∧ DGet H p (kV k) (valV kvs k) := by
  rcases hx with rfl | rfl
  · cases r with
    | dct h1 r1 => exact ⟨_, _, _, rfl, .inl h1, r1, rfl, .inl ⟨_, k, .inl h1, rfl, rfl⟩⟩
  · cases r with
    | rod h1 r1 => obtain ⟨o, h1⟩ := h1; exact ⟨_, _, _, rfl, .inr ⟨o, h1⟩, r1, rfl, .inl ⟨_, k, .inr ⟨o, h1⟩, rfl, rfl⟩⟩
theorem dgetT_of {K : PySem.W.Frag} {H : Hp} {v : V} {W : List Addr} {kds : List (List Key × D)} (r : Rep K H (.dtt kds) v W) {k : List Key} : ∃ p kvs Wk, v = .ref p ∧ H p = some (.dT kvs) ∧ RepT K H kds kvs Wk ∧ W = p :: Wk ∧ ∀ b, H b = some (.tup (k.map kV)) → DGet H p (.ref b) (valV kvs k) := by
  cases r with
  | dtt h1 r1 => exact ⟨_, _, _, rfl, h1, r1, rfl, fun b hb => .inr ⟨_, k, b, .inl h1, rfl, hb, rfl⟩⟩
theorem ve_ixA (hu : X.A.units + 64 < cLine) (hpl : PlainIx b) (ha : VE X M Ra a fa) (hb : VE X Mb Rb b fb) (hs : ∀ i ∈ Mb, i ∈ M := by decide) (hd : ∀ i ∈ Ra, i ∉ Mb := by decide) : VE X M Ra (.Subscript a b pos) (eOp dIxA fa fb) := ⟨fun env d env' h σ H Ws Q re sp q => by
  have h0 := h
  unfold eOp at h
  obtain ⟨⟨x, e1⟩, h1, h⟩ := Option.bind_eq_some_iff.mp h
  obtain ⟨⟨y, e2⟩, h2, h⟩ := Option.bind_eq_some_iff.mp h
  obtain ⟨z, h3, h⟩ := Option.bind_eq_some_iff.mp h
  cases h
  have dict : ∀ kds, (x = .dct kds ∨ x = .rod kds) → ((keyD y).bind fun k => valD kds k) = some d → WE X (.Subscript a b pos) σ H Q := fun kds hx h3 => by
    obtain ⟨k, hk, hv⟩ := Option.bind_eq_some_iff.mp h3
    refine WE.of (pe_dget (by omega) pe_we pe_we hpl) (ve_two ha hb hs hd h1 h2 re sp fun v u H' Ws' W1 W2 r1 r2 re' t o1 o2 _ => ?_)
    obtain ⟨p, kvs, Wk, e1, hr, rk, eW, g⟩ := dget_of hx r1 (k := k)
    have hk' := keyD_kV hk r2
    subst e1; subst hk'
    have rv := rk.val (k := k)
    rw [hv] at rv
    obtain ⟨w, Ww, a1, a2, a3, a4⟩ := rv
    rw [a1] at g
    exact ⟨p, w, rfl, g, q w H' Ws' Ww a2 re' t (o1.sub (fun z hz => by rw [eW]; exact List.mem_cons_of_mem _ (a3 z hz)) fun n => by rw [eW] at n; exact a4 (List.nodup_cons.mp n).2)⟩
  have dictT : ∀ kds, x = .dtt kds → ((keyT y).bind fun k => valD kds k) = some d → WE X (.Subscript a b pos) σ H Q := fun kds hx h3 => by
    obtain ⟨k, hk, hv⟩ := Option.bind_eq_some_iff.mp h3
    subst hx
    refine WE.of (pe_dget (by omega) pe_we pe_we hpl) (ve_two ha hb hs hd h1 h2 re sp fun v u H' Ws' W1 W2 r1 r2 re' t o1 o2 _ => ?_)
    obtain ⟨p, kvs, Wk, e1, hr, rk, eW, gg⟩ := dgetT_of r1 (k := k)
    obtain ⟨bb, hk', hbb⟩ := keyT_kV hk r2
    have g := gg bb hbb
    subst e1; subst hk'
    have rv := rk.val (k := k)
    rw [hv] at rv
    obtain ⟨w, Ww, a1, a2, a3, a4⟩ := rv
    rw [a1] at g
    exact ⟨p, w, rfl, g, q w H' Ws' Ww a2 re' t (o1.sub (fun z hz => by rw [eW]; exact List.mem_cons_of_mem _ (a3 z hz)) fun n => by rw [eW] at n; exact a4 (List.nodup_cons.mp n).2)⟩
  have other : dIx x y = some d → WE X (.Subscript a b pos) σ H Q := fun h3 => (ve_ix ixs hpl ha hb hs hd).run env d _ (by unfold eOp; rw [h1]; show ((fb e1).bind _) = _; rw [h2]; show ((dIx x y).bind _) = _; rw [h3]; rfl) σ H Ws Q re sp q
  cases x with
  | dct kds => exact dict kds (.inl rfl) h3
  | rod kds => exact dict kds (.inr rfl) h3
  | non => exact other h3
  | bl _ => exact other h3
  | int _ => exact other h3
  | str _ => exact other h3
  | tup _ => exact other h3
  | lst _ => exact other h3
  | rol _ => exact other h3
  | dtt kds => exact dictT kds rfl h3⟩
theorem in_dict (hu : X.A.units + 65 < cLine) (ha : VE X M Ra a fa) (hb : VE X Mb Rb b fb) (hs : ∀ i ∈ Mb, i ∈ M) (hd : ∀ i ∈ Ra, i ∉ Mb) {env e1 e2 : Ev} {x y : D} (h1 : fa env = some (x, e1)) (h2 : fb e1 = some (y, e2)) {kds : List (Key × D)} (hy : y = .dct kds ∨ y = .rod kds) {k : Key} (hk : keyD x = some k)
    {σ : L2.St} {H : Hp} {Ws : Wm} {Q : Bool → Hp → Prop} (re : REnv X.K H env σ Ws) (sp : Sep M Ws) (q : ∀ H' Ws', REnv X.K H' e2 σ Ws' → Tr M Ws Ws' H H' → Q (valD kds k).isSome H') :
    (WE X a σ H fun y H1 => WE X b σ H1 fun x H2 => ∃ p o, x = .ref p ∧ DGet H2 p y o ∧ Q o.isSome H2) :=
  ve_two ha hb hs hd h1 h2 re sp fun v u H' Ws' W1 W2 r1 r2 re' t o1 o2 _ => by
    obtain ⟨p, kvs, Wk, e1, hr, rk, eW, g⟩ := dget_of hy r2 (k := k)
    have hk' := keyD_kV hk r1
    subst e1; subst hk'
    refine ⟨p, _, rfl, g, ?_⟩
    have rv := rk.val (k := k)
    have q' := q H' Ws' re' t
    cases hv : valD kds k with
    | none => rw [hv] at rv q'; rw [rv]; exact q'
    | some d => rw [hv] at rv q'; obtain ⟨w, Ww, a1, _⟩ := rv; rw [a1]; exact q'
theorem in_dictT (hu : X.A.units + 65 < cLine) (ha : VE X M Ra a fa) (hb : VE X Mb Rb b fb) (hs : ∀ i ∈ Mb, i ∈ M) (hd : ∀ i ∈ Ra, i ∉ Mb) {env e1 e2 : Ev} {x y : D} (h1 : fa env = some (x, e1)) (h2 : fb e1 = some (y, e2)) {kds : List (List Key × D)} (hy : y = .dtt kds) {k : List Key} (hk : keyT x = some k)
    {σ : L2.St} {H : Hp} {Ws : Wm} {Q : Bool → Hp → Prop} (re : REnv X.K H env σ Ws) (sp : Sep M Ws) (q : ∀ H' Ws', REnv X.K H' e2 σ Ws' → Tr M Ws Ws' H H' → Q (valD kds k).isSome H') :
    (WE X a σ H fun y H1 => WE X b σ H1 fun x H2 => ∃ p o, x = .ref p ∧ DGet H2 p y o ∧ Q o.isSome H2) :=
  ve_two ha hb hs hd h1 h2 re sp fun v u H' Ws' W1 W2 r1 r2 re' t o1 o2 _ => by
    subst hy
    obtain ⟨p, kvs, Wk, e1, hr, rk, eW, gg⟩ := dgetT_of r2 (k := k)
    obtain ⟨bb, hk', hbb⟩ := keyT_kV hk r1
    have g := gg bb hbb
    subst e1; subst hk'
    refine ⟨p, _, rfl, g, ?_⟩
    have rv := rk.val (k := k)
    have q' := q H' Ws' re' t
    cases hv : valD kds k with
    | none => rw [hv] at rv q'; rw [rv]; exact q'
    | some d => rw [hv] at rv q'; obtain ⟨w, Ww, a1, _⟩ := rv; rw [a1]; exact q'
theorem ve_in (hu : X.A.units + 65 < cLine) (hm : behindInMarks .In b = false) (ha : VE X M Ra a fa) (hb : VE X Mb Rb b fb) (hs : ∀ i ∈ Mb, i ∈ M := by decide) (hd : ∀ i ∈ Ra, i ∉ Mb := by decide) : VE X M [] (.Compare a [.In] [b] pos) (eOp dInA fa fb) := ⟨fun env d env' h σ H Ws Q re sp q => by
  unfold eOp at h
  obtain ⟨⟨x, e1⟩, h1, h⟩ := Option.bind_eq_some_iff.mp h
  obtain ⟨⟨y, e2⟩, h2, h⟩ := Option.bind_eq_some_iff.mp h
  obtain ⟨z, h3, h⟩ := Option.bind_eq_some_iff.mp h
  cases h
  have dict : ∀ kds, (y = .dct kds ∨ y = .rod kds) → ((keyD x).bind fun k => some (D.bl (valD kds k).isSome)) = some d → WE X (.Compare a [.In] [b] pos) σ H Q := fun kds hy h3 => by
    obtain ⟨k, hk, hv⟩ := Option.bind_eq_some_iff.mp h3
    cases hv
    exact WE.of (pe_cmp (pc_din (by omega) pe_we pe_we) hm) (in_dict (Q := fun c H' => Q (.bl c) H') hu ha hb hs hd h1 h2 hy hk re sp fun H' Ws' re' t => q _ H' Ws' [] (.bl _) re' t Own.nil)
  have dictT : ∀ kds, y = .dtt kds → ((keyT x).bind fun k => some (D.bl (valD kds k).isSome)) = some d → WE X (.Compare a [.In] [b] pos) σ H Q := fun kds hy h3 => by
    obtain ⟨k, hk, hv⟩ := Option.bind_eq_some_iff.mp h3
    cases hv
    exact WE.of (pe_cmp (pc_din (by omega) pe_we pe_we) hm) (in_dictT (Q := fun c H' => Q (.bl c) H') hu ha hb hs hd h1 h2 hy hk re sp fun H' Ws' re' t => q _ H' Ws' [] (.bl _) re' t Own.nil)
  have other : dIn x y = some d → WE X (.Compare a [.In] [b] pos) σ H Q := fun h3 => (ve_cmp (ops_in hu) hm ha hb hs hd).run env d _ (by unfold eOp; rw [h1]; show ((fb e1).bind _) = _; rw [h2]; show ((dIn x y).bind _) = _; rw [h3]; rfl) σ H Ws Q re sp q
  cases y with
  | dct kds => exact dict kds (.inl rfl) h3
  | rod kds => exact dict kds (.inr rfl) h3
  | non => exact other h3
  | bl _ => exact other h3
  | int _ => exact other h3
  | str _ => exact other h3
  | tup _ => exact other h3
  | lst _ => exact other h3
  | rol _ => exact other h3
  | dtt kds => exact dictT kds rfl h3⟩
theorem ve_notin (hu : X.A.units + 65 < cLine) (hm : behindInMarks .NotIn b = false) (ha : VE X M Ra a fa) (hb : VE X Mb Rb b fb) (hs : ∀ i ∈ Mb, i ∈ M := by decide) (hd : ∀ i ∈ Ra, i ∉ Mb := by decide) : VE X M [] (.Compare a [.NotIn] [b] pos) (eOp dNotInA fa fb) := ⟨fun env d env' h σ H Ws Q re sp q => by
  unfold eOp at h
  obtain ⟨⟨x, e1⟩, h1, h⟩ := Option.bind_eq_some_iff.mp h
  obtain ⟨⟨y, e2⟩, h2, h⟩ := Option.bind_eq_some_iff.mp h
  obtain ⟨z, h3, h⟩ := Option.bind_eq_some_iff.mp h
  cases h
  have dict : ∀ kds, (y = .dct kds ∨ y = .rod kds) → ((keyD x).bind fun k => some (D.bl (!(valD kds k).isSome))) = some d → WE X (.Compare a [.NotIn] [b] pos) σ H Q := fun kds hy h3 => by
    obtain ⟨k, hk, hv⟩ := Option.bind_eq_some_iff.mp h3
    cases hv
    exact WE.of (pe_cmp (pc_dnotin (by omega) pe_we pe_we) hm) (in_dict (Q := fun c H' => Q (.bl (!c)) H') hu ha hb hs hd h1 h2 hy hk re sp fun H' Ws' re' t => q _ H' Ws' [] (.bl _) re' t Own.nil)
  have dictT : ∀ kds, y = .dtt kds → ((keyT x).bind fun k => some (D.bl (!(valD kds k).isSome))) = some d → WE X (.Compare a [.NotIn] [b] pos) σ H Q := fun kds hy h3 => by
    obtain ⟨k, hk, hv⟩ := Option.bind_eq_some_iff.mp h3
    cases hv
    exact WE.of (pe_cmp (pc_dnotin (by omega) pe_we pe_we) hm) (in_dictT (Q := fun c H' => Q (.bl (!c)) H') hu ha hb hs hd h1 h2 hy hk re sp fun H' Ws' re' t => q _ H' Ws' [] (.bl _) re' t Own.nil)
  have other : dNotIn x y = some d → WE X (.Compare a [.NotIn] [b] pos) σ H Q := fun h3 => (ve_cmp (ops_notin hu) hm ha hb hs hd).run env d _ (by unfold eOp; rw [h1]; show ((fb e1).bind _) = _; rw [h2]; show ((dNotIn x y).bind _) = _; rw [h3]; rfl) σ H Ws Q re sp q
  cases y with
  | dct kds => exact dict kds (.inl rfl) h3
  | rod kds => exact dict kds (.inr rfl) h3
  | non => exact other h3
  | bl _ => exact other h3
  | int _ => exact other h3
  | str _ => exact other h3
  | tup _ => exact other h3
  | lst _ => exact other h3
  | rol _ => exact other h3
  | dtt kds => exact dictT kds rfl h3⟩
theorem vt_in (hu : X.A.units + 65 < cLine) (hm : behindInMarks .In b = false) (ha : VE X M Ra a fa) (hb : VE X Mb Rb b fb) (hs : ∀ i ∈ Mb, i ∈ M := by decide) (hd : ∀ i ∈ Ra, i ∉ Mb := by decide) : VT X M (.Compare a [.In] [b] pos) (tV (eOp dInA fa fb)) := ⟨fun env d env' h σ H Ws Q re sp q => by
  have hh := h
  unfold tV at h
  obtain ⟨⟨w, e3⟩, h, hz⟩ := Option.bind_eq_some_iff.mp h
  unfold eOp at h
  obtain ⟨⟨x, e1⟩, h1, h⟩ := Option.bind_eq_some_iff.mp h
  obtain ⟨⟨y, e2⟩, h2, h⟩ := Option.bind_eq_some_iff.mp h
  obtain ⟨z, h3, h⟩ := Option.bind_eq_some_iff.mp h
  cases h
  split at hz
  rotate_left
  · cases hz
  rename_i kk hkk
  cases hz
  have hkk' : w = .bl d := hkk
  subst hkk'
  have dict : ∀ kds, (y = .dct kds ∨ y = .rod kds) → ((keyD x).bind fun k => some (D.bl ((valD kds k).isSome))) = some (.bl d) → WT X (.Compare a [.In] [b] pos) σ H Q := fun kds hy h3 => by
    obtain ⟨k, hk, hv⟩ := Option.bind_eq_some_iff.mp h3
    cases hv
    refine WT.of (pt_cmp (pc_din (by omega) pe_we pe_we) hm) (in_dict (Q := fun c H' => ∃ c', V.bl (c) = .bl c' ∧ Q c' H') hu ha hb hs hd h1 h2 hy hk re sp fun H' Ws' re' t => ⟨_, rfl, q H' Ws' re' t⟩)
  have dictT : ∀ kds, y = .dtt kds → ((keyT x).bind fun k => some (D.bl ((valD kds k).isSome))) = some (.bl d) → WT X (.Compare a [.In] [b] pos) σ H Q := fun kds hy h3 => by
    obtain ⟨k, hk, hv⟩ := Option.bind_eq_some_iff.mp h3
    cases hv
    refine WT.of (pt_cmp (pc_din (by omega) pe_we pe_we) hm) (in_dictT (Q := fun c H' => ∃ c', V.bl (c) = .bl c' ∧ Q c' H') hu ha hb hs hd h1 h2 hy hk re sp fun H' Ws' re' t => ⟨_, rfl, q H' Ws' re' t⟩)
  have other : dIn x y = some (.bl d) → WT X (.Compare a [.In] [b] pos) σ H Q := fun h3 => (vt_cmp (ops_in hu) hm ha hb hs hd).run env d _ (by unfold tV eOp; rw [h1]; show (((fb e1).bind _).bind _) = _; rw [h2]; show (((dIn x y).bind _).bind _) = _; rw [h3]; rfl) σ H Ws Q re sp q
  cases y with
  | dct kds => exact dict kds (.inl rfl) h3
  | rod kds => exact dict kds (.inr rfl) h3
  | non => exact other h3
  | bl _ => exact other h3
  | int _ => exact other h3
  | str _ => exact other h3
  | tup _ => exact other h3
  | lst _ => exact other h3
  | rol _ => exact other h3
  | dtt kds => exact dictT kds rfl h3⟩
theorem vt_notin (hu : X.A.units + 65 < cLine) (hm : behindInMarks .NotIn b = false) (ha : VE X M Ra a fa) (hb : VE X Mb Rb b fb) (hs : ∀ i ∈ Mb, i ∈ M := by decide) (hd : ∀ i ∈ Ra, i ∉ Mb := by decide) : VT X M (.Compare a [.NotIn] [b] pos) (tV (eOp dNotInA fa fb)) := ⟨fun env d env' h σ H Ws Q re sp q => by
  have hh := h
  unfold tV at h
  obtain ⟨⟨w, e3⟩, h, hz⟩ := Option.bind_eq_some_iff.mp h
  unfold eOp at h
  obtain ⟨⟨x, e1⟩, h1, h⟩ := Option.bind_eq_some_iff.mp h
  obtain ⟨⟨y, e2⟩, h2, h⟩ := Option.bind_eq_some_iff.mp h
  obtain ⟨z, h3, h⟩ := Option.bind_eq_some_iff.mp h
  cases h
  split at hz
  rotate_left
  · cases hz
  rename_i kk hkk
  cases hz
  have hkk' : w = .bl d := hkk
  subst hkk'
  have dict : ∀ kds, (y = .dct kds ∨ y = .rod kds) → ((keyD x).bind fun k => some (D.bl (!(valD kds k).isSome))) = some (.bl d) → WT X (.Compare a [.NotIn] [b] pos) σ H Q := fun kds hy h3 => by
    obtain ⟨k, hk, hv⟩ := Option.bind_eq_some_iff.mp h3
    cases hv
    refine WT.of (pt_cmp (pc_dnotin (by omega) pe_we pe_we) hm) (in_dict (Q := fun c H' => ∃ c', V.bl (!c) = .bl c' ∧ Q c' H') hu ha hb hs hd h1 h2 hy hk re sp fun H' Ws' re' t => ⟨_, rfl, q H' Ws' re' t⟩)
  have dictT : ∀ kds, y = .dtt kds → ((keyT x).bind fun k => some (D.bl (!(valD kds k).isSome))) = some (.bl d) → WT X (.Compare a [.NotIn] [b] pos) σ H Q := fun kds hy h3 => by
    obtain ⟨k, hk, hv⟩ := Option.bind_eq_some_iff.mp h3
    cases hv
    refine WT.of (pt_cmp (pc_dnotin (by omega) pe_we pe_we) hm) (in_dictT (Q := fun c H' => ∃ c', V.bl (!c) = .bl c' ∧ Q c' H') hu ha hb hs hd h1 h2 hy hk re sp fun H' Ws' re' t => ⟨_, rfl, q H' Ws' re' t⟩)
  have other : dNotIn x y = some (.bl d) → WT X (.Compare a [.NotIn] [b] pos) σ H Q := fun h3 => (vt_cmp (ops_notin hu) hm ha hb hs hd).run env d _ (by unfold tV eOp; rw [h1]; show (((fb e1).bind _).bind _) = _; rw [h2]; show (((dNotIn x y).bind _).bind _) = _; rw [h3]; rfl) σ H Ws Q re sp q
  cases y with
  | dct kds => exact dict kds (.inl rfl) h3
  | rod kds => exact dict kds (.inr rfl) h3
  | non => exact other h3
  | bl _ => exact other h3
  | int _ => exact other h3
  | str _ => exact other h3
  | tup _ => exact other h3
  | lst _ => exact other h3
  | rol _ => exact other h3
  | dtt kds => exact dictT kds rfl h3⟩

/-! ### a chain of two comparisons -/
def eChain (g g' : D → D → Option D) (fa fb fc : Ev → Option (D × Ev)) : Ev → Option (D × Ev) := fun env => (fa env).bind fun p => (fb p.2).bind fun q => (g p.1 q.1).bind fun z => match z with
  | .bl true => (fc q.2).bind fun r => (g' q.1 r.1).bind fun z' => some (z', r.2)
  | .bl false => some (.bl false, q.2)
  | _ => none
theorem chain_read {op op' : CmpOp} {g g' : D → D → Option D} (ho : OpS X (compareOp op) g) (ho' : OpS X (compareOp op') g') (ha : VE X M Ra a fa) (hb : VE X Mb Rb b fb) (hc : VE X Mb R c fc) (hs : ∀ i ∈ Mb, i ∈ M) (hd : ∀ i ∈ Ra, i ∉ Mb) (hd2 : ∀ i ∈ Rb, i ∉ Mb) {env env' : Ev} {d : D} (h : eChain g g' fa fb fc env = some (d, env'))
    {σ : L2.St} {H : Hp} {Ws : Wm} {Q : VK} (re : REnv X.K H env σ Ws) (sp : Sep M Ws) (q : ∀ v H' Ws' W, Rep X.K H' d v W → REnv X.K H' env' σ Ws' → Tr M Ws Ws' H H' → Own M [] Ws Ws' H W → Q v H') :
    tChain (WO X (compareOp op)) (WO X (compareOp op')) (WE X a) (WE X b) (WE X c) σ H Q := by
  unfold eChain at h
  obtain ⟨⟨x, e1⟩, h1, h⟩ := Option.bind_eq_some_iff.mp h
  obtain ⟨⟨y, e2⟩, h2, h⟩ := Option.bind_eq_some_iff.mp h
  obtain ⟨z, h3, h⟩ := Option.bind_eq_some_iff.mp h
  refine ve_two ha hb hs hd h1 h2 re sp fun v u H' Ws' W1 W2 r1 r2 re' t o1 o2 _ => ?_
  refine ho x y z h3 v u H' W1 W2 _ r1 r2 fun w H3 W r k hn nd => ?_
  split at h
  · obtain ⟨⟨zz, e3⟩, h4, h⟩ := Option.bind_eq_some_iff.mp h
    obtain ⟨z', h5, h⟩ := Option.bind_eq_some_iff.mp h
    cases h
    cases r
    refine ⟨true, rfl, ?_⟩
    rw [if_pos rfl]
    have t3 := k.tr t
    refine hc.run e2 zz _ h4 σ H3 Ws' _ (k.renv re') (t3.sep.mono hs) fun w4 H4 Ws4 W4 r4 re4 t4 o4 => ?_
    have r2' : Rep X.K H4 y u W2 := Rep.kp t4.keep (k.renv re').mtM _ _ _ (k.rep r2) (o2.off (t3.sep.mono hs) hd2)
    have tt := t3.trans (t4.weaken hs t3.sep (k.renv re').ne)
    exact ho' y zz _ h5 u w4 H4 W2 W4 Q r2' r4 fun w5 H5 W5 r5 k5 hn5 nd5 => q w5 H5 Ws4 W5 r5 (k5.renv re4) (k5.tr tt) (Own.new tt re4 hn5 nd5)
  · cases h
    cases r
    refine ⟨false, rfl, ?_⟩
    rw [if_neg (by decide)]
    exact q _ H3 Ws' [] (.bl false) (k.renv re') (k.tr t) Own.nil
  · cases h
theorem ve_chain {op op' : CmpOp} {g g' : D → D → Option D} (ho : OpS X (compareOp op) g) (ho' : OpS X (compareOp op') g') (ha : VE X M Ra a fa) (hb : VE X Mb Rb b fb) (hc : VE X Mb R c fc) (hm : lastMarks [op, op'] [b, c] = false := by with_unfolding_all rfl) (hs : ∀ i ∈ Mb, i ∈ M := by decide) (hd : ∀ i ∈ Ra, i ∉ Mb := by decide) (hd2 : ∀ i ∈ Rb, i ∉ Mb := by decide) :
    VE X M [] (.Compare a [op, op'] [b, c] pos) (eChain g g' fa fb fc) := ⟨fun env d env' h σ H Ws Q re sp q =>
  WE.of (pe_chain op_wo op_wo pe_we pe_we pe_we hm) (chain_read ho ho' ha hb hc hs hd hd2 h re sp q)⟩
theorem vt_chain {op op' : CmpOp} {g g' : D → D → Option D} (ho : OpS X (compareOp op) g) (ho' : OpS X (compareOp op') g') (ha : VE X M Ra a fa) (hb : VE X Mb Rb b fb) (hc : VE X Mb R c fc) (hm : lastMarks [op, op'] [b, c] = false := by with_unfolding_all rfl) (hs : ∀ i ∈ Mb, i ∈ M := by decide) (hd : ∀ i ∈ Ra, i ∉ Mb := by decide) (hd2 : ∀ i ∈ Rb, i ∉ Mb := by decide) :
    VT X M (.Compare a [op, op'] [b, c] pos) (tV (eChain g g' fa fb fc)) := ⟨fun env d env' h σ H Ws Q re sp q => by
  unfold tV at h
  obtain ⟨⟨w, e3⟩, h1, hz⟩ := Option.bind_eq_some_iff.mp h
  split at hz
  · rename_i kk hkk
    cases hz
    have hkk' : w = .bl d := hkk
    subst hkk'
    exact WT.of (pt_chain op_wo op_wo pe_we pe_we pe_we hm) (chain_read ho ho' ha hb hc hs hd hd2 h1 re sp fun v H' Ws' W r re' t o => by cases r; exact ⟨d, rfl, q H' Ws' re' t⟩)
  · cases hz⟩
end
end VL

/-! VLK: stores in place, nested stores, dicts' methods, augmented stores, for over a dict. -/
namespace VL
open PySem PySem.Spec L2

/-! ### x[i] = v, x a slot: a list or a dict -/
def setD (x k v : D) : Option D := match x with
  | .lst ds => match k with
    | .int i => (ixN ds.length i).bind fun j => some (.lst (ds.set j v))
    | _ => none
  | .dct kds => (keyD k).bind fun q => if kds.length < sizeLine ∧ lf v = true then some (.dct (putD kds q v)) else none
  | .dtt kds => (keyT k).bind fun q => if kds.length < sizeLine ∧ lf v = true then some (.dtt (putD kds q v)) else none
  | _ => none
def sSub (i : Nat) (fv fk : Ev → Option (D × Ev)) : Ev → Option Out := fun env => (fv env).bind fun p => match p.2[i]? with
  | some (some _) => (fk p.2).bind fun q => match q.2[i]? with
    | some (some x) => (setD x q.1 p.1).bind fun x' => some (.nx (q.2.set i (some x')))
    | _ => none
  | _ => none
section
variable {X : Cx} {A M Mb R : List Nat} {v k : Expr} {fv fk : Ev → Option (D × Ev)} {x : Str} {npos spos pos : Pos}
theorem seti_ok {x x' kd vd : D} (h : setD x kd vd = some x') {o kv u : V} {H : Hp} {W Wk Wd : List Addr} (rx : Rep X.K H x o W) (rk : Rep X.K H kd kv Wk) (rd : Rep X.K H vd u Wd) (nd : (W ++ Wd).Nodup) :
    ∃ W' H', Rep X.K H' x' o W' ∧ Kp (· ∈ W) H H' ∧ (∀ a ∈ W', a ∈ W ++ Wd) ∧ W'.Nodup ∧ ((∃ ds, x = .lst ds ∧ ∀ Q : Hp → Prop, Q H' → rSetL o kv u H Q) ∨ (isL x = false ∧ ∃ p, o = .ref p ∧ DPut H p kv u H')) := by
  unfold setD at h
  split at h
  · rename_i ds
    split at h
    · obtain ⟨j, hj, h⟩ := Option.bind_eq_some_iff.mp h
      cases h
      cases rk
      cases rx with
      | @lst l vs _ W1 hl r1 =>
        rw [List.cons_append] at nd
        obtain ⟨n1, n2⟩ := List.nodup_cons.mp nd
        have hjl : j < ds.length := (ixN_seq hj).2.1
        obtain ⟨W', r', s', n'⟩ := Reps.setAt rd j r1 hjl n2
        have nl : l ∉ W' := fun z => n1 (s' l z)
        refine ⟨l :: W', _, .lst upd_same (r'.off hl (.inl ⟨_, hl⟩) nl), kp_upd List.mem_cons_self, fun a ha => ?_, List.nodup_cons.mpr ⟨nl, n'⟩, .inl ⟨ds, rfl, fun Q q => ⟨l, vs, _, j, rfl, rfl, hl, by rw [← r1.len]; exact hj, q⟩⟩⟩
        rcases List.mem_cons.mp ha with rfl | z
        · exact List.mem_cons_self
        · exact List.mem_cons_of_mem _ (s' a z)
    · cases h
  · rename_i kds
    obtain ⟨q, hq, h⟩ := Option.bind_eq_some_iff.mp h
    split at h
    · rename_i hb
      cases h
      have ek := keyD_kV hq rk
      subst ek
      have rd' := rd.flat hb.2
      cases rx with
      | @dct l kvs _ W1 hl r1 =>
        have nW := List.nodup_cons.mp (List.nodup_append.mp nd).1
        have hput : ∃ W', RepK X.K H (putD kds q vd) (putK kvs q u) W' ∧ (∀ a ∈ W', a ∈ W1) ∧ (W1.Nodup → W'.Nodup) := by
          unfold putD putK
          rw [r1.anyk]
          split
          · exact RepK.repl rd' r1
          · have := r1.append (k := q) rd'
            rw [List.append_nil, List.append_nil] at this
            exact ⟨W1, this, fun _ z => z, fun z => z⟩
        obtain ⟨W', r', s', n'⟩ := hput
        have nl : l ∉ W' := fun z => nW.1 (s' l z)
        have r'' : RepK X.K (upd H l (.dK (putK kvs q u))) (putD kds q vd) (putK kvs q u) W' := RepK.kp (A := fun a => a = l) (fun a o e z => by rw [upd_ne z]; exact e) (fun a e => by rw [e]; exact .inr (.inl ⟨_, hl⟩)) _ _ _ r' fun a ha e => nl (e ▸ ha)
        refine ⟨l :: W', _, .dct upd_same r'', kp_upd List.mem_cons_self, fun a ha => ?_, List.nodup_cons.mpr ⟨nl, n' nW.2⟩,  .inr ⟨rfl, l, rfl, DPut.k hl (by rw [← r1.len]; exact hb.1)⟩⟩
        refine List.mem_append_left _ ?_
        rcases List.mem_cons.mp ha with rfl | z
        · exact List.mem_cons_self
        · exact List.mem_cons_of_mem _ (s' a z)
    · cases h
  · rename_i kds
    obtain ⟨q, hq, h⟩ := Option.bind_eq_some_iff.mp h
    split at h
    · rename_i hb
      cases h
      obtain ⟨bb, ek, hbb⟩ := keyT_kV hq rk
      subst ek
      have rd' := rd.flat hb.2
      cases rx with
      | @dtt l kvs _ W1 hl r1 =>
        have nW := List.nodup_cons.mp (List.nodup_append.mp nd).1
        have hput : ∃ W', RepT X.K H (putD kds q vd) (putK kvs q u) W' ∧ (∀ a ∈ W', a ∈ W1) ∧ (W1.Nodup → W'.Nodup) := by
          unfold putD putK
          rw [r1.anyk]
          split
          · exact RepT.repl rd' r1
          · have := r1.append (k := q) rd'
            rw [List.append_nil, List.append_nil] at this
            exact ⟨W1, this, fun _ z => z, fun z => z⟩
        obtain ⟨W', r', s', n'⟩ := hput
        have nl : l ∉ W' := fun z => nW.1 (s' l z)
        have r'' : RepT X.K (upd H l (.dT (putK kvs q u))) (putD kds q vd) (putK kvs q u) W' := RepT.kp (A := fun a => a = l) (fun a o e z => by rw [upd_ne z]; exact e) (fun a e => by rw [e]; exact .inr (.inr (.inl ⟨_, hl⟩))) _ _ _ r' fun a ha e => nl (e ▸ ha)
        refine ⟨l :: W', _, .dtt upd_same r'', kp_upd List.mem_cons_self, fun a ha => ?_, List.nodup_cons.mpr ⟨nl, n' nW.2⟩,  .inr ⟨rfl, l, rfl, DPut.t hl hbb (by rw [← r1.len]; exact hb.1)⟩⟩
        refine List.mem_append_left _ ?_
        rcases List.mem_cons.mp ha with rfl | z
        · exact List.mem_cons_self
        · exact List.mem_cons_of_mem _ (s' a z)
    · cases h
  · cases h
theorem vs_sub (i : Nat) (hu : X.A.units + 64 < cLine) (hv : VE X M [] v fv) (hk : VE X Mb R k fk) (hiM : i ∈ M := by decide) (hs : ∀ i ∈ Mb, i ∈ M := by decide) (hN : X.N[i]? = some x := by rfl) (hvis : Vis X.env.scope x := by first | exact Or.inl rfl | exact Or.inr (Or.inl rfl) | exact Or.inr (Or.inr rfl)) (hd : (x == ("__debug__" : Str)) = false := by decide) (hcd : (x == ("__classdict__" : Str)) = false := by decide)
    (ha : ∀ v, assign (.Subscript (.Name x npos) k spos) X.env v = (do
      let ov ← holding [v] (eval (.Name x npos) X.env)
      let iv ← holding [v, ov] (eval k X.env)
      standAt spos
      holding [v, ov, iv] (setItem ov iv v)
      release [v, ov, iv] []) := by intro _; rfl)
    (hsw : swapsWithSole [.Subscript (.Name x npos) k spos] v pos.line X.env = pure false := by rfl) (hw : swappedStores [.Subscript (.Name x npos) k spos] v X.env = pure none := by rfl)
    (h1 : (assignEach [.Subscript (.Name x npos) k spos] X.env).map (·.2) = [assign (.Subscript (.Name x npos) k spos) X.env] := by rfl) (hsw2 : swapsWith v (some (.Subscript (.Name x npos) k spos)) pos.line X.env = pure false := by rfl) :
    VS X A M (.Assign [.Subscript (.Name x npos) k spos] v pos) (sSub i fv fk) := ⟨fun env o h σ H Ws Dn re sp q => by
  unfold sSub at h
  obtain ⟨⟨vd, e1⟩, h2, h⟩ := Option.bind_eq_some_iff.mp h
  split at h
  · rename_i x0 hx0
    obtain ⟨⟨kd, e2⟩, h3, h⟩ := Option.bind_eq_some_iff.mp h
    split at h
    · rename_i xd hxd
      obtain ⟨x', h4, h⟩ := Option.bind_eq_some_iff.mp h
      cases h
      -- the value, the slot's object, the index, the store
      have run : ∀ (Q2 : V → V → V → Hp → Prop), (∀ u o kv H2 W' H3 Ws2, Rep X.K H3 x' o W' → True → ((∃ ds, xd = .lst ds ∧ ∀ Q : Hp → Prop, Q H3 → rSetL o kv u H2 Q) ∨ (isL xd = false ∧ ∃ p, o = .ref p ∧ DPut H2 p kv u H3)) → REnv X.K H3 (e2.set i (some x')) σ (setW Ws2 i W') → Tr M Ws (setW Ws2 i W') H H3 → Q2 u o kv H2) →
          WE X v σ H fun u H1 => ∃ o, σ[i]? = some (some o) ∧ WE X k σ H1 fun kv H2 => Q2 u o kv H2 := by
        intro Q2 hQ
        refine hv.run env vd e1 h2 σ H Ws _ re sp fun u H1 Ws1 W1 r1 re1 t1 o1 => ?_
        obtain ⟨o, ho, _⟩ := re1.at' i x0 hx0
        refine ⟨o, ho, ?_⟩
        have sp1 := t1.sep.mono hs
        refine hk.run e1 kd e2 h3 σ H1 Ws1 _ re1 sp1 fun kv H2 Ws2 W2 r2 re2 t2 o2 => ?_
        have ne1 : ∀ a ∈ W1, H1 a ≠ none := fun a ha => (Rep.mt _ _ _ r1 a ha).some
        have r1' := o1.stay r1 re1 t2 sp1 (fun _ z => nomatch z)
        have tt := t1.trans (t2.weaken hs t1.sep re1.ne)
        have oo := o1.later ne1 t2 sp1 (fun _ z => nomatch z)
        obtain ⟨o', ho', rx⟩ := re2.at' i xd hxd
        rw [ho] at ho'
        cases ho'
        have own1 := own_fr oo
        have nd : (Ws2 i ++ W1).Nodup := List.nodup_append.mpr ⟨(tt.sep i hiM).1, oo.nd rfl, fun a ha b hb e => (own1 b hb).2 i (e ▸ ha)⟩
        obtain ⟨W', H3, rx', kp, sub, nd', how⟩ := seti_ok h4 rx r2 r1' nd
        have hil : i < e2.length := (List.getElem?_eq_some_iff.mp hxd).1
        obtain ⟨re3, t3, _⟩ := slot_fin (Wr := []) hiM re2 tt ho hil own1 kp rx' (by simpa using sub) (by simpa using nd')
        exact hQ u o kv H2 W' H3 Ws2 rx' trivial how re3 t3
      have lst : (∃ ds, xd = .lst ds) → WS X (.Assign [.Subscript (.Name x npos) k spos] v pos) Dn σ H := fun ⟨ds, hx⟩ => by
        refine WS.of (ps_asg pe_we (pg_sub (pe_var hN hvis hd hcd) pe_we set_list ha) hsw hw h1) ?_
        refine run (fun u o kv H2 => rSetL o kv u H2 fun H3 => Dn.nx σ H3) fun u o kv H2 W' H3 Ws2 _ _ how re3 t3 => ?_
        rcases how with ⟨_, _, how⟩ | ⟨e, _⟩
        · exact how _ (q σ H3 _ re3 t3 Hold.refl)
        · rw [hx] at e; cases e
      have dct : isL xd = false → WS X (.Assign [.Subscript (.Name x npos) k spos] v pos) Dn σ H := fun hx => by
        refine WS.of (ps_dput (by omega) (pe_var hN hvis hd hcd) pe_we pe_we hsw2) ?_
        refine run (fun u o kv H2 => ∃ a H4, o = .ref a ∧ DPut H2 a kv u H4 ∧ Dn.nx σ H4) fun u o kv H2 W' H3 Ws2 _ _ how re3 t3 => ?_
        rcases how with ⟨_, e, _⟩ | ⟨_, p, e, g⟩
        · rw [e] at hx; cases hx
        · exact ⟨p, H3, e, g, q σ H3 _ re3 t3 Hold.refl⟩
      cases xd with
      | lst ds => exact lst ⟨ds, rfl⟩
      | dct kds => exact dct rfl
      | non => cases h4
      | bl _ => cases h4
      | int _ => cases h4
      | str _ => cases h4
      | tup _ => cases h4
      | rol _ => cases h4
      | dtt _ => exact dct rfl
      | rod _ => cases h4
    · cases h
  · cases h⟩
end

/-! ### x[i].m(..), x[i][j] = v: an item's object changes in place -/
def slotL (env : Ev) (i : Nat) : Option (List D) := match env[i]? with
  | some (some (.lst ds)) => some ds
  | _ => none
def asInt : D → Option Int
  | .int i => some i
  | _ => none
theorem slotL_eq {env : Ev} {i : Nat} {ds : List D} (h : slotL env i = some ds) : env[i]? = some (some (.lst ds)) := by
  unfold slotL at h
  split at h
  · rename_i e; cases h; exact e
  · cases h
theorem asInt_eq {d : D} {i : Int} (h : asInt d = some i) : d = .int i := by
  cases d <;> first | (cases h; rfl) | cases h
def eMethIx (i : Nat) (fk : Ev → Option (D × Ev)) (g : D → List D → Option (D × D)) (fs : Ev → Option (List D × Ev)) : Ev → Option (D × Ev) := fun env => (slotL env i).bind fun ds0 => (fk env).bind fun p => (asInt p.1).bind fun k => (atI ds0 k).bind fun y0 =>
  if isL y0 = true then (fs p.2).bind fun q => (slotL q.2 i).bind fun ds => (ixN ds.length k).bind fun j => (ds[j]?).bind fun y => (g y q.1).bind fun r => some (r.1, q.2.set i (some (.lst (ds.set j r.2)))) else none
def sSubIx (i : Nat) (fv fk fj : Ev → Option (D × Ev)) : Ev → Option Out := fun env => (fv env).bind fun u => (slotL u.2 i).bind fun ds0 => (fk u.2).bind fun p => (asInt p.1).bind fun k => (atI ds0 k).bind fun y0 =>
  if isL y0 = true then (fj p.2).bind fun q => (slotL q.2 i).bind fun ds => (ixN ds.length k).bind fun j => (ds[j]?).bind fun y => (setD y q.1 u.1).bind fun y' => some (.nx (q.2.set i (some (.lst (ds.set j y'))))) else none
section
variable {X : Cx} {A M Mb R : List Nat} {v k e : Expr} {es : List Expr} {fv fk : Ev → Option (D × Ev)} {fs : Ev → Option (List D × Ev)} {g : D → List D → Option (D × D)} {id : String} {name x : Str} {apos cpos npos spos pos : Pos}
/-- the item at k of slot i's list, an operation on it, the list behind it -/
theorem item_fin {i : Nat} (hiM : i ∈ M) {e2 : Ev} {σ : L2.St} {H H2 : Hp} {Ws Ws2 : Wm} {W1 : List Addr} (re2 : REnv X.K H2 e2 σ Ws2) (tt : Tr M Ws Ws2 H H2) (own1 : ∀ a ∈ W1, (InM M Ws a ∨ H a = none) ∧ ∀ j, a ∉ Ws2 j) (nW1 : W1.Nodup) {ds : List D} (hx : e2[i]? = some (some (.lst ds))) {j : Nat} {y : D} (hy : ds[j]? = some y) :
    ∃ l vs w Wy, σ[i]? = some (some (.ref l)) ∧ H2 l = some (.lst vs) ∧ vs.length = ds.length ∧ vs[j]? = some w ∧ Rep X.K H2 y w Wy ∧ (Wy ++ W1).Nodup ∧
      ∀ (H3 : Hp) (y' : D) (Wr W' : List Addr), Kp (· ∈ Wy) H2 H3 → Rep X.K H3 y' w W' → (∀ a ∈ Wr ++ W', a ∈ Wy ++ W1) → (Wr ++ W').Nodup →
        ∃ Wn, REnv X.K H3 (e2.set i (some (.lst (ds.set j y')))) σ (setW Ws2 i Wn) ∧ Tr M Ws (setW Ws2 i Wn) H H3 ∧ Own M [] Ws (setW Ws2 i Wn) H Wr := by
  obtain ⟨o, ho, rx⟩ := re2.at' i _ hx
  have hil : i < e2.length := (List.getElem?_eq_some_iff.mp hx).1
  have nd2 := (tt.sep i hiM).1
  generalize hW : Ws2 i = W at rx nd2
  cases rx with
  | @lst l vs _ Wl hl r1 =>
    obtain ⟨n1, n2⟩ := List.nodup_cons.mp nd2
    obtain ⟨w, Wy, e1, ry, sy, ny, go⟩ := Reps.focus j r1 hy n2
    have off : ∀ a ∈ W1, a ∉ Ws2 i := fun a ha => (own1 a ha).2 i
    refine ⟨l, vs, w, Wy, ho, hl, r1.len.symm, e1, ry, List.nodup_append.mpr ⟨ny, nW1, fun a ha b hb e => ?_⟩, fun H3 y' Wr W' kp ry' sub nd => ?_⟩
    · subst e
      exact off a hb (by rw [hW]; exact List.mem_cons_of_mem _ (sy a ha))
    · obtain ⟨m1, m2, m3⟩ := List.nodup_append.mp nd
      have inW : ∀ a ∈ W', a ∈ Wy ∨ a ∉ Wl := fun a ha => by
        rcases List.mem_append.mp (sub a (List.mem_append_right _ ha)) with z | z
        · exact .inl z
        · exact .inr fun q => off a z (by rw [hW]; exact List.mem_cons_of_mem _ q)
      obtain ⟨Wn, rn, sn, nn⟩ := go H3 y' W' kp ry' m2 inW
      have nl : l ∉ Wy := fun z => n1 (sy l z)
      have hl3 : H3 l = some (.lst vs) := kp l _ hl nl
      have subn : ∀ a ∈ Wr ++ (l :: Wn), a ∈ Ws2 i ++ W1 := fun a ha => by
        rcases List.mem_append.mp ha with z | z
        · rcases List.mem_append.mp (sub a (List.mem_append_left _ z)) with y | y
          · exact List.mem_append_left _ (by rw [hW]; exact List.mem_cons_of_mem _ (sy a y))
          · exact List.mem_append_right _ y
        · rcases List.mem_cons.mp z with rfl | z
          · exact List.mem_append_left _ (by rw [hW]; exact List.mem_cons_self)
          · rcases sn a z with y | y
            · exact List.mem_append_left _ (by rw [hW]; exact List.mem_cons_of_mem _ y.1)
            · rcases List.mem_append.mp (sub a (List.mem_append_right _ y)) with u | u
              · exact List.mem_append_left _ (by rw [hW]; exact List.mem_cons_of_mem _ (sy a u))
              · exact List.mem_append_right _ u
      have lW1 : l ∉ W1 := fun z => off l z (by rw [hW]; exact List.mem_cons_self)
      have wrY : ∀ a ∈ Wr, a ∈ Wy ∨ a ∈ W1 := fun a ha => List.mem_append.mp (sub a (List.mem_append_left _ ha))
      have lWn : l ∉ Wn := fun z => by
        rcases sn l z with y | y
        · exact n1 y.1
        · rcases List.mem_append.mp (sub l (List.mem_append_right _ y)) with u | u
          · exact nl u
          · exact lW1 u
      have ndn : (Wr ++ (l :: Wn)).Nodup := by
        refine List.nodup_append.mpr ⟨m1, List.nodup_cons.mpr ⟨lWn, nn⟩, fun a ha b hb e => ?_⟩
        subst e
        rcases List.mem_cons.mp hb with rfl | hb
        · rcases wrY a ha with y | y
          · exact nl y
          · exact lW1 y
        · rcases sn a hb with y | y
          · rcases wrY a ha with u | u
            · exact y.2 u
            · exact off a u (by rw [hW]; exact List.mem_cons_of_mem _ y.1)
          · exact m3 a ha a y rfl
      obtain ⟨re3, t3, o3⟩ := slot_fin (Wr := Wr) hiM re2 tt ho hil own1 (fun a o e n => kp a o e fun z => n (by show a ∈ Ws2 i; rw [hW]; exact List.mem_cons_of_mem _ (sy a z))) (.lst hl3 rn) subn ndn
      exact ⟨l :: Wn, re3, t3, o3⟩
/-- slot i's list, the item at k, then what else is evaluated (that leaves slot i): the item's object is the same one -/
theorem item_run {i : Nat} (hiM : i ∈ M) (hiB : i ∉ Mb) (hs : ∀ i ∈ Mb, i ∈ M) {env e1 : Ev} {σ : L2.St} {H H1 : Hp} {Ws Ws1 : Wm} (re : REnv X.K H env σ Ws) (sp : Sep M Ws) (t1 : Tr [] Ws Ws1 H H1) {ds0 : List D} (h0 : env[i]? = some (some (.lst ds0))) {kk : Int} {y0 : D} (hy0 : atI ds0 kk = some y0) :
    ∃ l vs w0 W0, σ[i]? = some (some (.ref l)) ∧ H1 l = some (.lst vs) ∧ atI vs kk = some w0 ∧ Rep X.K H1 y0 w0 W0 ∧
      ∀ {e2 : Ev} {H2 : Hp} {Ws2 : Wm} {W1 : List Addr} {H0 : Hp} {Ws0 : Wm}, REnv X.K H2 e2 σ Ws2 → Tr Mb Ws1 Ws2 H1 H2 → Tr M Ws0 Ws2 H0 H2 → (∀ a ∈ W1, (InM M Ws0 a ∨ H0 a = none) ∧ ∀ j, a ∉ Ws2 j) → W1.Nodup → ∀ {ds : List D}, e2[i]? = some (some (.lst ds)) → ∀ {j : Nat} {y : D}, ixN ds.length kk = some j → ds[j]? = some y →
        ∃ Wy, Rep X.K H2 y w0 Wy ∧ (Wy ++ W1).Nodup ∧
        ∀ (H3 : Hp) (y' : D) (Wr W' : List Addr), Kp (· ∈ Wy) H2 H3 → Rep X.K H3 y' w0 W' → (∀ a ∈ Wr ++ W', a ∈ Wy ++ W1) → (Wr ++ W').Nodup →
          ∃ Wn, REnv X.K H3 (e2.set i (some (.lst (ds.set j y')))) σ (setW Ws2 i Wn) ∧ Tr M Ws0 (setW Ws2 i Wn) H0 H3 ∧ Own M [] Ws0 (setW Ws2 i Wn) H0 Wr := by
  obtain ⟨o, ho, r0⟩ := re.at' i _ h0
  have eW : Ws1 i = Ws i := t1.same i fun z => nomatch z
  generalize hW : Ws i = W at r0
  cases r0 with
  | @lst l vs _ Wl hl r1 =>
    obtain ⟨w0, W0, a1, a2, a3, a4⟩ := Reps.atI r1 hy0
    have k1 : ∀ a o, H a = some o → H1 a = some o := fun a o e => t1.keep a o e fun ⟨_, z, _⟩ => nomatch z
    have hl1 := k1 l _ hl
    refine ⟨l, vs, w0, W0, ho, hl1, a1, Ext.rep k1 a2, fun {e2 H2 Ws2 W1 H0 Ws0} re2 t2 tt own1 nW1 {ds} hds {j y} hj hy => ?_⟩
    obtain ⟨l', vs', w, Wy, e3, e4, e5, e6, e7, e8, e9⟩ := item_fin hiM re2 tt own1 nW1 hds hy
    rw [ho] at e3
    cases e3
    have notB : ¬ InM Mb Ws1 l := fun ⟨m, hm, z⟩ => by
      have hmi : m ≠ i := fun e => hiB (e ▸ hm)
      rw [t1.same m fun z => nomatch z] at z
      exact (sp i hiM).2 m hmi l (by rw [hW]; exact List.mem_cons_self) z
    have hl2 := t2.keep l _ hl1 notB
    rw [e4] at hl2
    cases hl2
    have ew : w = w0 := by
      unfold L2.atI at a1
      rw [e5, hj] at a1
      have a1' : vs[j]? = some w0 := a1
      rw [e6] at a1'
      exact Option.some.inj a1'
    subst ew
    exact ⟨Wy, e7, e8, e9⟩
theorem ve_methIx (i : Nat) (slot : PySem.Slot "list" name id) (hty : typeOf (.builtin id) = pure (.type "method_descriptor")) (hpl : PlainIx k) (hg : MtS X id g) (hk : VE X [] R k fk) (ha : VA X Mb [] (e :: es) fs) (hiM : i ∈ M := by decide) (hs : ∀ i ∈ Mb, i ∈ M := by decide) (hiB : i ∉ Mb := by decide)
    (hN : X.N[i]? = some x := by rfl) (hv : Vis X.env.scope x := by first | exact Or.inl rfl | exact Or.inr (Or.inl rfl) | exact Or.inr (Or.inr rfl)) (hd : (x == ("__debug__" : Str)) = false := by decide) (hcd : (x == ("__classdict__" : Str)) = false := by decide)
    (hbase : attributeBase (.Subscript (.Name x npos) k spos) name X.env (eval (.Subscript (.Name x npos) k spos) X.env) = eval (.Subscript (.Name x npos) k spos) X.env := by rfl)
    (hfew : ((backTo cpos (starEach (e :: es) X.env)).all (fun x => !x.1) && (backToKw cpos (keywordEach [] X.env)).all (fun x => x.1.isSome)
      && decide ((e :: es).length + ([] : List Keyword).length + (if ([] : List Keyword).isEmpty then 0 else 1) < 30)) = true := by rfl)
    (hline : (apos.endLine == cpos.line) = true := by rfl) (hst : starEach (e :: es) X.env = (false, eval e X.env) :: starEach es X.env := by rfl) (hplain : (backTo cpos (starEach es X.env)).any (·.1) = false := by rfl) :
    VE X M [] (.Call (.Attribute (.Subscript (.Name x npos) k spos) name apos) (e :: es) [] cpos) (eMethIx i fk g fs) := ⟨fun env d env' h σ H Ws Q re sp q => by
  unfold eMethIx at h
  obtain ⟨ds0, h0, h⟩ := Option.bind_eq_some_iff.mp h
  obtain ⟨⟨kd, e1⟩, h1, h⟩ := Option.bind_eq_some_iff.mp h
  obtain ⟨kk, hkk, h⟩ := Option.bind_eq_some_iff.mp h
  obtain ⟨y0, hy0, h⟩ := Option.bind_eq_some_iff.mp h
  split at h
  rotate_left
  · cases h
  rename_i hL
  obtain ⟨⟨args, e2⟩, h2, h⟩ := Option.bind_eq_some_iff.mp h
  obtain ⟨ds, hds, h⟩ := Option.bind_eq_some_iff.mp h
  obtain ⟨j, hj, h⟩ := Option.bind_eq_some_iff.mp h
  obtain ⟨y, hy, h⟩ := Option.bind_eq_some_iff.mp h
  obtain ⟨⟨r, y'⟩, hr, h⟩ := Option.bind_eq_some_iff.mp h
  cases h
  have ekk : kd = D.int kk := asInt_eq hkk
  subst ekk
  have h0' := slotL_eq h0
  obtain ⟨v0, hv0, _⟩ := re.at' i _ h0'
  refine WE.of (pe_bm PySem.F.plainAttrs_list slot hty mt_wm (pe_ix ix_list (pe_var hN hv hd hcd) pe_we hpl) pa_wa hbase hfew hline hst hplain) ⟨v0, hv0, ?_⟩
  refine hk.run env _ e1 h1 σ H Ws _ re (fun _ z => nomatch z) fun v1 H1 Ws1 W1 r1 re1 t1 o1 => ?_
  cases r1
  obtain ⟨l, vs, w0, W0, a1, a2, a3, a4, go⟩ := item_run (e1 := e1) hiM hiB hs re sp t1 h0' hy0
  rw [hv0] at a1
  cases a1
  refine ⟨l, vs, kk, w0, rfl, rfl, SqL.of a2, a3, ty_list hL a4, ?_⟩
  have tM := t1.weaken (M := M) (fun _ z => nomatch z) sp re.ne
  refine ha.run e1 args e2 h2 σ H1 Ws1 _ re1 (tM.sep.mono hs) fun us H2 Ws2 W2 r2 re2 t2 o2 => ?_
  have tt := tM.trans (t2.weaken hs tM.sep re1.ne)
  have oo := o2.early tM hs
  obtain ⟨Wy, b1, b2, b3⟩ := go re2 t2 tt (own_fr oo) (oo.nd rfl) (slotL_eq hds) hj hy
  exact hg y args _ y' hr w0 us H2 Wy W2 Q b1 r2 b2 fun w H3 Wr W' rr rx kp sub nd => by
    obtain ⟨Wn, c1, c2, c3⟩ := b3 H3 y' Wr W' kp rx sub nd
    exact q w H3 _ Wr rr c1 c2 c3⟩
theorem vs_subIx (i : Nat) {kj : Expr} {fj : Ev → Option (D × Ev)} {Rj : List Nat} {tpos : Pos} (hpl : PlainIx k) (hv : VE X M [] v fv) (hk : VE X [] R k fk) (hj : VE X Mb Rj kj fj) (hiM : i ∈ M := by decide) (hs : ∀ i ∈ Mb, i ∈ M := by decide) (hiB : i ∉ Mb := by decide)
    (hN : X.N[i]? = some x := by rfl) (hvis : Vis X.env.scope x := by first | exact Or.inl rfl | exact Or.inr (Or.inl rfl) | exact Or.inr (Or.inr rfl)) (hd : (x == ("__debug__" : Str)) = false := by decide) (hcd : (x == ("__classdict__" : Str)) = false := by decide)
    (ha : ∀ v, assign (.Subscript (.Subscript (.Name x npos) k spos) kj tpos) X.env v = (do
      let ov ← holding [v] (eval (.Subscript (.Name x npos) k spos) X.env)
      let iv ← holding [v, ov] (eval kj X.env)
      standAt tpos
      holding [v, ov, iv] (setItem ov iv v)
      release [v, ov, iv] []) := by intro _; rfl)
    (hsw : swapsWithSole [.Subscript (.Subscript (.Name x npos) k spos) kj tpos] v pos.line X.env = pure false := by rfl) (hw : swappedStores [.Subscript (.Subscript (.Name x npos) k spos) kj tpos] v X.env = pure none := by rfl)
    (h1 : (assignEach [.Subscript (.Subscript (.Name x npos) k spos) kj tpos] X.env).map (·.2) = [assign (.Subscript (.Subscript (.Name x npos) k spos) kj tpos) X.env] := by rfl) :
    VS X A M (.Assign [.Subscript (.Subscript (.Name x npos) k spos) kj tpos] v pos) (sSubIx i fv fk fj) := ⟨fun env o h σ H Ws Dn re sp q => by
  unfold sSubIx at h
  obtain ⟨⟨vd, e0⟩, h00, h⟩ := Option.bind_eq_some_iff.mp h
  obtain ⟨ds0, h0, h⟩ := Option.bind_eq_some_iff.mp h
  obtain ⟨⟨kd, e1⟩, h2, h⟩ := Option.bind_eq_some_iff.mp h
  obtain ⟨kk, hkk, h⟩ := Option.bind_eq_some_iff.mp h
  obtain ⟨y0, hy0, h⟩ := Option.bind_eq_some_iff.mp h
  split at h
  rotate_left
  · cases h
  rename_i hL
  obtain ⟨⟨jd, e2⟩, h3, h⟩ := Option.bind_eq_some_iff.mp h
  obtain ⟨ds, hds, h⟩ := Option.bind_eq_some_iff.mp h
  obtain ⟨j, hjx, h⟩ := Option.bind_eq_some_iff.mp h
  obtain ⟨y, hy, h⟩ := Option.bind_eq_some_iff.mp h
  obtain ⟨y', hr, h⟩ := Option.bind_eq_some_iff.mp h
  cases h
  have ekk : kd = D.int kk := asInt_eq hkk
  subst ekk
  have h0' := slotL_eq h0
  refine WS.of (ps_asg pe_we (pg_sub (pe_ix ix_list (pe_var hN hvis hd hcd) pe_we hpl) pe_we set_list ha) hsw hw h1) ?_
  refine hv.run env vd e0 h00 σ H Ws _ re sp fun u H0 Ws0 W0 r0 re0 t0 o0 => ?_
  obtain ⟨v0, hv0, _⟩ := re0.at' i _ h0'
  refine ⟨v0, hv0, ?_⟩
  refine hk.run e0 _ e1 h2 σ H0 Ws0 _ re0 (fun _ z => nomatch z) fun v1 H1 Ws1 W1 r1 re1 t1 o1 => ?_
  cases r1
  obtain ⟨l, vs, w0, W0', a1, a2, a3, a4, go⟩ := item_run (e1 := e1) hiM hiB hs re0 t0.sep t1 h0' hy0
  rw [hv0] at a1
  cases a1
  refine ⟨l, vs, kk, w0, rfl, rfl, SqL.of a2, a3, ?_⟩
  have tM := t1.weaken (M := M) (fun _ z => nomatch z) t0.sep re0.ne
  have t01 := t0.trans tM
  have k1 : Ext H0 H1 := fun a o e => t1.keep a o e fun ⟨_, z, _⟩ => nomatch z
  have ne0 : ∀ a ∈ W0, H0 a ≠ none := fun a ha => (Rep.mt _ _ _ r0 a ha).some
  have r01 := k1.rep r0
  have o01 := o0.later ne0 tM t0.sep (fun _ z => nomatch z)
  refine hj.run e1 jd e2 h3 σ H1 Ws1 _ re1 (tM.sep.mono hs) fun uj H2 Ws2 W2 r2 re2 t2 o2 => ?_
  have tt := t01.trans (t2.weaken hs tM.sep re1.ne)
  have r02 := o01.stay r01 re1 t2 (tM.sep.mono hs) (fun _ z => nomatch z)
  have oo := o01.later (fun a ha => (Rep.mt _ _ _ r01 a ha).some) t2 (tM.sep.mono hs) (fun _ z => nomatch z)
  obtain ⟨Wy, b1, b2, b3⟩ := go re2 t2 tt (own_fr oo) (oo.nd rfl) (slotL_eq hds) hjx hy
  obtain ⟨W', H3, c1, c2, c3, c4, c5⟩ := seti_ok hr b1 r2 r02 b2
  obtain ⟨Wn, d1, d2, d3⟩ := b3 H3 y' [] W' c2 c1 (by simpa using c3) (by simpa using c4)
  rcases c5 with ⟨_, _, c5⟩ | ⟨e, _⟩
  · exact c5 _ (q σ H3 _ d1 d2 Hold.refl)
  · -- the item is a list
    exfalso
    have r4 : Rep X.K H1 y0 w0 W0' := a4
    cases r4 with
    | @lst l4 vs4 _ W4 hl4 rs4 =>
      have kept : H2 l4 = some (.lst vs4) := by
        have nb : ¬ InM Mb Ws1 l4 := fun ⟨m, hm, z⟩ => by
          have hmi : m ≠ i := fun e => hiB (e ▸ hm)
          rw [t1.same m fun z => nomatch z] at z
          obtain ⟨_, hq, rq⟩ := re0.at' i _ h0'
          rw [hv0] at hq
          cases hq
          have hin : l4 ∈ Ws0 i := by
            generalize Ws0 i = WW at rq ⊢
            cases rq with
            | lst g1 g2 =>
              obtain ⟨w5, W5, q1, q2, q3, _⟩ := Reps.atI g2 hy0
              have g1' := k1 _ _ g1
              rw [a2] at g1'
              cases g1'
              rw [a3] at q1
              cases q1
              have q2' := k1.rep q2
              cases q2' with
              | lst g3 g4 => exact List.mem_cons_of_mem _ (q3 _ List.mem_cons_self)
          exact (t0.sep i hiM).2 m hmi l4 hin z
        exact t2.keep l4 _ hl4 nb
      cases b1 with
      | lst _ _ => cases e
      | tup hd2 _ => rw [kept] at hd2; cases hd2
      | rol _ _ => cases hr
      | dct hd2 _ => rw [kept] at hd2; cases hd2
      | rod hd2 _ => obtain ⟨_, hd2⟩ := hd2; rw [kept] at hd2; cases hd2
      | dtt hd2 _ => rw [kept] at hd2; cases hd2
    | non => cases hL
    | bl => cases hL
    | int => cases hL
    | str => cases hL
    | tup => cases hL
    | rol => cases hL
    | dct => cases hL
    | dtt => cases hL
    | rod => cases hL⟩
end
end VL

/-! VLL: augmented stores, new dicts, get, count, for over a dict. -/
namespace VL
open PySem PySem.Spec L2

/-! ### name op= e -/
def dIAdd : D → D → Option D
  | .int i, .int j => some (.int (i + j))
  | .str a, .str b => if a.length + b.length ≤ sizeLine then some (.str (a ++ b)) else none
  | _, _ => none
def dISub : D → D → Option D
  | .int i, .int j => some (.int (i - j))
  | _, _ => none
section
variable {X : Cx} {A M Mb R : List Nat} {e : Expr} {f : Ev → Option (D × Ev)} {x : Str} {pos npos : Pos}
theorem ips_add : OpS X (inplaceOp .Add) dIAdd := fun x y z h v u H W1 W2 Q rx ry q => by
  unfold dIAdd at h
  split at h
  · cases h
    cases rx; cases ry
    exact WO.of iop_add ⟨_, _, rfl, rfl, q _ H [] (.int _) (fun _ _ e => e) (fun _ z => nomatch z) .nil⟩
  · split at h
    · rename_i hl
      cases h
      cases rx; cases ry
      exact WO.of iop_add_str ⟨_, _, rfl, rfl, hl, q _ H [] (.str _) (fun _ _ e => e) (fun _ z => nomatch z) .nil⟩
    · cases h
  · cases h
theorem ips_sub : OpS X (inplaceOp .Sub) dISub := fun x y z h v u H W1 W2 Q rx ry q => by
  unfold dISub at h
  split at h
  · cases h
    cases rx; cases ry
    exact WO.of iop_sub ⟨_, _, rfl, rfl, q _ H [] (.int _) (fun _ _ e => e) (fun _ z => nomatch z) .nil⟩
  · cases h
theorem op_ip {op : Operator} : PIp X op (fun x y H Q => WO X (inplaceOp op) x y H Q) := fun pins s σ H x y v u Q I rx ry h => h pins s σ v u I rx ry
/-- x op= e, its answer new -/
theorem vs_aug (i : Nat) {op : Operator} {g : D → D → Option D} (hN : X.N.Nodup) (ho : OpS X (inplaceOp op) g) (he : VE X Mb R e f) (hT : i ∈ M := by decide) (hA : i ∈ A := by decide) (hs : ∀ i ∈ Mb, i ∈ M := by decide) (hiB : i ∉ Mb := by decide) (hi : X.N[i]? = some x := by rfl) (hx : Loc X.env.scope x := by first | exact Or.inl rfl | exact Or.inr rfl)
    (hf : X.fn x = true ∨ X.env.scope.names.lookup x = some .local := by first | exact .inl rfl | exact .inr rfl | assumption) : VS X A M (.AugAssign (.Name x npos) op e pos) (sAsg (eOp g (eV i) f) (gN i)) := ⟨fun env o h σ H Ws Dn re sp q => by
  unfold sAsg at h
  obtain ⟨⟨z, e2⟩, h2, h⟩ := Option.bind_eq_some_iff.mp h
  unfold eOp at h2
  obtain ⟨⟨dx, e0⟩, h3, h2⟩ := Option.bind_eq_some_iff.mp h2
  obtain ⟨⟨dy, e1⟩, h4, h2⟩ := Option.bind_eq_some_iff.mp h2
  obtain ⟨z', h5, h2⟩ := Option.bind_eq_some_iff.mp h2
  cases h2
  unfold eV at h3
  split at h3
  rotate_left
  · cases h3
  rename_i d' hd'
  cases h3
  unfold gN at h
  obtain ⟨e3, h6, h⟩ := Option.bind_eq_some_iff.mp h
  cases h
  split at h6
  rotate_left
  · cases h6
  rename_i hl
  cases h6
  obtain ⟨v, hv, r0⟩ := re.at' i dx hd'
  refine WS.of (ps_aug hN hi hx pe_we op_ip hf) ⟨v, hv, ?_⟩
  refine he.run env dy _ h4 σ H Ws _ re (sp.mono hs) fun u H1 Ws1 W1 r1 re1 t1 o1 => ?_
  have o0 : Own M [i] Ws Ws H (Ws i) := ⟨fun a ha => .inr ⟨i, by simp, ha⟩, fun z => nomatch z⟩
  have r0' := o0.stay r0 re t1 (sp.mono hs) (fun j hj => by rw [List.mem_singleton.mp hj]; exact hiB)
  refine ho dx dy z h5 v u H1 (Ws i) W1 _ r0' r1 fun w H2 W rw k hn nd => ?_
  have t2 : Tr M Ws Ws1 H H2 := k.tr (t1.weaken hs sp re.ne)
  have re2 := k.renv re1
  have ow : Own M [] Ws Ws1 H W := Own.new (t1.weaken hs sp re.ne) re1 hn nd
  have tk : Took [i] Ws1 (setW Ws1 i W) W := Took.one
  refine q (σ.set i (some w)) H2 (setW Ws1 i W) (re2.set hl rw) (tk.tr re2.ne t2 ow (fun j hj => by rw [List.mem_singleton.mp hj]; exact hT)) fun j hj => ?_
  exact List.getElem?_set_ne fun (e : i = j) => hj (e ▸ hA)⟩

/-- xs += ys, lists; what ys holds has no list within -/
def sExt (i : Nat) (f : Ev → Option (D × Ev)) : Ev → Option Out := fun env => (slotL env i).bind fun _ => (f env).bind fun p => match p.1 with
  | .lst zs => (slotL p.2 i).bind fun xs => if lfs zs = true ∧ xs.length + zs.length ≤ sizeLine then some (.nx (p.2.set i (some (.lst (xs ++ zs))))) else none
  | _ => none
theorem vs_ext (i : Nat) (hN : X.N.Nodup) (he : VE X Mb R e f) (hT : i ∈ M := by decide) (hs : ∀ i ∈ Mb, i ∈ M := by decide) (hi : X.N[i]? = some x := by rfl) (hx : Loc X.env.scope x := by first | exact Or.inl rfl | exact Or.inr rfl)
    (hf : X.fn x = true ∨ X.env.scope.names.lookup x = some .local := by first | exact .inl rfl | exact .inr rfl | assumption) : VS X A M (.AugAssign (.Name x npos) .Add e pos) (sExt i f) := ⟨fun env o h σ H Ws Dn re sp q => by
  unfold sExt at h
  obtain ⟨ds0, h0, h⟩ := Option.bind_eq_some_iff.mp h
  obtain ⟨⟨dy, e1⟩, h4, h⟩ := Option.bind_eq_some_iff.mp h
  split at h
  rotate_left
  · cases h
  rename_i zs hz
  have hz' : dy = .lst zs := hz
  subst hz'
  obtain ⟨xs, hxs, h⟩ := Option.bind_eq_some_iff.mp h
  split at h
  rotate_left
  · cases h
  rename_i hc
  cases h
  obtain ⟨v, hv, r0⟩ := re.at' i _ (slotL_eq h0)
  refine WS.of (ps_aug hN hi hx pe_we op_ip hf) ⟨v, hv, ?_⟩
  refine he.run env _ e1 h4 σ H Ws _ re (sp.mono hs) fun u H1 Ws1 W1 r1 re1 t1 o1 => ?_
  have hx1 := slotL_eq hxs
  obtain ⟨v', hv', rx⟩ := re1.at' i _ hx1
  rw [hv] at hv'
  cases hv'
  have tM := t1.weaken hs sp re.ne
  have hil : i < e1.length := (List.getElem?_eq_some_iff.mp hx1).1
  have ndi := (tM.sep i hT).1
  generalize hW : Ws1 i = W at rx ndi
  cases rx with
  | @lst l vs _ Wl hl rl =>
    cases r1 with
    | @lst b us _ Wb hb rb =>
      have eb : Wb = [] := Reps.lfW _ _ _ rb hc.1
      subst eb
      obtain ⟨n1, n2⟩ := List.nodup_cons.mp ndi
      refine WO.of iop_ext ⟨l, b, vs, us, rfl, rfl, hl, hb, by rw [← rl.len, ← rb.len]; exact hc.2, ?_⟩
      have mt : Mt H1 l := .inl ⟨_, hl⟩
      have rap : Rep X.K (upd H1 l (.lst (vs ++ us))) (.lst (xs ++ zs)) (.ref l) (l :: (Wl ++ [])) := .lst upd_same (Reps.append (rl.off hl mt n1) (rb.off hl mt fun z => nomatch z))
      rw [List.append_nil] at rap
      obtain ⟨a1, a2, _⟩ := slot_fin (W1 := []) (Wr := []) hT re1 tM hv hil (fun a z => nomatch z) (fun a o ho hn => by
          rw [upd_ne fun e => hn (by rw [hW, e]; exact List.mem_cons_self)]; exact ho) rap (fun a ha => by rw [hW]; simpa using ha) (by simpa using ndi)
      have eσ : σ.set i (some (.ref l)) = σ := by
        refine List.ext_getElem? fun j => ?_
        by_cases ej : j = i
        · subst ej
          rw [List.getElem?_set_self (by rw [re1.len]; exact hil), hv]
        · rw [List.getElem?_set_ne (Ne.symm ej)]
      show Dn.nx (σ.set i (some (V.ref l))) _
      rw [eσ]
      exact q σ _ _ a1 a2 Hold.refl⟩
end
end VL

/-! VLM: new dicts, get, count, for over a dict. -/
namespace VL
open PySem PySem.Spec L2

section
variable {X : Cx} {A M Mb Mc R Ra Rb Rc : List Nat} {a b c e : Expr} {fa fb fc f : Ev → Option (D × Ev)} {x : Str} {pos npos apos cpos : Pos}
theorem ve_dnew : VE X M [] (.Dict [] [] pos) (eC (.dct [])) := ⟨fun env d env' h σ H Ws Q re sp q => by
  cases h
  refine WE.of pe_dnewK fun p hp => ?_
  have k := Ext.new (o := HO.dK []) hp
  refine q (.ref p) _ Ws [p] (.dct upd_same .nil) (k.renv re) (k.tr (Tr.refl sp)) ⟨fun z hz => ?_, fun _ => nd1⟩
  rw [List.mem_singleton.mp hz]
  exact .inl ⟨.inr hp, fun j y => re.ne j p y hp⟩⟩
/-- d.get(k, x): what comes has no list within -/
def getD : D → D → D → Option D
  | .dct kds, k, x => (keyD k).bind fun k => if lf ((valD kds k).getD x) = true then some ((valD kds k).getD x) else none
  | .rod kds, k, x => (keyD k).bind fun k => if lf ((valD kds k).getD x) = true then some ((valD kds k).getD x) else none
  | _, _, _ => none
def eGet2 (fo fk fx : Ev → Option (D × Ev)) : Ev → Option (D × Ev) := fun env => (fo env).bind fun p => (fk p.2).bind fun q => (fx q.2).bind fun r => (getD p.1 q.1 r.1).bind fun z => some (z, r.2)
theorem getD_eq {d k x z : D} (h : getD d k x = some z) : ∃ kds kk, (d = .dct kds ∨ d = .rod kds) ∧ keyD k = some kk ∧ (valD kds kk).getD x = z ∧ lf z = true := by
  cases d with
  | dct kds =>
    obtain ⟨kk, h1, h⟩ := Option.bind_eq_some_iff.mp h
    split at h
    · rename_i hl; cases h; exact ⟨kds, kk, .inl rfl, h1, rfl, hl⟩
    · cases h
  | rod kds =>
    obtain ⟨kk, h1, h⟩ := Option.bind_eq_some_iff.mp h
    split at h
    · rename_i hl; cases h; exact ⟨kds, kk, .inr rfl, h1, rfl, hl⟩
    · cases h
  | non => cases h
  | bl _ => cases h
  | int _ => cases h
  | str _ => cases h
  | tup _ => cases h
  | lst _ => cases h
  | rol _ => cases h
  | dtt _ => cases h
theorem isD_of {K : PySem.W.Frag} {H : Hp} {x : D} {v : V} {W : List Addr} {kds : List (Key × D)} (hx : x = .dct kds ∨ x = .rod kds) (r : Rep K H x v W) : ∃ p, v = .ref p ∧ IsD H p := by
  obtain ⟨p, kvs, Wk, e1, hr, rk, eW, g⟩ := dget_of hx r (k := .inl 0)
  exact ⟨p, e1, .inl ⟨_, hr⟩⟩
theorem ve_get2 (hu : X.A.units + 64 < cLine) (ha : VE X M Ra a fa) (hb : VE X Mb Rb b fb) (hc : VE X Mc Rc c fc) (hs : ∀ i ∈ Mb, i ∈ M := by decide) (hd : ∀ i ∈ Ra, i ∉ Mb := by decide) (hs2 : ∀ i ∈ Mc, i ∈ Mb := by decide) (hd2 : ∀ i ∈ Rb, i ∉ Mc := by decide)
    (m : M2 X a "get" apos b c cpos := by exact ⟨rfl, rfl, rfl, rfl⟩) : VE X M [] (.Call (.Attribute a "get" apos) [b, c] [] cpos) (eGet2 fa fb fc) := ⟨fun env d env' h σ H Ws Q re sp q => by
  unfold eGet2 at h
  obtain ⟨⟨x, e1⟩, h1, h⟩ := Option.bind_eq_some_iff.mp h
  obtain ⟨⟨y, e2⟩, h2, h⟩ := Option.bind_eq_some_iff.mp h
  obtain ⟨⟨z, e3⟩, h3, h⟩ := Option.bind_eq_some_iff.mp h
  obtain ⟨w, h4, h⟩ := Option.bind_eq_some_iff.mp h
  cases h
  obtain ⟨kds, kk, hx, hk, ez, hl⟩ := getD_eq h4
  refine WE.of (pe_dget2 (by omega) pe_we pe_we pe_we m) (ha.run env x e1 h1 σ H Ws _ re sp fun v H1 Ws1 W1 r1 re1 t1 o1 => ?_)
  obtain ⟨p, ev, hD⟩ := isD_of hx r1
  subst ev
  refine ⟨p, rfl, hD, ?_⟩
  have sp1 := t1.sep.mono hs
  refine hb.run e1 y e2 h2 σ H1 Ws1 _ re1 sp1 fun u H2 Ws2 W2 r2 re2 t2 o2 => ?_
  have r1' := o1.stay r1 re1 t2 sp1 hd
  have o1' := o1.later (fun a ha => (Rep.mt _ _ _ r1 a ha).some) t2 sp1 hd
  have sp2 := t2.sep.mono hs2
  refine hc.run e2 z _ h3 σ H2 Ws2 _ re2 sp2 fun t H3 Ws3 W3 r3 re3 t3 o3 => ?_
  have hd3 : ∀ i ∈ Ra, i ∉ Mc := fun i hi z => hd i hi (hs2 i z)
  have r1'' := o1'.stay r1' re2 t3 sp2 hd3
  have r2' := o2.stay r2 re2 t3 sp2 hd2
  obtain ⟨p', kvs, Wk, e1, hr, rk, eW, g⟩ := dget_of hx r1'' (k := kk)
  cases e1
  have hk' := keyD_kV hk r2'
  subst hk'
  refine ⟨_, g, ?_⟩
  have tM := (t1.trans (t2.weaken hs t1.sep re1.ne)).trans (t3.weaken (fun i hi => hs i (hs2 i hi)) (t1.trans (t2.weaken hs t1.sep re1.ne)).sep re2.ne)
  have fin : ∀ v W, Rep X.K H3 d v W → Q v H3 := fun v W r => q v H3 Ws3 [] (r.flat hl) re3 tM Own.nil
  have rv := rk.val (k := kk)
  cases hv : valD kds kk with
  | none =>
    rw [hv] at rv ez
    rw [rv]
    have ez' : z = d := ez
    subst ez'
    exact fin _ _ r3
  | some d' =>
    rw [hv] at rv ez
    obtain ⟨w, Ww, a1, a2, _⟩ := rv
    rw [a1]
    have ez' : d' = d := ez
    subst ez'
    exact fin _ _ a2⟩
end

/-! ### count -/
def rCntF (K : PySem.W.Frag) : V → List V → Hp → VK → Prop := fun x xs H Q => ∃ (p : Addr) (ys : List V) (y : V), x = .ref p ∧ xs = [y] ∧ SqL K H p ys ∧ flatV y = true ∧ ys.all flatV = true ∧ Q (.int (ys.countP fun z => eqV z y : Nat)) H
theorem count_eqU {x : V} : ∀ {xs : List V} {us : List Value}, Vals xs us → xs.all flatV = true → us.countP (eqU x) = xs.countP fun y => eqV y x
  | _, _, .nil, _ => rfl
  | _, _, .cons r rs, h => by
    simp only [List.all_cons, Bool.and_eq_true] at h
    rw [List.countP_cons, List.countP_cons, count_eqU rs h.2, eqU_of r h.1]
theorem mt_cntF {X : Cx} : MtR X "list.count" (rCntF X.K) := by
  intro pins s σ H x xs v us Q I rx rxs h
  obtain ⟨p, ys, y, rfl, rfl, hs, fy, fys, q⟩ := h
  cases rx
  obtain ⟨u, rfl, ru⟩ := rxs.one
  obtain ⟨its, rv, ⟨⟨cls, dd, data, sl⟩, n, ho, hc, hdn, hd⟩, hlen⟩ := I.list hs
  simp only at hc hd
  subst hc hd
  refine call_meets PySem.F.slot_list_count ⟨_, ho, rfl⟩ PySem.F.entry_list_count (PySem.F.args_list_count_2 _ _)
    (SeqAt.list_countAt p its.toArray n dd sl u (eqU y)) ⟨ho, fun z hz => mem_eqAt ru fy rv fys z (by simpa using hz), ?_⟩
  have ec : its.toArray.toList.countP (eqU y) = ys.countP fun z => eqV z y := count_eqU rv fys
  refine ⟨.int (ys.countP fun z => eqV z y : Nat), H, I.tok _, ⟨s.toks, ?_⟩, q⟩
  show Value.int ((its.toArray.toList.countP (eqU y) : Nat) : Int) s.toks = Value.int ((ys.countP fun z => eqV z y : Nat) : Int) s.toks
  rw [ec]
def mCnt : D → List D → Option (D × D)
  | .lst ds, [d] => if flatD d = true ∧ ds.all flatD = true then some (.int (ds.countP fun z => eqF z d : Nat), .lst ds) else none
  | _, _ => none
theorem cnt_v {K : PySem.W.Frag} {H : Hp} {x : D} {v : V} (fx : flatD x = true) {W : List Addr} (rx : Rep K H x v W) : ∀ {ds : List D} {vs : List V} {W1 : List Addr}, ds.all flatD = true → Reps K H ds vs W1 → vs.all flatV = true ∧ (vs.countP fun y => eqV y v) = ds.countP fun z => eqF z x
  | _, _, _, _, .nil => ⟨rfl, rfl⟩
  | _, _, _, h, .cons r rs => by
    simp only [List.all_cons, Bool.and_eq_true] at h
    obtain ⟨h1, h2⟩ := cnt_v fx rx h.2 rs
    refine ⟨by simp only [List.all_cons, Bool.and_eq_true]; exact ⟨flat_v h.1 r, h1⟩, ?_⟩
    rw [List.countP_cons, List.countP_cons, h2, eqF_v h.1 fx r rx]
theorem ms_cnt {X : Cx} : MtS X "list.count" mCnt := fun x args r x' h v us H W Wa Q rx ra nd q => by
  unfold mCnt at h
  split at h
  · rename_i ds d
    split at h
    · rename_i hf
      cases h
      obtain ⟨u, rfl, r0⟩ := ra.one
      cases rx with
      | @lst l vs _ W1 hl r1 =>
        obtain ⟨f1, f2⟩ := cnt_v hf.1 r0 hf.2 r1
        refine WM.of (fun pins s σ H x xs v us Q I r rs h => mt_cntF pins s σ H x xs v us Q I r rs h) ⟨l, vs, u, rfl, rfl, SqL.of hl, flat_v hf.1 r0, f1, ?_⟩
        rw [f2]
        exact q _ H [] (l :: W1) (.int _) (.lst hl r1) (fun _ _ h _ => h) (fun a ha => List.mem_append_left _ ha) (List.nodup_append.mp nd).1
    · cases h
  · cases h

/-! ### for over a dict held by a name -/
def keysD (kds : List (Key × D)) : List D := kds.map fun kv => match kv.1 with
  | .inl i => D.int i
  | .inr s => D.str s
theorem RepK.kat {K : PySem.W.Frag} {H : Hp} : ∀ {kds : List (Key × D)} {kvs : List (Key × V)} {W : List Addr}, RepK K H kds kvs W → kvs.map (·.1) = kds.map (·.1)
  | _, _, _, .nil => rfl
  | _, _, _, .cons _ r => by rw [List.map_cons, List.map_cons, RepK.kat r]
theorem rep_key {K : PySem.W.Frag} {H : Hp} (k : Key) : Rep K H (match k with | .inl i => D.int i | .inr s => D.str s) (kV k) [] := by
  cases k with
  | inl i => exact .int i
  | inr s => exact .str s
theorem walk_keys {K : PySem.W.Frag} {H : Hp} {a : Addr} {o : Obj} {kvs : List (Key × V)} {kds : List (Key × D)} (h : H a = some (.frz o (.dK kvs))) (hk : kvs.map (·.1) = kds.map (·.1)) : WalkOk K (Itk a o kvs) (keysD kds) [a] H := by
  have hl : kvs.length = kds.length := by have := congrArg List.length hk; simpa using this
  refine ⟨fun H1 => H1 a = some (.frz o (.dK kvs)), h, fun A H1 H2 h1 k m n => k a _ h1 (n a List.mem_cons_self), fun i H1 d h1 e => ?_, fun H1 h1 => ⟨h1, by unfold keysD; rw [List.length_map, hl]; exact Nat.le_refl _⟩⟩
  unfold keysD at e
  rw [List.getElem?_map] at e
  cases hd : kds[i]? with
  | none => rw [hd] at e; cases e
  | some kv =>
    rw [hd] at e
    cases e
    have hi : i < kds.length := (List.getElem?_eq_some_iff.mp hd).1
    refine ⟨⟨h1, by omega⟩, fun x H2 ⟨eH, k, v, e1, e2⟩ => ?_⟩
    subst eH e2
    have : (kvs.map (·.1))[i]? = (kds.map (·.1))[i]? := by rw [hk]
    rw [List.getElem?_map, List.getElem?_map, e1, hd] at this
    have ek : k = kv.1 := Option.some.inj this
    subst ek
    exact ⟨fun _ _ e => e, [], rep_key kv.1, fun a z => nomatch z⟩
def iKeyR (i : Nat) : Ev → Option (List D × Ev) := fun env => match env[i]? with
  | some (some (.rod kds)) => some (keysD kds, env)
  | _ => none
section
variable {X : Cx} {A A' M M' R : List Nat} {st : Stmt} {g : Ev → Option Out} {x : Str} {npos : Pos} {tg : Expr}
theorem vi_rod (i : Nat) (hN : X.N[i]? = some x := by rfl) (hv : Vis X.env.scope x := by first | exact Or.inl rfl | exact Or.inr (Or.inl rfl) | exact Or.inr (Or.inr rfl)) (hd : (x == ("__debug__" : Str)) = false := by decide) (hcd : (x == ("__classdict__" : Str)) = false := by decide) :
    VI X M [i] tg (.Name x npos) (iKeyR i) := ⟨fun env items env' h σ H Ws Q re sp q => by
  unfold iKeyR at h
  split at h
  · rename_i kds hk
    cases h
    obtain ⟨v, e1, r⟩ := re.at' i _ hk
    refine WIt.of (pi_keys (pe_var hN hv hd hcd)) ⟨v, e1, ?_⟩
    have mt := re.mt i
    generalize hW : Ws i = W at r mt
    cases r with
    | @rod a kvs _ Wk ha rk =>
      obtain ⟨o, ha⟩ := ha
      refine ⟨a, o, rfl, .inl ⟨kvs, ha, q _ H Ws [a] (walk_keys ha rk.kat) re (Tr.refl sp) ⟨fun z hz => .inr ⟨i, by simp, by rw [hW, List.mem_singleton.mp hz]; exact List.mem_cons_self⟩, fun z => nomatch z⟩ fun z hz => by rw [List.mem_singleton.mp hz]; exact mt a List.mem_cons_self⟩⟩
  · cases h⟩
def unL (i : Nat) (e : Ev) : Option Ev := match e[i]? with
  | some (some (.rod kds)) => some (e.set i (some (.dct kds)))
  | _ => none
def sLock (i : Nat) (g : Ev → Option Out) : Ev → Option Out := fun env => match env[i]? with
  | some (some (.dct kds)) => (g (env.set i (some (.rod kds)))).bind fun o => match o with
    | .nx e => (unL i e).bind fun e => some (.nx e)
    | .rt d e => (unL i e).bind fun e => some (.rt d e)
    | .bk e => (unL i e).bind fun e => some (.bk e)
    | .ct e => (unL i e).bind fun e => some (.ct e)
  | _ => none
theorem vs_lock (i : Nat) (h : VS X A' M' st g) (hi : i ∈ M := by decide) (hA : ∀ j ∈ A', j ∈ A := by decide) (hM : ∀ j ∈ M', j ∈ M := by decide) (hiA : i ∉ A' := by decide) (hiM : i ∉ M' := by decide) : VS X A M st (sLock i g) := ⟨fun env o h' σ H Ws Dn re sp q => by
  unfold sLock at h'
  split at h'
  rotate_left
  · cases h'
  rename_i kds hk
  obtain ⟨o1, h1, h'⟩ := Option.bind_eq_some_iff.mp h'
  have hil : i < env.length := (List.getElem?_eq_some_iff.mp hk).1
  obtain ⟨v, hv, r⟩ := re.at' i _ hk
  have ndi := sp i hi
  have hWi : Ws i = Ws i := rfl
  generalize hW : Ws i = W at r
  cases r with
  | @dct a kvs _ Wk ha rk =>
    have nda : a ∉ Wk := (List.nodup_cons.mp (hW ▸ ndi.1)).1
    have mta : Mt H a := .inr (.inl ⟨_, ha⟩)
    refine WS.of (ps_lock ps_ws) ⟨a, _, ha, (by trivial), fun od => ?_⟩
    have kp1 : ∀ u, Kp (· ∈ Ws i) H (upd H a u) := fun u b w hb hn => by
      rw [upd_ne fun e => hn (by rw [e, hW]; exact List.mem_cons_self)]; exact hb
    have offK : ∀ u, RepK X.K (upd H a u) kds kvs Wk := fun u => RepK.kp (A := (· = a)) (fun b w hb hn => by rw [upd_ne hn]; exact hb) (fun b hb => by rw [hb]; exact mta) _ _ _ rk fun b hb e => nda (e ▸ hb)
    have eσ : ∀ (σ : L2.St) (u : V), σ[i]? = some (some u) → σ.set i (some u) = σ := fun σ u hu => by
      refine List.ext_getElem? fun j => ?_
      by_cases ej : j = i
      · subst ej
        rw [List.getElem?_set_self (List.getElem?_eq_some_iff.mp hu).1, hu]
      · rw [List.getElem?_set_ne (Ne.symm ej)]
    have reL : REnv X.K (upd H a (.frz od (.dK kvs))) (env.set i (some (.rod kds))) σ (setW Ws i (a :: Wk)) := re.upd ndi.2 hil hv (kp1 _) (.rod ⟨od, upd_same⟩ (offK _))
    have eWs : setW Ws i (a :: Wk) = Ws := funext fun j => by
      by_cases ej : j = i
      · subst ej; rw [setW_same, hW]
      · rw [setW_ne ej]
    rw [eWs] at reL
    have aIn : ∀ z, InM M' Ws z → z ∉ Ws i := fun z ⟨j, hj, hz⟩ y => (sp i hi).2 j (fun e => hiM (e ▸ hj)) z y hz
    -- behind the statement
    have back : ∀ (e e' : Ev) (σ' : L2.St) (H' : Hp) (Ws' : Wm), unL i e = some e' → REnv X.K H' e σ' Ws' → Tr M' Ws Ws' (upd H a (.frz od (.dK kvs))) H' → Hold A' σ σ' →
        H' a = some (.frz od (.dK kvs)) ∧ REnv X.K (upd H' a (.dK kvs)) e' σ' Ws' ∧ Tr M Ws Ws' H (upd H' a (.dK kvs)) ∧ Hold A σ σ' ∧ a ∈ Ws' i := fun e e' σ' H' Ws' hu re' t k => by
      unfold unL at hu
      split at hu
      rotate_left
      · cases hu
      rename_i kds' hk'
      cases hu
      have hil' : i < e.length := (List.getElem?_eq_some_iff.mp hk').1
      have hv' : σ'[i]? = some (some (V.ref a)) := (k i hiA).trans hv
      have hH : H' a = some (.frz od (.dK kvs)) := t.keep a _ upd_same fun z => aIn a z (by rw [hW]; exact List.mem_cons_self)
      have eW' : Ws' i = a :: Wk := (t.same i hiM).trans hW
      obtain ⟨v2, hv2, r2⟩ := re'.at' i _ hk'
      rw [hv'] at hv2
      cases hv2
      have off' : ∀ j, j ≠ i → ∀ b ∈ Ws' i, b ∉ Ws' j := fun j hj b hb => by
        by_cases hjM : j ∈ M'
        · intro hz
          exact (t.sep j hjM).2 i (Ne.symm hj) b hz hb
        · rw [t.same j hjM]
          rw [t.same i hiM] at hb
          exact (sp i hi).2 j hj b hb
      rw [eW'] at r2
      have mta' : Mt H' a := .inr (.inr (.inr ⟨_, _, hH⟩))
      cases r2 with
      | @rod _ kvs2 _ _ ha2 rk2 =>
        obtain ⟨o2, ha2⟩ := ha2
        rw [hH] at ha2
        cases ha2
        have rd : Rep X.K (upd H' a (.dK kvs)) (.dct kds') (.ref a) (a :: Wk) := .dct upd_same (RepK.kp (A := (· = a)) (fun b w hb hn => by rw [upd_ne hn]; exact hb) (fun b hb => by rw [hb]; exact mta') _ _ _ rk2 fun b hb e => nda (e ▸ hb))
        have reU := re'.upd off' hil' hv' (H' := upd H' a (.dK kvs)) (fun b w hb hn => by rw [upd_ne fun e => hn (by rw [e, eW']; exact List.mem_cons_self)]; exact hb) rd
        have eWs' : setW Ws' i (a :: Wk) = Ws' := funext fun j => by
          by_cases ej : j = i
          · subst ej; rw [setW_same, eW']
          · rw [setW_ne ej]
        rw [eWs'] at reU
        refine ⟨hH, reU, ⟨fun b w hb hn => ?_, fun j hj => t.same j fun z => hj (hM j z), fun j hj b hb => ?_, fun j hj => ?_⟩, k.mono hA, by rw [eW']; exact List.mem_cons_self⟩
        · by_cases eb : b = a
          · subst eb
            exact absurd ⟨i, hi, by rw [hW]; exact List.mem_cons_self⟩ hn
          · rw [upd_ne eb]
            exact t.keep b w (by rw [upd_ne eb]; exact hb) fun z => hn (z.mono hM)
        · by_cases hjM : j ∈ M'
          · rcases t.sub j hjM b hb with z | z
            · exact .inl (z.mono hM)
            · by_cases eb : b = a
              · subst eb; rw [upd_same] at z; cases z
              · rw [upd_ne eb] at z; exact .inr z
          · rw [t.same j hjM] at hb
            exact .inl ⟨j, hj, hb⟩
        · by_cases hjM : j ∈ M'
          · exact t.sep j hjM
          · refine ⟨by rw [t.same j hjM]; exact (sp j hj).1, fun l hl b hb => ?_⟩
            by_cases hlM : l ∈ M'
            · exact fun z => (t.sep l hlM).2 j (Ne.symm hl) b z hb
            · rw [t.same l hlM]
              rw [t.same j hjM] at hb
              exact (sp j hj).2 l hl b hb
    have spM' : Sep M' Ws := sp.mono hM
    refine h.run _ o1 h1 σ _ Ws _ reL spM' ?_
    cases o1 with
    | nx e =>
      obtain ⟨e', hu, h'⟩ := Option.bind_eq_some_iff.mp h'
      cases h'
      exact fun σ' H' Ws' re' t k => let ⟨b1, b2, b3, b4, _⟩ := back e e' σ' H' Ws' hu re' t k; ⟨b1, q σ' _ Ws' b2 b3 b4⟩
    | bk e =>
      obtain ⟨e', hu, h'⟩ := Option.bind_eq_some_iff.mp h'
      cases h'
      exact fun σ' H' Ws' re' t k => let ⟨b1, b2, b3, b4, _⟩ := back e e' σ' H' Ws' hu re' t k; ⟨b1, q σ' _ Ws' b2 b3 b4⟩
    | ct e =>
      obtain ⟨e', hu, h'⟩ := Option.bind_eq_some_iff.mp h'
      cases h'
      exact fun σ' H' Ws' re' t k => let ⟨b1, b2, b3, b4, _⟩ := back e e' σ' H' Ws' hu re' t k; ⟨b1, q σ' _ Ws' b2 b3 b4⟩
    | rt d e =>
      obtain ⟨e', hu, h'⟩ := Option.bind_eq_some_iff.mp h'
      cases h'
      refine fun u σ' H' Ws' W' rd re' t ow k => ?_
      obtain ⟨b1, b2, b3, b4, b5⟩ := back e e' σ' H' Ws' hu re' t k
      have out : ∀ b ∈ W', (InM M' Ws b ∨ upd H a (.frz od (.dK kvs)) b = none) ∧ ∀ j, b ∉ Ws' j := own_fr ow
      have na : a ∉ W' := fun z => (out a z).2 i b5
      have mta' : Mt H' a := .inr (.inr (.inr ⟨_, _, b1⟩))
      refine ⟨b1, q u σ' _ Ws' W' (Rep.kp (A := (· = a)) (fun b w hb hn => by rw [upd_ne hn]; exact hb) (fun b hb => by rw [hb]; exact mta') _ _ _ rd fun b hb e => na (e ▸ hb)) b2 b3 ⟨fun b hb => .inl ⟨?_, (out b hb).2⟩, ow.nd⟩ b4⟩
      rcases (out b hb).1 with z | z
      · exact .inl (z.mono hM)
      · by_cases eb : b = a
        · subst eb; exact absurd hb na
        · rw [upd_ne eb] at z; exact .inr z⟩
end
end VL

/-! VLN: a name's value taken out of its name; what the printed proofs lean on. -/
namespace VL
open PySem PySem.Spec L2

/-- the value goes, the name holds nothing any more (that anybody may ask for) -/
def eMv (i : Nat) : Ev → Option (D × Ev) := fun env => match env[i]? with
  | some (some d) => some (d, env.set i none)
  | _ => none
theorem ve_mv {X : Cx} {M : List Nat} (i : Nat) {x : Str} {pos : Pos} (hiM : i ∈ M := by decide) (hN : X.N[i]? = some x := by rfl) (hv : Vis X.env.scope x := by first | exact Or.inl rfl | exact Or.inr (Or.inl rfl) | exact Or.inr (Or.inr rfl)) (hd : (x == ("__debug__" : Str)) = false := by decide)
    (hcd : (x == ("__classdict__" : Str)) = false := by decide) : VE X M [] (.Name x pos) (eMv i) := ⟨fun env d env' h σ H Ws Q re sp q => by
  unfold eMv at h
  split at h
  · rename_i d' hd'
    cases h
    obtain ⟨v, e1, r⟩ := re.at' i d hd'
    have hil : i < env.length := (List.getElem?_eq_some_iff.mp hd').1
    refine WE.of (pe_var hN hv hd hcd) ⟨v, e1, q v H (setW Ws i []) (Ws i) r ⟨by rw [List.length_set]; exact re.len, fun j x hj => ?_, fun j hj => ?_⟩ ⟨Kp.refl, fun j hj => setW_ne fun e => hj (e ▸ hiM), fun j hj a ha => ?_, fun j hj => ?_⟩ ⟨fun a ha => .inl ⟨.inl ⟨i, hiM, ha⟩, fun j hz => ?_⟩, fun _ => (sp i hiM).1⟩⟩
    · by_cases e : j = i
      · subst e
        rw [List.getElem?_set_self hil] at hj
        cases hj
      · rw [List.getElem?_set_ne (Ne.symm e)] at hj
        rw [setW_ne e]
        exact re.at' j x hj
    · by_cases e : j = i
      · subst e; exact setW_same
      · rw [setW_ne e]
        exact re.non j fun x hx => hj x (by rw [List.getElem?_set_ne (Ne.symm e)]; exact hx)
    · by_cases e : j = i
      · subst e; rw [setW_same] at ha; exact nomatch ha
      · rw [setW_ne e] at ha; exact .inl ⟨j, hj, ha⟩
    · by_cases e : j = i
      · subst e; rw [setW_same]; exact ⟨.nil, fun l _ a ha => nomatch ha⟩
      · rw [setW_ne e]
        refine ⟨(sp j hj).1, fun l hl a ha hz => ?_⟩
        by_cases e2 : l = i
        · subst e2; rw [setW_same] at hz; exact nomatch hz
        · rw [setW_ne e2] at hz; exact (sp j hj).2 l hl a ha hz
    · by_cases e : j = i
      · subst e; rw [setW_same] at hz; exact nomatch hz
      · rw [setW_ne e] at hz; exact (sp i hiM).2 j e a ha hz
  · cases h⟩
theorem r64 {k : Nat} {A : Around} (r : Room k A) : A.units + 64 < cLine := by have := r.un; omega
theorem r65 {k : Nat} {A : Around} (r : Room k A) : A.units + 65 < cLine := by have := r.un; omega
theorem b_len : bootBuiltins "len" = some (.builtin "len") := by decide +kernel
theorem b_abs : bootBuiltins "abs" = some (.builtin "abs") := by decide +kernel
theorem b_max : bootBuiltins "max" = some (.builtin "max") := by decide +kernel
theorem b_min : bootBuiltins "min" = some (.builtin "min") := by decide +kernel
theorem b_sum : bootBuiltins "sum" = some (.builtin "sum") := by decide +kernel
theorem b_any : bootBuiltins "any" = some (.builtin "any") := by decide +kernel
theorem b_all : bootBuiltins "all" = some (.builtin "all") := by decide +kernel
theorem b_sorted : bootBuiltins "sorted" = some (.builtin "sorted") := by decide +kernel
theorem b_int : bootBuiltins "int" = some (.type "int") := by decide +kernel
theorem b_str : bootBuiltins "str" = some (.type "str") := by decide +kernel
theorem b_bool : bootBuiltins "bool" = some (.type "bool") := by decide +kernel
theorem b_list : bootBuiltins "list" = some (.type "list") := by decide +kernel
theorem b_tuple : bootBuiltins "tuple" = some (.type "tuple") := by decide +kernel
end VL
namespace VL
open PySem PySem.Spec L2
/-- the law's own call: a list of ints that nobody writes -/
theorem law_sp {K : PySem.W.Frag} {F : Fn} {n : Nat} (hF : ∀ ns : List Int, ns.length ≤ n → ∃ e, F [.rol (ns.map D.int)] = some (.bl true, e)) {H : Hp} {a : Addr} {ns : List Int} (hl : ns.length ≤ n) (ho : Only H) (hs : SqL K H a (ns.map V.int)) {E : XK} :
    spF K 1 [] F [.ref a] H (fun v _ => v = .bl true) E := by
  obtain ⟨e, he⟩ := hF ns hl
  have hr : RoL K H a (ns.map V.int) := by
    rcases hs with (h | h) | h
    · rcases ho a with z | ⟨o, xs, z⟩
      · rw [h] at z; cases z
      · rw [h] at z; cases z
    · exact .inl h
    · exact .inr h
  refine ⟨rfl, [.rol (ns.map D.int)], _, e, fun _ => [], he, ⟨rfl, fun i d h => ?_, fun _ _ => rfl⟩, fun i hi => (nomatch hi), fun v H' Wp' Wr rr _ _ _ => ?_⟩
  · cases i with
    | zero =>
      have ed : D.rol (ns.map D.int) = d := by simpa using h
      subst ed
      exact ⟨_, rfl, .rol hr (reps_ints ns)⟩
    | succ i => simp at h
  · cases rr
    rfl
end VL

/-! VLO: dicts of tuple keys, list(range(..)), xs[::-1], d.get(k). -/
namespace VL
open PySem PySem.Spec L2

section
variable {X : Cx} {A M Mb Mc R Ra Rb Rc : List Nat} {a b c e : Expr} {fa fb fc f : Ev → Option (D × Ev)} {x : Str} {pos npos apos cpos p p2 : Pos}
theorem ve_dnewT : VE X M [] (.Dict [] [] pos) (eC (.dtt [])) := ⟨fun env d env' h σ H Ws Q re sp q => by
  cases h
  refine WE.of pe_dnewT fun p hp => ?_
  have k := Ext.new (o := HO.dT []) hp
  refine q (.ref p) _ Ws [p] (.dtt upd_same .nil) (k.renv re) (k.tr (Tr.refl sp)) ⟨fun z hz => ?_, fun _ => nd1⟩
  rw [List.mem_singleton.mp hz]
  exact .inl ⟨.inr hp, fun j y => re.ne j p y hp⟩⟩
/-! list(range(n)), tuple(range(n)) -/
theorem reps_rg {K : PySem.W.Frag} {H : Hp} (n : Int) : Reps K H (rngD 0 1 n.toNat) (rgV 0 n) [] := by
  have e : rngD 0 1 n.toNat = ((List.range n.toNat).map fun i : Nat => (0 + (i : Int) * 1)).map D.int := by
    unfold rngD
    rw [List.map_map]
    rfl
  have e2 : rgV 0 n = ((List.range n.toNat).map fun i : Nat => (0 + (i : Int) * 1)).map V.int := by
    unfold rgV
    rw [List.map_map, Int.sub_zero]
    refine List.map_congr_left fun i _ => ?_
    show V.int (0 + (i : Int)) = V.int (0 + (i : Int) * 1)
    rw [Int.mul_one]
  rw [e, e2]
  exact reps_ints _
def eRgL (f : Ev → Option (D × Ev)) : Ev → Option (D × Ev) := fun env => (f env).bind fun p => match p.1 with
  | .int n => if n.natAbs ≤ 1000000 then some (.lst (rngD 0 1 n.toNat), p.2) else none
  | _ => none
def eRgT (f : Ev → Option (D × Ev)) : Ev → Option (D × Ev) := fun env => (f env).bind fun p => match p.1 with
  | .int n => if n.natAbs ≤ 1000000 then some (.tup (rngD 0 1 n.toNat), p.2) else none
  | _ => none
theorem prg_we (hg : Gl X "range") (hm : X.mg "range" = none) (hs : starEach [a] X.env = (false, eval a X.env) :: starEach [] X.env) : PRg X (.Call (.Name "range" p) [a] [] pos) (tRg1 (WE X a)) := prg_1 hg hm pe_we hs
theorem ve_rgL (hc : X.calm = true) (hm : X.mg "range" = none) (hm2 : X.mg "list" = none) (ha : VE X M R a f) (hg : Gl X "range" := by rfl) (hg2 : Gl X "list" := by rfl) (hs : starEach [a] X.env = (false, eval a X.env) :: starEach [] X.env := by rfl)
    (hs2 : starEach [.Call (.Name "range" p) [a] [] pos] X.env = (false, eval (.Call (.Name "range" p) [a] [] pos) X.env) :: starEach [] X.env := by rfl) :
    VE X M [] (.Call (.Name "list" p2) [.Call (.Name "range" p) [a] [] pos] [] cpos) (eRgL f) := ⟨fun env d env' h σ H Ws Q re sp q => by
  unfold eRgL at h
  obtain ⟨⟨y, e1⟩, h1, h⟩ := Option.bind_eq_some_iff.mp h
  split at h
  · rename_i n hn
    have hn' : y = .int n := hn
    subst hn'
    split at h
    · rename_i hb
      cases h
      refine WE.of (pe_listRg hc hg2 hm2 (prg_we hg hm hs) hs2) (ha.run env _ _ h1 σ H Ws _ re sp fun v H1 Ws1 W1 r1 re1 t1 o1 => ?_)
      cases r1
      refine ⟨n, rfl, ⟨by decide, by decide, by omega, by omega, by omega⟩, fun l hl => ?_⟩
      have k := Ext.new (o := HO.lst (rgV 0 n)) hl
      refine q (.ref l) _ Ws1 [l] (.lst upd_same (reps_rg n)) (k.renv re1) (k.tr t1) ⟨fun z hz => ?_, fun _ => nd1⟩
      rw [List.mem_singleton.mp hz]
      exact .inl ⟨tr_none t1 hl, fun j y => re1.ne j l y hl⟩
    · cases h
  · cases h⟩
theorem ve_rgT (hc : X.calm = true) (hm : X.mg "range" = none) (hm2 : X.mg "tuple" = none) (ha : VE X M R a f) (hg : Gl X "range" := by rfl) (hg2 : Gl X "tuple" := by rfl) (hs : starEach [a] X.env = (false, eval a X.env) :: starEach [] X.env := by rfl)
    (hs2 : starEach [.Call (.Name "range" p) [a] [] pos] X.env = (false, eval (.Call (.Name "range" p) [a] [] pos) X.env) :: starEach [] X.env := by rfl) :
    VE X M [] (.Call (.Name "tuple" p2) [.Call (.Name "range" p) [a] [] pos] [] cpos) (eRgT f) := ⟨fun env d env' h σ H Ws Q re sp q => by
  unfold eRgT at h
  obtain ⟨⟨y, e1⟩, h1, h⟩ := Option.bind_eq_some_iff.mp h
  split at h
  · rename_i n hn
    have hn' : y = .int n := hn
    subst hn'
    split at h
    · rename_i hb
      cases h
      refine WE.of (pe_tupRg hc hg2 hm2 (prg_we hg hm hs) hs2) (ha.run env _ _ h1 σ H Ws _ re sp fun v H1 Ws1 W1 r1 re1 t1 o1 => ?_)
      cases r1
      refine ⟨n, rfl, ⟨by decide, by decide, by omega, by omega, by omega⟩, fun l hl => ?_⟩
      have k := Ext.new (o := HO.tup (rgV 0 n)) hl
      exact q (.ref l) _ Ws1 [] (.tup upd_same (reps_rg n)) (k.renv re1) (k.tr t1) Own.nil
    · cases h
  · cases h⟩
/-! xs[::-1] of a list without lists within -/
def eRev (f : Ev → Option (D × Ev)) : Ev → Option (D × Ev) := fun env => (f env).bind fun p => match p.1 with
  | .lst ds => if lfs ds = true then some (.lst ds.reverse, p.2) else none
  | _ => none
theorem ve_rev {k : Nat} {q1 q2 q3 : Pos} (ha : VE X M R a f) : VE X M [] (.Subscript a (.Slice none none (some (.UnaryOp .USub (.Constant (.int 1) k q1) q2)) q3) pos) (eRev f) := ⟨fun env d env' h σ H Ws Q re sp q => by
  unfold eRev at h
  obtain ⟨⟨y, e1⟩, h1, h⟩ := Option.bind_eq_some_iff.mp h
  split at h
  · rename_i ds hn
    have hn' : y = .lst ds := hn
    subst hn'
    split at h
    · rename_i hb
      cases h
      refine WE.of (pe_revL pe_we) (ha.run env _ _ h1 σ H Ws _ re sp fun v H1 Ws1 W1 r1 re1 t1 o1 => ?_)
      cases r1 with
      | @lst l0 vs _ W0 hl0 r0 =>
        refine ⟨l0, vs, rfl, SqL.of hl0, fun l hl => ?_⟩
        have k := Ext.new (o := HO.lst vs.reverse) hl
        obtain ⟨Wr, rr, pr⟩ := Reps.rev (r0.flat hb)
        have eW : Wr = [] := List.Perm.eq_nil pr
        subst eW
        refine q (.ref l) _ Ws1 [l] (.lst upd_same (k.reps rr)) (k.renv re1) (k.tr t1) ⟨fun z hz => ?_, fun _ => nd1⟩
        rw [List.mem_singleton.mp hz]
        exact .inl ⟨tr_none t1 hl, fun j y => re1.ne j l y hl⟩
    · cases h
  · cases h⟩
/-! d.get(k) -/
def eGet1 (fo fk : Ev → Option (D × Ev)) : Ev → Option (D × Ev) := fun env => (fo env).bind fun p => (fk p.2).bind fun q => (getD p.1 q.1 .non).bind fun z => some (z, q.2)
theorem ve_get1 (hu : X.A.units + 64 < cLine) (ha : VE X M Ra a fa) (hb : VE X Mb Rb b fb) (hs : ∀ i ∈ Mb, i ∈ M := by decide) (hd : ∀ i ∈ Ra, i ∉ Mb := by decide)
    (m : M1 X a "get" apos b cpos := by exact ⟨rfl, rfl, rfl, rfl⟩) : VE X M [] (.Call (.Attribute a "get" apos) [b] [] cpos) (eGet1 fa fb) := ⟨fun env d env' h σ H Ws Q re sp q => by
  unfold eGet1 at h
  obtain ⟨⟨x, e1⟩, h1, h⟩ := Option.bind_eq_some_iff.mp h
  obtain ⟨⟨y, e2⟩, h2, h⟩ := Option.bind_eq_some_iff.mp h
  obtain ⟨w, h4, h⟩ := Option.bind_eq_some_iff.mp h
  cases h
  obtain ⟨kds, kk, hx, hk, ez, hl⟩ := getD_eq h4
  refine WE.of (pe_dget1 (by omega) pe_we pe_we m) (ha.run env x e1 h1 σ H Ws _ re sp fun v H1 Ws1 W1 r1 re1 t1 o1 => ?_)
  obtain ⟨p, ev, hD⟩ := isD_of hx r1
  subst ev
  refine ⟨p, rfl, hD, ?_⟩
  have sp1 := t1.sep.mono hs
  refine hb.run e1 y _ h2 σ H1 Ws1 _ re1 sp1 fun u H2 Ws2 W2 r2 re2 t2 o2 => ?_
  have r1' := o1.stay r1 re1 t2 sp1 hd
  obtain ⟨p', kvs, Wk, e1, hr, rk, eW, g⟩ := dget_of hx r1' (k := kk)
  cases e1
  have hk' := keyD_kV hk r2
  subst hk'
  refine ⟨_, g, ?_⟩
  have tM := t1.trans (t2.weaken hs t1.sep re1.ne)
  have fin : ∀ v W, Rep X.K H2 d v W → Q v H2 := fun v W r => q v H2 Ws2 [] (r.flat hl) re2 tM Own.nil
  have rv := rk.val (k := kk)
  cases hv : valD kds kk with
  | none =>
    rw [hv] at rv ez
    rw [rv]
    have ez' : D.non = d := ez
    subst ez'
    exact fin _ _ .non
  | some d' =>
    rw [hv] at rv ez
    obtain ⟨w, Ww, a1, a2, _⟩ := rv
    rw [a1]
    have ez' : d' = d := ez
    subst ez'
    exact fin _ _ a2⟩
end
end VL

/-! VLQ: x[k] op= e. -/
namespace VL
open PySem PySem.Spec L2

theorem pget_list {X : Cx} : PGet X (rIxL X.K) := by
  intro ps s ρ G o i ov iv Q I ro ri h
  obtain ⟨p, xs, k, z, rfl, rfl, hq, he, q⟩ := h
  cases ro
  obtain ⟨t, rfl⟩ := ri
  obtain ⟨its, r, pl, hz⟩ := I.list hq
  obtain ⟨j, h1, h2, h3, h4, h5⟩ := atI_get he
  obtain ⟨w, ew, rw'⟩ := r.get h2
  have hl := r.length
  have hn := line63
  by_cases h0 : 0 ≤ k
  · have hj : k.toNat = j := Option.some.inj ((seqIndex_of h0 h5).symm.trans h1)
    exact wpAny_getItem_list pl.isList h0 (by omega) (by rw [hj]; simpa using ew) ⟨z, G, I, rw', q⟩
  · have hj : (k + (its.toArray.size : Int)).toNat = j := by
      rw [seqIndex_neg (by omega) h4] at h1
      rw [List.size_toArray, ← hl]
      exact Option.some.inj h1
    exact wpAny_getItem_list_neg pl.isList (by omega) (by rw [List.size_toArray] <;> omega) (by omega) (by rw [hj]; simpa using ew) ⟨z, G, I, rw', q⟩
def slotD (env : Ev) (i : Nat) : Option D := match env[i]? with
  | some (some d) => some d
  | _ => none
theorem slotD_eq {env : Ev} {i : Nat} {d : D} (h : slotD env i = some d) : env[i]? = some (some d) := by
  unfold slotD at h
  split at h
  · rename_i e; cases h; exact e
  · cases h
def mtD : D → Bool
  | .lst _ => true
  | .dct _ => true
  | .dtt _ => true
  | _ => false
def sAugI (i : Nat) (fk : Ev → Option (D × Ev)) (g : D → D → Option D) (fe : Ev → Option (D × Ev)) : Ev → Option Out := fun env => (slotD env i).bind fun _ => (fk env).bind fun p => (slotD p.2 i).bind fun x1 => (dIxA x1 p.1).bind fun old =>
  (fe p.2).bind fun q => (g old q.1).bind fun new => (slotD q.2 i).bind fun x2 => if isL x1 = isL x2 ∧ lf p.1 = true ∧ lf old = true ∧ mtD x1 = true then (setD x2 p.1 new).bind fun x3 => some (.nx (q.2.set i (some x3))) else none
section
variable {X : Cx} {A M R Rb : List Nat} {v k e : Expr} {fk fe : Ev → Option (D × Ev)} {x : Str} {npos tpos pos : Pos}
theorem vs_augI (i : Nat) {op : Operator} {g : D → D → Option D} (hu : X.A.units + 64 < cLine) (ho : OpS X (inplaceOp op) g) (hk : VE X [] R k fk) (he : VE X [] Rb e fe) (hiM : i ∈ M := by decide)
    (hN : X.N[i]? = some x := by rfl) (hvis : Vis X.env.scope x := by first | exact Or.inl rfl | exact Or.inr (Or.inl rfl) | exact Or.inr (Or.inr rfl)) (hd : (x == ("__debug__" : Str)) = false := by decide) (hcd : (x == ("__classdict__" : Str)) = false := by decide)
    (hs : ∀ ov iv new, augStore k ov iv new = (do holding [new, ov, iv] (setItem ov iv new); release [new, ov, iv] []; pure .next) := by intros; rfl) :
    VS X A M (.AugAssign (.Subscript (.Name x npos) k tpos) op e pos) (sAugI i fk g fe) := ⟨fun env o h σ H Ws Dn re sp q => by
  unfold sAugI at h
  obtain ⟨x0, h0, h⟩ := Option.bind_eq_some_iff.mp h
  obtain ⟨⟨kd, e1⟩, h1, h⟩ := Option.bind_eq_some_iff.mp h
  obtain ⟨x1, hx1, h⟩ := Option.bind_eq_some_iff.mp h
  obtain ⟨old, hold, h⟩ := Option.bind_eq_some_iff.mp h
  obtain ⟨⟨yd, e2⟩, h2, h⟩ := Option.bind_eq_some_iff.mp h
  obtain ⟨new, hnew, h⟩ := Option.bind_eq_some_iff.mp h
  obtain ⟨x2, hx2, h⟩ := Option.bind_eq_some_iff.mp h
  split at h
  rotate_left
  · cases h
  rename_i hc
  obtain ⟨x3, hx3, h⟩ := Option.bind_eq_some_iff.mp h
  cases h
  have hx1' := slotD_eq hx1
  have hx2' := slotD_eq hx2
  obtain ⟨w, hw, _⟩ := re.at' i _ (slotD_eq h0)
  have hil : i < e2.length := (List.getElem?_eq_some_iff.mp hx2').1
  have spN : Sep [] Ws := fun _ z => nomatch z
  -- behind the read: the operation and the store
  have rest : ∀ (kv : V) (H1 : Hp) (Ws1 : Wm), Rep X.K H1 kd kv [] → REnv X.K H1 e1 σ Ws1 → Tr [] Ws Ws1 H H1 → ∀ (ov : V), Rep X.K H1 old ov [] → ∀ (P : V → Hp → Prop), (∀ z H3 H4, (isL x1 = true → ∀ Q : Hp → Prop, Q H4 → rSetL w kv z H3 Q) → (isL x1 = false → ∃ p, w = .ref p ∧ DPut H3 p kv z H4) → Dn.nx σ H4 → P z H3) →
      WE X e σ H1 fun u H2 => WO X (inplaceOp op) ov u H2 P := fun kv H1 Ws1 rk re1 t1 ov ro P hP => by
    refine he.run e1 yd e2 h2 σ H1 Ws1 _ re1 (fun _ z => nomatch z) fun u H2 Ws2 W2 r2 re2 t2 o2 => ?_
    have k2 : Ext H1 H2 := fun a o e => t2.keep a o e fun ⟨_, z, _⟩ => nomatch z
    refine ho old yd new hnew ov u H2 [] W2 _ (k2.rep ro) r2 fun z H3 W3 rz k3 hn nd => ?_
    have re3 := k3.renv re2
    have t02 := t1.trans t2
    have t03 : Tr M Ws Ws2 H H3 := k3.tr (t02.weaken (fun _ z => nomatch z) sp re.ne)
    obtain ⟨w', hw', rx⟩ := re3.at' i _ hx2'
    rw [hw] at hw'
    cases hw'
    have own3 : ∀ a ∈ W3, (InM M Ws a ∨ H a = none) ∧ ∀ j, a ∉ Ws2 j := fun a ha => ⟨(tr_none t02 (hn a ha)).imp (fun ⟨_, z, _⟩ => nomatch z) id, fun j z => (re2.mt j a z).some (hn a ha)⟩
    have ndx : (Ws2 i ++ W3).Nodup := List.nodup_append.mpr ⟨(t03.sep i hiM).1, nd, fun a ha b hb e => (own3 b hb).2 i (e ▸ ha)⟩
    obtain ⟨W', H4, c1, c2, c3, c4, c5⟩ := seti_ok hx3 rx (k3.rep (k2.rep rk)) rz ndx
    obtain ⟨re4, t4, _⟩ := slot_fin (Wr := []) hiM re3 t03 hw hil own3 c2 c1 (by simpa using c3) (by simpa using c4)
    refine hP z H3 H4 (fun hl Q qq => ?_) (fun hl => ?_) (q σ H4 _ re4 t4 Hold.refl)
    · rcases c5 with ⟨_, _, c5⟩ | ⟨e, _⟩
      · exact c5 Q qq
      · rw [← hc.1, hl] at e; cases e
    · rcases c5 with ⟨ds, e, _⟩ | ⟨_, c5⟩
      · rw [hc.1, e] at hl; cases hl
      · exact c5
  by_cases hL : isL x1 = true
  · refine WS.of (ps_augS (pe_var hN hvis hd hcd) pe_we pget_list pe_we op_ip set_list hs) ⟨w, hw, ?_⟩
    refine hk.run env kd e1 h1 σ H Ws _ re spN fun kv H1 Ws1 W1 r1 re1 t1 o1 => ?_
    obtain ⟨w', hw', rx⟩ := re1.at' i _ hx1'
    rw [hw] at hw'
    cases hw'
    have rk := r1.flat hc.2.1
    generalize Ws1 i = Wq at rx
    cases rx with
    | @lst l vs ds _ hl rs =>
      cases kd with
      | int kk =>
        cases rk
        obtain ⟨ov, Wo, b1, b2, _, _⟩ := Reps.atI rs (show atI ds kk = some old from hold)
        refine ⟨l, vs, kk, ov, rfl, rfl, SqL.of hl, b1, ?_⟩
        exact rest (.int kk) H1 Ws1 (.int kk) re1 t1 ov (b2.flat hc.2.2.1) _ fun z H3 H4 c1 _ c3 => c1 rfl _ c3
      | non => cases hold
      | bl _ => cases hold
      | str _ => cases hold
      | tup _ => cases hold
      | lst _ => cases hold
      | rol _ => cases hold
      | dct _ => cases hold
      | dtt _ => cases hold
      | rod _ => cases hold
    | non => cases hL
    | bl => cases hL
    | int => cases hL
    | str => cases hL
    | tup => cases hL
    | rol => cases hL
    | dct => cases hL
    | dtt => cases hL
    | rod => cases hL
  · have hL' : isL x1 = false := Bool.eq_false_iff.mpr hL
    refine WS.of (ps_daug (by omega) (pe_var hN hvis hd hcd) pe_we pe_we (op_ip (op := op)) hs) ⟨w, hw, ?_⟩
    refine hk.run env kd e1 h1 σ H Ws _ re spN fun kv H1 Ws1 W1 r1 re1 t1 o1 => ?_
    obtain ⟨w', hw', rx⟩ := re1.at' i _ hx1'
    rw [hw] at hw'
    cases hw'
    have rk := r1.flat hc.2.1
    have fin : ∀ p ov, w = .ref p → DGet H1 p kv (some ov) → Rep X.K H1 old ov [] → ∃ a v, w = .ref a ∧ DGet H1 a kv (some v) ∧ WE X e σ H1 fun y2 H3 => WO X (inplaceOp op) v y2 H3 fun z H4 => ∃ H5, DPut H4 a kv z H5 ∧ Dn.nx σ H5 := fun p ov ew g r => by
      refine ⟨p, ov, ew, g, rest kv H1 Ws1 rk re1 t1 ov r _ fun z H3 H4 _ c2 c3 => ?_⟩
      obtain ⟨p', e', g'⟩ := c2 hL'
      rw [ew] at e'
      cases e'
      exact ⟨H4, g', c3⟩
    cases x1 with
    | dct kds =>
      obtain ⟨kk, hkk, hv⟩ := Option.bind_eq_some_iff.mp (show ((keyD kd).bind fun k => valD kds k) = some old from hold)
      obtain ⟨p, kvs, Wk, ew, hr, rr, eW, g⟩ := dget_of (.inl rfl) rx (k := kk)
      have hk' := keyD_kV hkk rk
      subst hk'
      have rv := rr.val (k := kk)
      rw [hv] at rv
      obtain ⟨ov, Wo, a1, a2, _, _⟩ := rv
      rw [a1] at g
      exact fin p ov ew g (a2.flat hc.2.2.1)
    | dtt kds =>
      obtain ⟨kk, hkk, hv⟩ := Option.bind_eq_some_iff.mp (show ((keyT kd).bind fun k => valD kds k) = some old from hold)
      obtain ⟨p, kvs, Wk, ew, hr, rr, eW, gg⟩ := dgetT_of rx (k := kk)
      obtain ⟨bb, hk', hbb⟩ := keyT_kV hkk rk
      have g := gg bb hbb
      subst hk'
      have rv := rr.val (k := kk)
      rw [hv] at rv
      obtain ⟨ov, Wo, a1, a2, _, _⟩ := rv
      rw [a1] at g
      exact fin p ov ew g (a2.flat hc.2.2.1)
    | lst _ => cases hL'
    | non => exact absurd hc.2.2.2 Bool.false_ne_true
    | bl _ => exact absurd hc.2.2.2 Bool.false_ne_true
    | int _ => exact absurd hc.2.2.2 Bool.false_ne_true
    | str _ => exact absurd hc.2.2.2 Bool.false_ne_true
    | tup _ => exact absurd hc.2.2.2 Bool.false_ne_true
    | rol _ => exact absurd hc.2.2.2 Bool.false_ne_true
    | rod _ => exact absurd hc.2.2.2 Bool.false_ne_true⟩
end
end VL

/-! VLP: how the readings are worked out: bundles of rules for simp; loops by what stays true. -/
namespace VL
open PySem PySem.Spec L2

theorem bs {α β : Type} (a : α) (f : α → Option β) : (some a).bind f = f a := rfl
theorem bn {α β : Type} (f : α → Option β) : (none : Option α).bind f = none := rfl
theorem ift {α : Type} (a b : α) : (if true = true then a else b) = a := if_pos rfl
theorem iff' {α : Type} (a b : α) : (if false = true then a else b) = b := if_neg Bool.false_ne_true
/-- expressions -/
theorem rE :
    (∀ (d : D) (e : Ev), eC d e = some (d, e)) ∧
    (∀ (i : Nat) (e : Ev), eV i e = match e[i]? with | some (some d) => some (d, e) | _ => none) ∧
    (∀ (i : Nat) (e : Ev), eMv i e = match e[i]? with | some (some d) => some (d, e.set i none) | _ => none) ∧
    (∀ (f : Ev → Option (D × Ev)) (e : Ev), eLf f e = (f e).bind fun p => if lf p.1 = true then some p else none) ∧
    (∀ (g : D → D → Option D) (f h : Ev → Option (D × Ev)) (e : Ev), eOp g f h e = (f e).bind fun p => (h p.2).bind fun q => (g p.1 q.1).bind fun z => some (z, q.2)) ∧
    (∀ (g : D → Option D) (f : Ev → Option (D × Ev)) (e : Ev), eUn g f e = (f e).bind fun p => (g p.1).bind fun z => some (z, p.2)) ∧
    (∀ (e : Ev), aNil e = some ([], e)) ∧
    (∀ (f : Ev → Option (D × Ev)) (g : Ev → Option (List D × Ev)) (e : Ev), aCons f g e = (f e).bind fun p => (g p.2).bind fun q => some (p.1 :: q.1, q.2)) ∧
    (∀ (g : Ev → Option (List D × Ev)) (e : Ev), eTup g e = (g e).bind fun p => if p.1.length ≤ sizeLine then some (.tup p.1, p.2) else none) ∧
    (∀ (g : Ev → Option (List D × Ev)) (e : Ev), eLst g e = (g e).bind fun p => if p.1.length ≤ sizeLine then some (.lst p.1, p.2) else none) ∧
    (∀ (c : Ev → Option (Bool × Ev)) (f g : Ev → Option (D × Ev)) (e : Ev), eIf c f g e = (c e).bind fun p => if p.1 = true then f p.2 else g p.2) ∧
    (∀ (f : Ev → Option (Bool × Ev)) (e : Ev), eT f e = (f e).bind fun p => some (.bl p.1, p.2)) ∧
    (∀ (g : List D → Option D) (fs : Ev → Option (List D × Ev)) (e : Ev), eB g fs e = (fs e).bind fun p => (g p.1).bind fun z => some (z, p.2)) ∧
    (∀ (T : String) (f : Ev → Option (D × Ev)) (e : Ev), eIsi T f e = (f e).bind fun p => some (.bl (isi T p.1), p.2)) ∧
    (∀ (g g' : D → D → Option D) (fa fb fc : Ev → Option (D × Ev)) (e : Ev), eChain g g' fa fb fc e = (fa e).bind fun p => (fb p.2).bind fun q => (g p.1 q.1).bind fun z => match z with | .bl true => (fc q.2).bind fun r => (g' q.1 r.1).bind fun y => some (y, r.2) | .bl false => some (.bl false, q.2) | _ => none) ∧
    (∀ (f : Ev → Option (D × Ev)) (e : Ev), tV f e = (f e).bind fun p => match p.1 with | .bl b => some (b, p.2) | _ => none) ∧
    (∀ (f : Ev → Option (Bool × Ev)) (e : Ev), tN f e = (f e).bind fun p => some (!p.1, p.2)) ∧
    (∀ (f g : Ev → Option (Bool × Ev)) (e : Ev), tA f g e = (f e).bind fun p => if p.1 = true then g p.2 else some (false, p.2)) ∧
    (∀ (f g : Ev → Option (Bool × Ev)) (e : Ev), tO f g e = (f e).bind fun p => if p.1 = true then some (true, p.2) else g p.2) ∧
    (∀ (e : Ev), tY e = some (true, e)) ∧
    (∀ (e : Ev), oN e = some (none, e)) ∧
    (∀ (f : Ev → Option (D × Ev)) (e : Ev), oS f e = (f e).bind fun p => match p.1 with | .int i => some (some i, p.2) | _ => none) ∧
    (∀ (f : Ev → Option (D × Ev)) (g h : Po) (e : Ev), eSl f g h e = (f e).bind fun p => (g p.2).bind fun q => (h q.2).bind fun r => (dSl p.1 q.1 r.1).bind fun z => some (z, r.2)) ∧
    (∀ (i : Nat) (g : Ev → Option (List D × Ev)) (e : Ev), bNm i g e = match e[i]? with | some (some _) => (g e).bind fun q => some (.non :: q.1, q.2) | _ => none) ∧
    (∀ (F : Fn) (bw : List (Nat × Nat)) (sh : List (Option Nat)) (fb : Ev → Option (List D × Ev)) (e : Ev), eCall F bw sh fb e = (fb e).bind fun p => (rsv sh p.1 p.2).bind fun ds => (F ds).bind fun q => some (q.1, wrb bw q.2 p.2)) ∧
    (∀ (ds : List D) (e : Ev), wrb [] ds e = e) ∧
    (∀ (k i : Nat) (b : List (Nat × Nat)) (ds : List D) (e : Ev), wrb ((k, i) :: b) ds e = wrb b ds (e.set i (ds[k]?))) ∧
    (∀ (e : Ev), rsv [] [] e = some []) ∧
    (∀ (i : Nat) (sh : List (Option Nat)) (d : D) (ds : List D) (e : Ev), rsv (some i :: sh) (d :: ds) e = match e[i]? with | some (some d) => (rsv sh ds e).bind fun r => some (d :: r) | _ => none) ∧
    (∀ (sh : List (Option Nat)) (d : D) (ds : List D) (e : Ev), rsv (none :: sh) (d :: ds) e = (rsv sh ds e).bind fun r => some (d :: r)) ∧
    (∀ (i : Nat) (g : D → List D → Option (D × D)) (fs : Ev → Option (List D × Ev)) (e : Ev), eMeth i g fs e = match e[i]? with | some (some x0) => if isL x0 = true then (fs e).bind fun p => match p.2[i]? with | some (some x) => (g x p.1).bind fun q => some (q.1, p.2.set i (some q.2)) | _ => none else none | _ => none) ∧
    (∀ (i : Nat) (fk : Ev → Option (D × Ev)) (g : D → List D → Option (D × D)) (fs : Ev → Option (List D × Ev)) (e : Ev), eMethIx i fk g fs e = (slotL e i).bind fun ds0 => (fk e).bind fun p => (asInt p.1).bind fun k => (atI ds0 k).bind fun y0 => if isL y0 = true then (fs p.2).bind fun q => (slotL q.2 i).bind fun ds => (ixN ds.length k).bind fun j => (ds[j]?).bind fun y => (g y q.1).bind fun r => some (r.1, q.2.set i (some (.lst (ds.set j r.2)))) else none) ∧
    (∀ (e : Ev) (i : Nat), slotL e i = match e[i]? with | some (some (.lst ds)) => some ds | _ => none) ∧
    (∀ (i : Int), asInt (.int i) = some i) ∧
    (∀ (fo fk fx : Ev → Option (D × Ev)) (e : Ev), eGet2 fo fk fx e = (fo e).bind fun p => (fk p.2).bind fun q => (fx q.2).bind fun r => (getD p.1 q.1 r.1).bind fun z => some (z, r.2)) ∧
    (∀ (fs : Ev → Option (List D × Ev)) (e : Ev), iRng1 fs e = (fs e).bind fun p => match p.1 with | [.int j] => some (rngD 0 1 j.toNat, p.2) | _ => none) ∧
    (∀ (fs : Ev → Option (List D × Ev)) (e : Ev), iRng2 fs e = (fs e).bind fun p => match p.1 with | [.int i, .int j] => some (rngD i 1 (j - i).toNat, p.2) | _ => none) ∧
    (∀ (f : Ev → Option (D × Ev)) (e : Ev), iSeq f e = (f e).bind fun p => match p.1 with | .lst ds => some (ds, p.2) | .rol ds => some (ds, p.2) | .tup ds => some (ds, p.2) | _ => none) ∧
    (∀ (i : Nat) (e : Ev), iKeyR i e = match e[i]? with | some (some (.rod kds)) => some (keysD kds, e) | _ => none) ∧
    (∀ (ow : List Nat) (fi : Ev → Option (List D × Ev)) (t : Tg) (tt : Ev → Option (Bool × Ev)) (fe : Ev → Option (D × Ev)) (e : Ev), eLc ow fi t tt fe e = (fi e).bind fun p => if p.1.length ≤ sizeLine then (lcL ow t tt fe p.1 p.2).bind fun q => some (.lst q.1, q.2) else none) ∧
    (∀ (f : Ev → Option (D × Ev)) (e : Ev), eRgL f e = (f e).bind fun p => match p.1 with | .int n => if n.natAbs ≤ 1000000 then some (.lst (rngD 0 1 n.toNat), p.2) else none | _ => none) ∧
    (∀ (f : Ev → Option (D × Ev)) (e : Ev), eRgT f e = (f e).bind fun p => match p.1 with | .int n => if n.natAbs ≤ 1000000 then some (.tup (rngD 0 1 n.toNat), p.2) else none | _ => none) ∧
    (∀ (f : Ev → Option (D × Ev)) (e : Ev), eRev f e = (f e).bind fun p => match p.1 with | .lst ds => if lfs ds = true then some (.lst ds.reverse, p.2) else none | _ => none) ∧
    (∀ (fo fk : Ev → Option (D × Ev)) (e : Ev), eGet1 fo fk e = (fo e).bind fun p => (fk p.2).bind fun q => (getD p.1 q.1 .non).bind fun z => some (z, q.2)) := by
  refine ⟨?_, ?_, ?_, ?_, ?_, ?_, ?_, ?_, ?_, ?_, ?_, ?_, ?_, ?_, ?_, ?_, ?_, ?_, ?_, ?_, ?_, ?_, ?_, ?_, ?_, ?_, ?_, ?_, ?_, ?_, ?_, ?_, ?_, ?_, ?_, ?_, ?_, ?_, ?_, ?_, ?_, ?_, ?_, ?_⟩ <;> (intros; rfl)
/-- statements -/
theorem rS :
    (∀ (e : Ev), sNil e = some (.nx e)) ∧
    (∀ (e : Ev), sBk e = some (.bk e)) ∧
    (∀ (e : Ev), sCt e = some (.ct e)) ∧
    (∀ (f g : Ev → Option Out) (e : Ev), sSeq f g e = (f e).bind fun o => match o with | .nx e => g e | o => some o) ∧
    (∀ (f : Ev → Option (D × Ev)) (e : Ev), sDrop f e = (f e).bind fun p => some (.nx p.2)) ∧
    (∀ (f : Ev → Option (D × Ev)) (e : Ev), sRet f e = (f e).bind fun p => some (.rt p.1 p.2)) ∧
    (∀ (c : Ev → Option (Bool × Ev)) (f g : Ev → Option Out) (e : Ev), sIf c f g e = (c e).bind fun p => if p.1 = true then f p.2 else g p.2) ∧
    (∀ (i : Nat) (d : D) (e : Ev), gN i d e = if i < e.length then some (e.set i (some d)) else none) ∧
    (∀ (e : Ev), gsNil [] e = some e) ∧
    (∀ (t : Tg) (u : Tgs) (d : D) (r : List D) (e : Ev), gsCons t u (d :: r) e = (t d e).bind fun e => u r e) ∧
    (∀ (n : Nat) (u : Tgs) (ds : List D) (e : Ev), gT n u (.tup ds) e = if ds.length = n then u ds e else none) ∧
    (∀ (f : Ev → Option (D × Ev)) (t : Tg) (e : Ev), sAsg f t e = (f e).bind fun p => (t p.1 p.2).bind fun e => some (.nx e)) ∧
    (∀ (f : Ev → Option (List D × Ev)) (t : Tg) (b : Ev → Option Out) (e : Ev), sFor f t b e = (f e).bind fun p => if lfs p.1 = true then forL t b p.1 p.2 else none) ∧
    (∀ (n : Nat) (c : Ev → Option (Bool × Ev)) (b : Ev → Option Out) (e : Ev), sWh n c b e = whL c b n e) ∧
    (∀ (i j : Nat) (fs : Ev → Option (List D × Ev)) (e : Ev), sPar i j fs e = (fs e).bind fun p => match p.1 with | [a, b] => if i < p.2.length ∧ j < p.2.length then some (.nx ((p.2.set i (some a)).set j (some b))) else none | _ => none) ∧
    (∀ (i : Nat) (fv fk : Ev → Option (D × Ev)) (e : Ev), sSub i fv fk e = (fv e).bind fun p => match p.2[i]? with | some (some _) => (fk p.2).bind fun q => (match q.2[i]? with | some (some x) => (setD x q.1 p.1).bind fun y => some (.nx (q.2.set i (some y))) | _ => none) | _ => none) ∧
    (∀ (i : Nat) (fv fk fj : Ev → Option (D × Ev)) (e : Ev), sSubIx i fv fk fj e = (fv e).bind fun u => (slotL u.2 i).bind fun ds0 => (fk u.2).bind fun p => (asInt p.1).bind fun k => (atI ds0 k).bind fun y0 => if isL y0 = true then (fj p.2).bind fun q => (slotL q.2 i).bind fun ds => (ixN ds.length k).bind fun j => (ds[j]?).bind fun y => (setD y q.1 u.1).bind fun z => some (.nx (q.2.set i (some (.lst (ds.set j z))))) else none) ∧
    (∀ (i : Nat) (f : Ev → Option (D × Ev)) (e : Ev), sExt i f e = (slotL e i).bind fun _ => (f e).bind fun p => match p.1 with | .lst zs => (slotL p.2 i).bind fun xs => if lfs zs = true ∧ xs.length + zs.length ≤ sizeLine then some (.nx (p.2.set i (some (.lst (xs ++ zs))))) else none | _ => none) ∧
    (∀ (i : Nat) (g : Ev → Option Out) (e : Ev), sLock i g e = match e[i]? with | some (some (.dct kds)) => (g (e.set i (some (.rod kds)))).bind fun o => (match o with | .nx e => (unL i e).bind fun e => some (.nx e) | .rt d e => (unL i e).bind fun e => some (.rt d e) | .bk e => (unL i e).bind fun e => some (.bk e) | .ct e => (unL i e).bind fun e => some (.ct e)) | _ => none) ∧
    (∀ (i : Nat) (e : Ev), unL i e = match e[i]? with | some (some (.rod kds)) => some (e.set i (some (.dct kds))) | _ => none) ∧
    (∀ (i : Nat) (fk : Ev → Option (D × Ev)) (g : D → D → Option D) (fe : Ev → Option (D × Ev)) (e : Ev), sAugI i fk g fe e = (slotD e i).bind fun _ => (fk e).bind fun p => (slotD p.2 i).bind fun x1 => (dIxA x1 p.1).bind fun old => (fe p.2).bind fun q => (g old q.1).bind fun new => (slotD q.2 i).bind fun x2 => if isL x1 = isL x2 ∧ lf p.1 = true ∧ lf old = true ∧ mtD x1 = true then (setD x2 p.1 new).bind fun x3 => some (.nx (q.2.set i (some x3))) else none) ∧
    (∀ (e : Ev) (i : Nat), slotD e i = match e[i]? with | some (some d) => some d | _ => none) := by
  refine ⟨?_, ?_, ?_, ?_, ?_, ?_, ?_, ?_, ?_, ?_, ?_, ?_, ?_, ?_, ?_, ?_, ?_, ?_, ?_, ?_, ?_, ?_⟩ <;> (intros; rfl)
/-- the environment as a row of slots -/
theorem rL {α : Type} : (∀ (a : α) (l : List α), (a :: l)[0]? = some a) ∧ (∀ (a : α) (l : List α) (i : Nat), (a :: l)[i + 1]? = l[i]?) ∧ (∀ (a b : α) (l : List α), (a :: l).set 0 b = b :: l) ∧ (∀ (a b : α) (l : List α) (i : Nat), (a :: l).set (i + 1) b = a :: l.set i b) :=
  ⟨fun _ _ => rfl, fun _ _ _ => rfl, fun _ _ _ => rfl, fun _ _ _ _ => rfl⟩

/-! ### statement by statement -/
theorem seq_go {f g : Ev → Option Out} {e e1 : Ev} {o : Option Out} (h : f e = some (.nx e1)) (h2 : g e1 = o) : sSeq f g e = o := by
  show (f e).bind _ = o
  rw [h]
  exact h2
theorem asg_go {f : Ev → Option (D × Ev)} {i : Nat} {d : D} {e e1 : Ev} (h : f e = some (d, e1)) (hi : i < e1.length) : sAsg f (gN i) e = some (.nx (e1.set i (some d))) := by
  show (f e).bind _ = _
  rw [h]
  show (if i < e1.length then some (e1.set i (some d)) else none).bind _ = _
  rw [if_pos hi]
  rfl
theorem for_go {f : Ev → Option (List D × Ev)} {t : Tg} {b : Ev → Option Out} {ds : List D} {e e1 : Ev} {o : Option Out} (h : f e = some (ds, e1)) (hl : lfs ds = true) (h2 : forL t b ds e1 = o) : sFor f t b e = o := by
  show (f e).bind _ = o
  rw [h]
  exact (if_pos hl).trans h2
theorem if_go {c : Ev → Option (Bool × Ev)} {f g : Ev → Option Out} {b : Bool} {e e1 : Ev} {o : Option Out} (h : c e = some (b, e1)) (h2 : (if b = true then f e1 else g e1) = o) : sIf c f g e = o := by
  show (c e).bind _ = o
  rw [h]
  exact h2
theorem ret_go {f : Ev → Option (D × Ev)} {d : D} {e e1 : Ev} (h : f e = some (d, e1)) : sRet f e = some (.rt d e1) := by
  show (f e).bind _ = _
  rw [h]
  rfl
theorem run_go {np n : Nat} {rb : List Nat} {g : Ev → Option Out} {ds : List D} {d : D} {e : Ev} (hl : ds.length = np ∧ lfAt rb ds = true) (h : g (ds.map some ++ List.replicate (n - np) none) = some (.rt d e)) : runF np n [] rb g ds = some (d, ds) := by
  unfold runF
  rw [if_pos hl, h]
  rfl
theorem run_mu {np n : Nat} {mu rb : List Nat} {g : Ev → Option Out} {ds ds' : List D} {d : D} {e : Ev} (hl : ds.length = np ∧ lfAt rb ds = true) (h : g (ds.map some ++ List.replicate (n - np) none) = some (.rt d e)) (hm : mu ≠ []) (hf : fin mu 0 ds e = some ds') : runF np n mu rb g ds = some (d, ds') := by
  unfold runF
  rw [if_pos hl, h]
  show ((if mu = [] then some ds else fin mu 0 ds e).bind fun ds2 => some (d, ds2)) = _
  rw [if_neg hm, hf]
  rfl
/-! ### loops -/
section
variable {t : Tg} {b : Ev → Option Out}
theorem forL_nil (e : Ev) : forL t b [] e = some (.nx e) := rfl
theorem forL_cons (d : D) (ds : List D) (e : Ev) : forL t b (d :: ds) e = (t d e).bind fun e1 => (b e1).bind fun o => match o with
    | .nx e2 => forL t b ds e2
    | .ct e2 => forL t b ds e2
    | .bk e2 => some (.nx e2)
    | .rt r e2 => some (.rt r e2) := by
  show ((t d e).bind fun e1 => (b e1).bind _) = _
  cases t d e with
  | none => rfl
  | some e1 =>
    show ((b e1).bind _) = ((b e1).bind _)
    cases b e1 with
    | none => rfl
    | some o => cases o <;> rfl
theorem forL_go {d : D} {ds : List D} {e e2 : Ev} (h : ((t d e).bind b) = some (.nx e2)) : forL t b (d :: ds) e = forL t b ds e2 := by
  obtain ⟨e1, h1, h2⟩ := Option.bind_eq_some_iff.mp h
  rw [forL_cons, h1, bs, h2, bs]
theorem forL_inv {I : Nat → Ev → Prop} : ∀ (ds : List D) (k : Nat) (e : Ev), I k e → (∀ j d e, ds[j]? = some d → I (k + j) e → ∃ e2, ((t d e).bind b) = some (.nx e2) ∧ I (k + j + 1) e2) → ∃ e2, forL t b ds e = some (.nx e2) ∧ I (k + ds.length) e2
  | [], k, e, h, _ => ⟨e, rfl, h⟩
  | d :: ds, k, e, h, st => by
    obtain ⟨e2, h1, h2⟩ := st 0 d e rfl h
    obtain ⟨e3, h3, h4⟩ := forL_inv (I := I) ds (k + 1) e2 h2 fun j d e hj hI => by
      have := st (j + 1) d e hj (by rw [show k + (j + 1) = k + 1 + j by omega]; exact hI)
      rw [show k + (j + 1) + 1 = k + 1 + j + 1 by omega] at this
      exact this
    refine ⟨e3, by rw [forL_go h1]; exact h3, ?_⟩
    rw [List.length_cons, show k + (ds.length + 1) = k + 1 + ds.length by omega]
    exact h4
/-- by what stays true, from turn 0 -/
theorem forL_rel (I : Nat → Ev → Prop) {ds : List D} {e : Ev} (h : I 0 e) (st : ∀ j d e, ds[j]? = some d → I j e → ∃ e2, ((t d e).bind b) = some (.nx e2) ∧ I (j + 1) e2) : ∃ e2, forL t b ds e = some (.nx e2) ∧ I ds.length e2 := by
  obtain ⟨e2, h1, h2⟩ := forL_inv (I := I) ds 0 e h fun j d e hj hI => by
    rw [Nat.zero_add] at hI ⊢
    exact st j d e hj hI
  rw [Nat.zero_add] at h2
  exact ⟨e2, h1, h2⟩
end
theorem rng_at {lo c : Int} {n j : Nat} {d : D} (h : (rngD lo c n)[j]? = some d) : j < n ∧ d = .int (lo + (j : Int) * c) := rng_get h
theorem lfs_rng (lo c : Int) (n : Nat) : lfs (rngD lo c n) = true := lfs_iff.mpr fun d hd => by
  unfold rngD at hd
  obtain ⟨k, _, e⟩ := List.mem_map.mp hd
  rw [← e]; rfl
theorem rng_succ (lo : Int) (n : Nat) : rngD lo 1 (n + 1) = .int lo :: rngD (lo + 1) 1 n := by
  unfold rngD
  rw [List.range_succ_eq_map, List.map_cons, List.map_map]
  congr 1
  · rw [show ((0 : Nat) : Int) * 1 = 0 by rfl, Int.add_zero]
  · refine List.map_congr_left fun k _ => ?_
    show D.int _ = D.int _
    congr 1
    show lo + ((k + 1 : Nat) : Int) * 1 = lo + 1 + (k : Int) * 1
    omega
theorem rng_zero (lo c : Int) : rngD lo c 0 = [] := rfl
section
variable {ow : List Nat} {t : Tg} {tt : Ev → Option (Bool × Ev)} {fe : Ev → Option (D × Ev)}
theorem lcL_nil (e : Ev) : lcL ow t tt fe [] e = some ([], e) := rfl
theorem lcL_cons (d : D) (ds : List D) (e : Ev) : lcL ow t tt fe (d :: ds) e = (t d (wipeE e ow)).bind fun e1 => (tt e1).bind fun p => if p.1 = true then (fe p.2).bind fun q => (lcL ow t tt fe ds (restE e q.2 ow)).bind fun r => some (q.1 :: r.1, r.2)
      else lcL ow t tt fe ds (restE e p.2 ow) := rfl
/-- nothing changes but the block's own names: the plain map -/
theorem lcL_map (g : D → D) (ds : List D) (e : Ev) (h : ∀ d ∈ ds, ∃ e1 e3, t d (wipeE e ow) = some e1 ∧ fe e1 = some (g d, e3) ∧ restE e e3 ow = e) : lcL ow t tY fe ds e = some (ds.map g, e) := by
  induction ds with
  | nil => rfl
  | cons d ds ih =>
    obtain ⟨e1, e3, h1, h2, h3⟩ := h d List.mem_cons_self
    rw [lcL_cons, h1, bs, rE.2.2.2.2.2.2.2.2.2.2.2.2.2.2.2.2.2.2.2.1, bs, if_pos rfl, h2, bs, h3, ih fun d hd => h d (List.mem_cons_of_mem _ hd)]
    rfl
theorem lcL_filter (p : D → Bool) (g : D → D) (ds : List D) (e : Ev) (h : ∀ d ∈ ds, ∃ e1 e2, t d (wipeE e ow) = some e1 ∧ tt e1 = some (p d, e2) ∧ restE e e2 ow = e ∧ (p d = true → ∃ e3, fe e2 = some (g d, e3) ∧ restE e e3 ow = e)) : lcL ow t tt fe ds e = some ((ds.filter p).map g, e) := by
  induction ds with
  | nil => rfl
  | cons d ds ih =>
    obtain ⟨e1, e2, h1, h2, h3, h4⟩ := h d List.mem_cons_self
    have ih' := ih fun d hd => h d (List.mem_cons_of_mem _ hd)
    rw [lcL_cons, h1, bs, h2, bs]
    by_cases hp : p d = true
    · obtain ⟨e3, h5, h6⟩ := h4 hp
      rw [if_pos hp, h5, bs, h6, ih', List.filter_cons_of_pos hp]
      rfl
    · rw [if_neg hp, h3, ih', List.filter_cons_of_neg hp]
/-- turn by turn -/
theorem lcL_rel (I : Nat → List D → Ev → Prop) : ∀ (ds : List D) (k : Nat) (out : List D) (e : Ev), I k out e → (∀ j d out e, ds[j]? = some d → I (k + j) out e → ∃ r e', lcL ow t tt fe [d] e = some (r, e') ∧ I (k + j + 1) (out ++ r) e') → ∃ r e', lcL ow t tt fe ds e = some (r, e') ∧ I (k + ds.length) (out ++ r) e'
  | [], k, out, e, h, _ => ⟨[], e, rfl, by rw [List.append_nil]; exact h⟩
  | d :: ds, k, out, e, h, st => by
    obtain ⟨r, e', h1, h2⟩ := st 0 d out e rfl h
    obtain ⟨r2, e2, h3, h4⟩ := lcL_rel I ds (k + 1) (out ++ r) e' h2 fun j d out e hj hI => by
      have := st (j + 1) d out e hj (by rw [show k + (j + 1) = k + 1 + j by omega]; exact hI)
      rw [show k + (j + 1) + 1 = k + 1 + j + 1 by omega] at this
      exact this
    refine ⟨r ++ r2, e2, ?_, ?_⟩
    · rw [lcL_cons] at h1 ⊢
      obtain ⟨e1, a1, h1⟩ := Option.bind_eq_some_iff.mp h1
      obtain ⟨⟨p, ep⟩, a2, h1⟩ := Option.bind_eq_some_iff.mp h1
      rw [a1, bs, a2, bs]
      by_cases hp : p = true
      · rw [if_pos hp] at h1 ⊢
        obtain ⟨⟨q, eq⟩, a3, h1⟩ := Option.bind_eq_some_iff.mp h1
        rw [a3, bs]
        rw [lcL_nil, bs] at h1
        cases h1
        rw [h3]
        rfl
      · rw [if_neg hp] at h1 ⊢
        rw [lcL_nil] at h1
        cases h1
        exact h3
    · rw [List.length_cons, show k + (ds.length + 1) = k + 1 + ds.length by omega, ← List.append_assoc]
      exact h4
end
theorem szl {n : Nat} (h : n ≤ 1000000) : n ≤ sizeLine := Nat.le_trans h (by decide)
theorem szl' {n : Nat} (h : n < 1000000) : n < sizeLine := Nat.lt_of_lt_of_le h (by decide)
theorem mulOk_r {i j : Int} (h : j.natAbs < 2 ^ 64) : mulOk i j = true := by
  unfold mulOk
  rw [decide_eq_true h]
  simp
theorem mulOk_l {i j : Int} (h : i.natAbs < 2 ^ 64) : mulOk i j = true := by
  unfold mulOk
  rw [decide_eq_true h]
  simp
/-- operations over plain values -/
theorem rO :
    (∀ (i j : Int), dAdd (.int i) (.int j) = some (.int (i + j))) ∧
    (∀ (a b : List D), dAdd (.lst a) (.lst b) = if lfs a = true ∧ lfs b = true ∧ a.length + b.length ≤ sizeLine then some (.lst (a ++ b)) else none) ∧
    (∀ (a b : List D), dAdd (.tup a) (.tup b) = if lfs a = true ∧ lfs b = true ∧ a.length + b.length ≤ sizeLine then some (.tup (a ++ b)) else none) ∧
    (∀ (a b : Str), dAdd (.str a) (.str b) = if a.length + b.length ≤ sizeLine then some (.str (a ++ b)) else none) ∧
    (∀ (i j : Int), dIAdd (.int i) (.int j) = some (.int (i + j))) ∧
    (∀ (i j : Int), dISub (.int i) (.int j) = some (.int (i - j))) ∧
    (∀ (i j : Int), dSub (.int i) (.int j) = some (.int (i - j))) ∧
    (∀ (i j : Int), dMul (.int i) (.int j) = if mulOk i j = true then some (.int (i * j)) else none) ∧
    (∀ (i j : Int), dDiv (.int i) (.int j) = if 0 < j ∧ j.natAbs.log2 < 9000 then some (.int (i / j)) else none) ∧
    (∀ (i j : Int), dMod (.int i) (.int j) = if 0 < j then some (.int (i % j)) else none) ∧
    (∀ (i j : Int), dXor (.int i) (.int j) = some (.int (Builtin.bitXor i j))) ∧
    (∀ (i : Int), dNeg (.int i) = some (.int (-i))) ∧
    (∀ (i j : Int), dEq (.int i) (.int j) = some (.bl (decide (i = j)))) ∧
    (∀ (i j : Int), dNe (.int i) (.int j) = some (.bl (!decide (i = j)))) ∧
    (∀ (i j : Str), dEq (.str i) (.str j) = some (.bl (decide (i = j)))) ∧
    (∀ (i j : Str), dNe (.str i) (.str j) = some (.bl (!decide (i = j)))) ∧
    (∀ (i j : Bool), dEq (.bl i) (.bl j) = some (.bl (decide (i = j)))) ∧
    (dEq .non .non = some (.bl true)) ∧
    (∀ (j : Int), dEq .non (.int j) = some (.bl false)) ∧
    (∀ (j : Int), dEq (.int j) .non = some (.bl false)) ∧
    (∀ (i j : Int), dLt (.int i) (.int j) = some (.bl (decide (i < j)))) ∧
    (∀ (i j : Int), dLe (.int i) (.int j) = some (.bl (decide (i ≤ j)))) ∧
    (∀ (i j : Int), dGt (.int i) (.int j) = some (.bl (decide (j < i)))) ∧
    (∀ (i j : Int), dGe (.int i) (.int j) = some (.bl (decide (j ≤ i)))) ∧
    (∀ (x : D), dIsN x .non = some (.bl (isNon x))) ∧
    (∀ (x : D), dNotN x .non = some (.bl (!isNon x))) ∧
    (isNon .non = true) ∧
    (∀ (i : Int), isNon (.int i) = false) ∧
    (∀ (i : Str), isNon (.str i) = false) ∧
    (∀ (i : List D), isNon (.tup i) = false) ∧
    (∀ (a : List D) (i : Int), dIx (.lst a) (.int i) = atI a i) ∧
    (∀ (a : List D) (i : Int), dIx (.rol a) (.int i) = atI a i) ∧
    (∀ (a : List D) (i : Int), dIx (.tup a) (.int i) = atI a i) ∧
    (∀ (a : List (Key × D)) (y : D), dIxA (.dct a) y = (keyD y).bind fun k => valD a k) ∧
    (∀ (a : List (Key × D)) (y : D), dIxA (.rod a) y = (keyD y).bind fun k => valD a k) ∧
    (∀ (i : Int), keyD (.int i) = some (.inl i)) ∧
    (∀ (i : Str), keyD (.str i) = some (.inr i)) ∧
    (∀ (z : Str), gLen [.str z] = if z.length ≤ sizeLine then some (.int z.length) else none) ∧
    (∀ (a : List D), gLen [.lst a] = some (.int a.length)) ∧
    (∀ (a : List D), gLen [.rol a] = some (.int a.length)) ∧
    (∀ (a : List D), gLen [.tup a] = some (.int a.length)) ∧
    (∀ (a : List (Key × D)), gLen [.dct a] = some (.int a.length)) ∧
    (∀ (a : List (Key × D)), gLen [.rod a] = some (.int a.length)) ∧
    (∀ (i : Int), gInt [.int i] = some (.int i)) ∧
    (∀ (i : Bool), gInt [.bl i] = some (.int (if i = true then 1 else 0))) ∧
    (∀ (i : Int), gAbs [.int i] = some (.int (if i < 0 then -i else i))) ∧
    (∀ (i j : Int), gMaxL [.int i, .int j] = some (.int (if j > i then j else i))) ∧
    (∀ (i j : Int), gMinL [.int i, .int j] = some (.int (if j < i then j else i))) ∧
    (∀ (a : List D), gTuple [.lst a] = if lfs a = true then some (.tup a) else none) ∧
    (∀ (a : List D), gTuple [.tup a] = if lfs a = true then some (.tup a) else none) ∧
    (∀ (a : List D), gList [.lst a] = if lfs a = true then some (.lst a) else none) ∧
    (∀ (a : List D), gList [.tup a] = if lfs a = true then some (.lst a) else none) ∧
    (∀ (a : List D), gList [.rol a] = if lfs a = true then some (.lst a) else none) ∧
    (∀ (a : List D), isL (.lst a) = true) ∧
    (∀ (a : List D) (d : D), mApp (.lst a) [d] = if a.length < sizeLine then some (.non, .lst (a ++ [d])) else none) ∧
    (∀ (a : List D), mPop (.lst a) [] = (a.getLast?).bind fun d => some (d, .lst a.dropLast)) ∧
    (∀ (a : List D), mRev (.lst a) [] = some (.non, .lst a.reverse)) ∧
    (∀ (a : List D) (d : D), mCnt (.lst a) [d] = if flatD d = true ∧ a.all flatD = true then some (.int (a.countP fun z => eqF z d : Nat), .lst a) else none) ∧
    (∀ (a : List D) (lo hi : Option Int), dSl (.tup a) lo hi = if lfs a = true then some (.tup (cutD a lo hi)) else none) ∧
    (∀ (a : List D) (lo hi : Option Int), dSl (.lst a) lo hi = if lfs a = true then some (.lst (cutD a lo hi)) else none) ∧
    (∀ (a : List D) (i : Int) (v : D), setD (.lst a) (.int i) v = (ixN a.length i).bind fun j => some (.lst (a.set j v))) ∧
    (∀ (a : List (Key × D)) (k v : D), setD (.dct a) k v = (keyD k).bind fun q => if a.length < sizeLine ∧ lf v = true then some (.dct (putD a q v)) else none) ∧
    (∀ (i : Int), lf (.int i) = true) ∧
    (∀ (i : Bool), lf (.bl i) = true) ∧
    (∀ (i : Str), lf (.str i) = true) ∧
    (lf .non = true) ∧
    (∀ (i : List D), lf (.tup i) = lfs i) ∧
    (∀ (i : List D), lf (.lst i) = false) ∧
    (∀ (i : List D), lf (.rol i) = true) ∧
    (lfs [] = true) ∧
    (∀ (d : D) (i : List D), lfs (d :: i) = (lf d && lfs i)) ∧
    (∀ (np n : Nat) (mu rb : List Nat) (g : Ev → Option Out) (ds : List D), runF np n mu rb g ds = if ds.length = np ∧ lfAt rb ds = true then (g (ds.map some ++ List.replicate (n - np) none)).bind fun o => (match o with | .rt d e => (if mu = [] then some ds else fin mu 0 ds e).bind fun ds2 => some (d, ds2) | .nx e => (if mu = [] then some ds else fin mu 0 ds e).bind fun ds2 => some (.non, ds2) | _ => none) else none) ∧
    (∀ (ds : List D), lfAt [] ds = true) ∧
    (∀ (mu : List Nat) (k : Nat) (e : Ev), fin mu k [] e = some []) ∧
    (∀ (mu : List Nat) (k : Nat) (d : D) (ds : List D) (e : Ev), fin mu k (d :: ds) e = if k ∈ mu then (match e[k]? with | some (some y) => (fin mu (k + 1) ds e).bind fun r => some (y :: r) | _ => none) else (fin mu (k + 1) ds e).bind fun r => some (d :: r)) ∧
    (∀ (a : List (List Key × D)) (y : D), dIxA (.dtt a) y = (keyT y).bind fun k => valD a k) ∧
    (∀ (a : List D) (y : D), dIxA (.lst a) y = dIx (.lst a) y) ∧
    (∀ (a : List D) (y : D), dIxA (.tup a) y = dIx (.tup a) y) ∧
    (∀ (a : List (List Key × D)) (y : D), dInA y (.dtt a) = (keyT y).bind fun k => some (.bl (valD a k).isSome)) ∧
    (∀ (a : List (List Key × D)) (y : D), dNotInA y (.dtt a) = (keyT y).bind fun k => some (.bl (!(valD a k).isSome))) ∧
    (∀ (a : List (Key × D)) (y : D), dInA y (.dct a) = (keyD y).bind fun k => some (.bl (valD a k).isSome)) ∧
    (∀ (a : List (Key × D)) (y : D), dNotInA y (.dct a) = (keyD y).bind fun k => some (.bl (!(valD a k).isSome))) ∧
    (∀ (a : List (List Key × D)) (k v : D), setD (.dtt a) k v = (keyT k).bind fun q => if a.length < sizeLine ∧ lf v = true then some (.dtt (putD a q v)) else none) ∧
    (∀ (a : List (List Key × D)), gLen [.dtt a] = some (.int a.length)) ∧
    (∀ (a : List D), keyT (.tup a) = keysD? a) ∧
    (keysD? [] = some []) ∧
    (∀ (d : D) (a : List D), keysD? (d :: a) = (keyD d).bind fun k => (keysD? a).bind fun s => some (k :: s)) ∧
    (∀ (a : List D), mtD (.lst a) = true) ∧
    (∀ (a : List (Key × D)), mtD (.dct a) = true) ∧
    (∀ (a : List (List Key × D)), mtD (.dtt a) = true) ∧
    (∀ (a : List (Key × D)), isL (.dct a) = false) ∧
    (∀ (a : List (List Key × D)), isL (.dtt a) = false) := by
  refine ⟨?_, ?_, ?_, ?_, ?_, ?_, ?_, ?_, ?_, ?_, ?_, ?_, ?_, ?_, ?_, ?_, ?_, ?_, ?_, ?_, ?_, ?_, ?_, ?_, ?_, ?_, ?_, ?_, ?_, ?_, ?_, ?_, ?_, ?_, ?_, ?_, ?_, ?_, ?_, ?_, ?_, ?_, ?_, ?_, ?_, ?_, ?_, ?_, ?_, ?_, ?_, ?_, ?_, ?_, ?_, ?_, ?_, ?_, ?_, ?_, ?_, ?_, ?_, ?_, ?_, ?_, ?_, ?_, ?_, ?_, ?_, ?_, ?_, ?_, ?_, ?_, ?_, ?_, ?_, ?_, ?_, ?_, ?_, ?_, ?_, ?_, ?_, ?_, ?_, ?_, ?_, ?_⟩ <;> (intros; first | rfl | (cases ‹D› <;> rfl))
theorem rB : (∀ {α : Type} (a b : α), (if True then a else b) = a) ∧ (∀ {α : Type} (a b : α), (if False then a else b) = b) ∧ ((false = true) = False) ∧ (∀ (P : Prop), (True ∧ P) = P) ∧ (∀ (P : Prop), (P ∧ True) = P) :=
  ⟨fun _ _ => if_pos trivial, fun _ _ => if_neg id, by simp, fun P => by simp, fun P => by simp⟩
end VL

set_option maxHeartbeats 0
namespace Law
open PySem PySem.Spec L2 VL
variable {P : Program} {w : World} {K : PySem.W.Frag} {mg : Str → Option Value} {base : Heap}
def topS (i : Nat) : Stmt := PySem.Challenge.pw_spanslocked_k74_whole_any_disk_may_go.main.body.getD i (.Pass ⟨0, 0, 0, 0⟩)
/-! _law_draws -/
theorem sc__law_draws : FnScope ["script", "many", "cells", "rest", "draws", "k", "at", "once", "cell"] ["script", "many"] (defScope (topS 13)) := ⟨rfl, rfl, rfl, by decide +kernel, rfl, by decide +kernel, by decide +kernel⟩
def B1__law_draws : Ev → Option Out :=
  (sSeq (sAsg (eOp dMod (eV 5) (eB gLen (aCons (eV 2) aNil))) (gN 6))
  (sIf (tA (tV (eOp dGe (eOp dIx (eV 2) (eV 6)) (eOp dPow (eC (.int 10)) (eC (.int 18))))) (tV (eOp dGt (eOp dIx (eV 3) (eV 6)) (eC (.int 0)))))
  (sSeq (sDrop (eMeth 4 mApp (aCons (eOp dMod (eB gInt (aCons (eOp dIx (eV 3) (eV 6)) aNil)) (eC (.int 1000))) aNil)))
  (sSub 3 (eOp dDiv (eOp dIx (eV 3) (eV 6)) (eC (.int 1000))) (eV 6)))
  (sSeq (sAsg (eOp dMod (eB gInt (aCons (eOp dAdd (eOp dAdd (eOp dMul (eOp dIx (eV 2) (eV 6)) (eC (.int 48271))) (eOp dMul (eV 5) (eC (.int 69621)))) (eC (.int 11))) aNil)) (eC (.int 2147483647))) (gN 7))
  (sDrop (eMeth 4 mApp (aCons (eOp dMod (eB gInt (aCons (eOp dAdd (eOp dAdd (eOp dMul (eV 7) (eV 7)) (eOp dMul (eC (.int 3)) (eV 7))) (eV 5)) aNil)) (eC (.int 1000003))) aNil))))))
def G__law_draws : Ev → Option Out :=
  (sSeq (sAsg (eLc [8] (iSeq (eV 0)) (gN 8) tY (eB gInt (aCons (eV 8) aNil))) (gN 2))
  (sSeq (sIf (tV (eOp dEq (eB gLen (aCons (eV 2) aNil)) (eC (.int 0))))
  (sDrop (eMeth 2 mApp (aCons (eC (.int 0)) aNil)))
  sNil)
  (sSeq (sAsg (eB gList (aCons (eV 2) aNil)) (gN 3))
  (sSeq (sAsg (eLst aNil) (gN 4))
  (sSeq (sFor (iRng1 (aCons (eV 1) aNil)) (gN 5) B1__law_draws)
  (sSeq (sDrop (eMeth 4 mRev aNil))
  (sRet (eMv 4))))))))
def F__law_draws : Fn := runF 2 9 [] [] G__law_draws
theorem c__law_draws {f : Addr} {fd : FuncData} (Fd : L2.Fun K "_law_draws" "_law_draws" (topS 13) f fd) (hm : mg "_law_draws" = some (.ref f)) (hb : Binds K fd ["script", "many"] []) (m_int : mg "int" = none) (m_len : mg "len" = none) (m_list : mg "list" = none) (m_range : mg "range" = none)  : Cal P w K mg base 1 "_law_draws" ["script", "many"] [] F__law_draws :=
  cal_of (k := 0) (A := [2, 3, 4, 5, 6, 7]) (M := [2, 3, 4, 5, 6, 7]) (g := G__law_draws) Fd sc__law_draws hm hb (by decide) (fun _ => rfl) fun cdv Ar outer s H E hr => by
    have hN := sc__law_draws.nd
    exact
  (vss_cons (vs_setLc (own := [("cell", 8)]) (Mi := []) 2 hN (vi_seq (ve_v 0)) (blkOk_by (by rfl)) (fun _ _ _ _ _ => (vg_n 8 hN)) (fun _ _ _ _ _ => vts_nil) (fun _ _ _ _ _ => (ve_callT cs_int m_int b_int (va_cons (Mb := []) (ve_v 8) (va_nil (R := []))))))
  (vss_cons (vs_if (vt_cmp (Mb := []) (ops_eq (r64 hr)) (nomark _) (ve_callB cs_len m_len b_len (va_cons (Mb := []) (ve_v 2) (va_nil (R := [])))) ve_int)
  (vss_one (vs_expr (ve_meth 2 PySem.F.slot_list_append PySem.F.type_list_append ms_app (va_cons (Mb := []) ve_int (va_nil (R := []))))))
  vss_nil)
  (vss_cons (vs_set 3 hN (ve_callT cs_list m_list b_list (va_cons (Mb := []) (ve_v 2) (va_nil (R := [])))))
  (vss_cons (vs_set 4 hN (ve_lst (va_nil (R := []))))
  (vss_cons (vs_for (Mb := [3, 4, 5, 6, 7]) (vi_rng1 m_range (va_cons (Mb := []) (ve_v 1) (va_nil (R := [])))) (vg_n 5 hN)
  (vss_cons (vs_set 6 hN (ve_op (Mb := []) ops_mod (ve_v 5) (ve_callB cs_len m_len b_len (va_cons (Mb := []) (ve_v 2) (va_nil (R := []))))))
  (vss_one (vs_if (vt_vw (vw_and (vt_cmp (Mb := []) ops_ge (nomark _) (ve_ix (Mb := []) ixs (fun _ _ => rfl) (ve_v 2) (ve_v 6)) (ve_op (Mb := []) ops_pow ve_int ve_int)) (vw_and1 (vt_cmp (Mb := []) ops_gt (nomark _) (ve_ix (Mb := []) ixs (fun _ _ => rfl) (ve_v 3) (ve_v 6)) ve_int))))
  (vss_cons (vs_expr (ve_meth 4 PySem.F.slot_list_append PySem.F.type_list_append ms_app (va_cons (Mb := []) (ve_op (Mb := []) ops_mod (ve_callT cs_int m_int b_int (va_cons (Mb := []) (ve_ix (Mb := []) ixs (fun _ _ => rfl) (ve_v 3) (ve_v 6)) (va_nil (R := [])))) ve_int) (va_nil (R := [])))))
  (vss_one (vs_sub (Mb := []) 3 (r64 hr) (ve_op (Mb := []) ops_div (ve_ix (Mb := []) ixs (fun _ _ => rfl) (ve_v 3) (ve_v 6)) ve_int) (ve_v 6))))
  (vss_cons (vs_set 7 hN (ve_op (Mb := []) ops_mod (ve_callT cs_int m_int b_int (va_cons (Mb := []) (ve_op (Mb := []) ops_add (ve_op (Mb := []) ops_add (ve_op (Mb := []) ops_mul (ve_ix (Mb := []) ixs (fun _ _ => rfl) (ve_v 2) (ve_v 6)) ve_int) (ve_op (Mb := []) ops_mul (ve_v 5) ve_int)) ve_int) (va_nil (R := [])))) ve_int))
  (vss_one (vs_expr (ve_meth 4 PySem.F.slot_list_append PySem.F.type_list_append ms_app (va_cons (Mb := []) (ve_op (Mb := []) ops_mod (ve_callT cs_int m_int b_int (va_cons (Mb := []) (ve_op (Mb := []) ops_add (ve_op (Mb := []) ops_add (ve_op (Mb := []) ops_mul (ve_v 7) (ve_v 7)) (ve_op (Mb := []) ops_mul ve_int (ve_v 7))) (ve_v 5)) (va_nil (R := [])))) ve_int) (va_nil (R := [])))))))))))
  (vss_cons (vs_expr (ve_meth0 4 PySem.F.slot_list_reverse PySem.F.type_list_reverse ms_rev))
  (vss_one (vs_ret (ve_mv 4)))))))))
/-! added -/
theorem sc_added : FnScope ["numbers", "found", "number"] ["numbers"] (defScope (topS 1)) := ⟨rfl, rfl, rfl, by decide +kernel, rfl, by decide +kernel, by decide +kernel⟩
def B1_added : Ev → Option Out :=
  (sAsg (eOp dXor (eV 1) (eV 2)) (gN 1))
def G_added : Ev → Option Out :=
  (sSeq (sAsg (eC (.int 0)) (gN 1))
  (sSeq (sFor (iSeq (eV 0)) (gN 2) B1_added)
  (sRet (eLf (eV 1)))))
def F_added : Fn := runF 1 3 [] [] G_added
theorem c_added {f : Addr} {fd : FuncData} (Fd : L2.Fun K "added" "added" (topS 1) f fd) (hm : mg "added" = some (.ref f)) (hb : Binds K fd ["numbers"] [])   : Cal P w K mg base 1 "added" ["numbers"] [] F_added :=
  cal_of (k := 0) (A := [1, 2]) (M := [1, 2]) (g := G_added) Fd sc_added hm hb (by decide) (fun _ => rfl) fun cdv Ar outer s H E hr => by
    have hN := sc_added.nd
    exact
  (vss_cons (vs_set 1 hN ve_int)
  (vss_cons (vs_for (Mb := [1, 2]) (vi_seq (ve_v 0)) (vg_n 2 hN)
  (vss_one (vs_set 1 hN (ve_op (Mb := []) ops_xor (ve_v 1) (ve_v 2)))))
  (vss_one (vs_ret (ve_vf 1)))))
/-! stripes_of -/
theorem sc_stripes_of : FnScope ["n", "values", "found", "first", "row", "place"] ["n", "values"] (defScope (topS 2)) := ⟨rfl, rfl, rfl, by decide +kernel, rfl, by decide +kernel, by decide +kernel⟩
def B1_stripes_of : Ev → Option Out :=
  (sSeq (sAsg (eB gList (aCons (eSl (eV 1) (oS (eV 3)) (oS (eOp dSub (eOp dAdd (eV 3) (eV 0)) (eC (.int 1))))) aNil)) (gN 4))
  (sSeq (sExt 4 (eOp dMul (eLst (aCons (eC (.int 0)) aNil)) (eOp dSub (eOp dSub (eV 0) (eC (.int 1))) (eB gLen (aCons (eV 4) aNil)))))
  (sSeq (sAsg (eOp dMod (eB gLen (aCons (eV 2) aNil)) (eV 0)) (gN 5))
  (sDrop (eMeth 2 mApp (aCons (eB gTuple (aCons (eOp dAdd (eOp dAdd (eSl (eV 4) oN (oS (eV 5))) (eLst (aCons (eCall F_added [] [none] (aCons (eV 4) aNil)) aNil))) (eSl (eV 4) (oS (eV 5)) oN)) aNil)) aNil))))))
def G_stripes_of : Ev → Option Out :=
  (sSeq (sAsg (eLst aNil) (gN 2))
  (sSeq (sFor (iRng3 (aCons (eC (.int 0)) (aCons (eB gLen (aCons (eV 1) aNil)) (aCons (eOp dSub (eV 0) (eC (.int 1))) aNil)))) (gN 3) B1_stripes_of)
  (sRet (eB gTuple (aCons (eV 2) aNil)))))
def F_stripes_of : Fn := runF 2 6 [] [] G_stripes_of
theorem c_stripes_of {f : Addr} {fd : FuncData} (Fd : L2.Fun K "stripes_of" "stripes_of" (topS 2) f fd) (hm : mg "stripes_of" = some (.ref f)) (hb : Binds K fd ["n", "values"] []) (m_len : mg "len" = none) (m_list : mg "list" = none) (m_range : mg "range" = none) (m_tuple : mg "tuple" = none) (C_added : Cal P w K mg base 1 "added" ["numbers"] [] F_added) : Cal P w K mg base 2 "stripes_of" ["n", "values"] [] F_stripes_of :=
  cal_of (k := 1) (A := [2, 3, 4, 5]) (M := [2, 3, 4, 5]) (g := G_stripes_of) Fd sc_stripes_of hm hb (by decide) (fun _ => rfl) fun cdv Ar outer s H E hr => by
    have hN := sc_stripes_of.nd
    exact
  (vss_cons (vs_set 2 hN (ve_lst (va_nil (R := []))))
  (vss_cons (vs_for (Mb := [2, 3, 4, 5]) (vi_rng3 m_range (va_cons (Mb := []) ve_int (va_cons (Mb := []) (ve_callB cs_len m_len b_len (va_cons (Mb := []) (ve_v 1) (va_nil (R := [])))) (va_cons (Mb := []) (ve_op (Mb := []) ops_sub (ve_v 0) ve_int) (va_nil (R := [])))))) (vg_n 3 hN)
  (vss_cons (vs_set 4 hN (ve_callT cs_list m_list b_list (va_cons (Mb := []) (ve_sl (Mb := []) (ve_v 1) (vo_some (ve_v 3)) (vo_some (ve_op (Mb := []) ops_sub (ve_op (Mb := []) ops_add (ve_v 3) (ve_v 0)) ve_int))) (va_nil (R := [])))))
  (vss_cons (vs_ext (Mb := []) 4 hN (ve_op (Mb := []) ops_mul (ve_lst (va_cons (Mb := []) ve_int (va_nil (R := [])))) (ve_op (Mb := []) ops_sub (ve_op (Mb := []) ops_sub (ve_v 0) ve_int) (ve_callB cs_len m_len b_len (va_cons (Mb := []) (ve_v 4) (va_nil (R := [])))))))
  (vss_cons (vs_set 5 hN (ve_op (Mb := []) ops_mod (ve_callB cs_len m_len b_len (va_cons (Mb := []) (ve_v 2) (va_nil (R := [])))) (ve_v 0)))
  (vss_one (vs_expr (ve_meth 2 PySem.F.slot_list_append PySem.F.type_list_append ms_app (va_cons (Mb := []) (ve_callT cs_tuple m_tuple b_tuple (va_cons (Mb := []) (ve_op (Mb := []) ops_add (ve_op (Mb := []) ops_add (ve_sl (Mb := []) (ve_v 4) vo_none (vo_some (ve_v 5))) (ve_lst (va_cons (Mb := []) (ve_call C_added (hr.mono (by omega)) [] (vb_ex (Mb := []) (ve_v 4) vb_nil)) (va_nil (R := []))))) (ve_sl (Mb := []) (ve_v 4) (vo_some (ve_v 5)) vo_none)) (va_nil (R := [])))) (va_nil (R := []))))))))))
  (vss_one (vs_ret (ve_callT cs_tuple m_tuple b_tuple (va_cons (Mb := []) (ve_v 2) (va_nil (R := []))))))))
/-! _law_take -/
theorem sc__law_take : FnScope ["draws", "many"] ["draws", "many"] (defScope (topS 14)) := ⟨rfl, rfl, rfl, by decide +kernel, rfl, by decide +kernel, by decide +kernel⟩
def G__law_take : Ev → Option Out :=
  (sSeq (sIf (tV (eOp dEq (eB gLen (aCons (eV 0) aNil)) (eC (.int 0))))
  (sRet (eC (.int 0)))
  sNil)
  (sRet (eOp dMod (eB gInt (aCons (eMeth 0 mPop aNil) aNil)) (eV 1))))
def F__law_take : Fn := runF 2 2 [0] [] G__law_take
theorem c__law_take {f : Addr} {fd : FuncData} (Fd : L2.Fun K "_law_take" "_law_take" (topS 14) f fd) (hm : mg "_law_take" = some (.ref f)) (hb : Binds K fd ["draws", "many"] []) (m_int : mg "int" = none) (m_len : mg "len" = none)  : Cal P w K mg base 1 "_law_take" ["draws", "many"] [0] F__law_take :=
  cal_of (k := 0) (A := []) (M := [0]) (g := G__law_take) Fd sc__law_take hm hb (by decide) (fun _ => rfl) fun cdv Ar outer s H E hr => by
    have hN := sc__law_take.nd
    exact
  (vss_cons (vs_if (vt_cmp (Mb := []) (ops_eq (r64 hr)) (nomark _) (ve_callB cs_len m_len b_len (va_cons (Mb := []) (ve_v 0) (va_nil (R := [])))) ve_int)
  (vss_one (vs_ret ve_int))
  vss_nil)
  (vss_one (vs_ret (ve_op (Mb := []) ops_mod (ve_callT cs_int m_int b_int (va_cons (Mb := []) (ve_meth0 0 PySem.F.slot_list_pop PySem.F.type_list_pop ms_pop) (va_nil (R := [])))) (ve_v 1)))))
/-! _law_size -/
theorem sc__law_size : FnScope ["draws", "script", "kind", "number"] ["draws", "script"] (defScope (topS 16)) := ⟨rfl, rfl, rfl, by decide +kernel, rfl, by decide +kernel, by decide +kernel⟩
def G__law_size : Ev → Option Out :=
  (sSeq (sAsg (eCall F__law_take [(0, 0)] [some 0, none] (bNm 0 (aCons (eC (.int 4)) aNil))) (gN 2))
  (sSeq (sAsg (eCall F__law_take [(0, 0)] [some 0, none] (bNm 0 (aCons (eC (.int 1000)) aNil))) (gN 3))
  (sSeq (sIf (tV (eOp dEq (eV 2) (eC (.int 1))))
  (sAsg (eOp dAdd (eV 3) (eOp dMul (eOp dAdd (eC (.int 1)) (eCall F__law_take [(0, 0)] [some 0, none] (bNm 0 (aCons (eC (.int 1000)) aNil)))) (eOp dPow (eC (.int 10)) (eC (.int 15))))) (gN 3))
  sNil)
  (sSeq (sIf (tA (tV (eOp dEq (eV 2) (eC (.int 2)))) (tV (eOp dGt (eB gLen (aCons (eV 1) aNil)) (eC (.int 0)))))
  (sAsg (eOp dAdd (eV 3) (eOp dMod (eB gInt (aCons (eB gAbs (aCons (eB gInt (aCons (eOp dIx (eV 1) (eCall F__law_take [(0, 0)] [some 0, none] (bNm 0 (aCons (eB gLen (aCons (eV 1) aNil)) aNil)))) aNil)) aNil)) aNil)) (eOp dPow (eC (.int 10)) (eC (.int 60))))) (gN 3))
  sNil)
  (sSeq (sIf (tV (eOp dEq (eV 2) (eC (.int 3))))
  (sAsg (eOp dAdd (eOp dMul (eV 3) (eC (.int 1000))) (eCall F__law_take [(0, 0)] [some 0, none] (bNm 0 (aCons (eC (.int 1000)) aNil)))) (gN 3))
  sNil)
  (sRet (eLf (eV 3))))))))
def F__law_size : Fn := runF 2 4 [0] [] G__law_size
theorem c__law_size {f : Addr} {fd : FuncData} (Fd : L2.Fun K "_law_size" "_law_size" (topS 16) f fd) (hm : mg "_law_size" = some (.ref f)) (hb : Binds K fd ["draws", "script"] []) (m_abs : mg "abs" = none) (m_int : mg "int" = none) (m_len : mg "len" = none) (C__law_take : Cal P w K mg base 1 "_law_take" ["draws", "many"] [0] F__law_take) : Cal P w K mg base 2 "_law_size" ["draws", "script"] [0] F__law_size :=
  cal_of (k := 1) (A := [2, 3]) (M := [0, 2, 3]) (g := G__law_size) Fd sc__law_size hm hb (by decide) (fun _ => rfl) fun cdv Ar outer s H E hr => by
    have hN := sc__law_size.nd
    exact
  (vss_cons (vs_set 2 hN (ve_call C__law_take (hr.mono (by omega)) [(0, 0)] (vb_nm 0 (vb_ex (Mb := []) ve_int vb_nil))))
  (vss_cons (vs_set 3 hN (ve_call C__law_take (hr.mono (by omega)) [(0, 0)] (vb_nm 0 (vb_ex (Mb := []) ve_int vb_nil))))
  (vss_cons (vs_if (vt_cmp (Mb := []) (ops_eq (r64 hr)) (nomark _) (ve_v 2) ve_int)
  (vss_one (vs_set 3 hN (ve_op (Mb := [0]) ops_add (ve_v 3) (ve_op (Mb := []) ops_mul (ve_op (Mb := [0]) ops_add ve_int (ve_call C__law_take (hr.mono (by omega)) [(0, 0)] (vb_nm 0 (vb_ex (Mb := []) ve_int vb_nil)))) (ve_op (Mb := []) ops_pow ve_int ve_int)))))
  vss_nil)
  (vss_cons (vs_if (vt_vw (vw_and (vt_cmp (Mb := []) (ops_eq (r64 hr)) (nomark _) (ve_v 2) ve_int) (vw_and1 (vt_cmp (Mb := []) ops_gt (nomark _) (ve_callB cs_len m_len b_len (va_cons (Mb := []) (ve_v 1) (va_nil (R := [])))) ve_int))))
  (vss_one (vs_set 3 hN (ve_op (Mb := [0]) ops_add (ve_v 3) (ve_op (Mb := []) ops_mod (ve_callT cs_int m_int b_int (va_cons (Mb := []) (ve_callB cs_abs m_abs b_abs (va_cons (Mb := []) (ve_callT cs_int m_int b_int (va_cons (Mb := []) (ve_ix (Mb := [0]) ixs (fun _ _ => rfl) (ve_v 1) (ve_call C__law_take (hr.mono (by omega)) [(0, 0)] (vb_nm 0 (vb_ex (Mb := []) (ve_callB cs_len m_len b_len (va_cons (Mb := []) (ve_v 1) (va_nil (R := [])))) vb_nil)))) (va_nil (R := [])))) (va_nil (R := [])))) (va_nil (R := [])))) (ve_op (Mb := []) ops_pow ve_int ve_int)))))
  vss_nil)
  (vss_cons (vs_if (vt_cmp (Mb := []) (ops_eq (r64 hr)) (nomark _) (ve_v 2) ve_int)
  (vss_one (vs_set 3 hN (ve_op (Mb := [0]) ops_add (ve_op (Mb := []) ops_mul (ve_v 3) ve_int) (ve_call C__law_take (hr.mono (by omega)) [(0, 0)] (vb_nm 0 (vb_ex (Mb := []) ve_int vb_nil))))))
  vss_nil)
  (vss_one (vs_ret (ve_vf 3))))))))
/-! _law_values -/
theorem sc__law_values : FnScope ["draws", "script", "many", "wide", "k"] ["draws", "script", "many"] (defScope (topS 17)) := ⟨rfl, rfl, rfl, by decide +kernel, rfl, by decide +kernel, by decide +kernel⟩
def G__law_values : Ev → Option Out :=
  (sSeq (sAsg (eOp dIx (eLst (aCons (eC (.int 1)) (aCons (eC (.int 4)) (aCons (eC (.int 300)) aNil)))) (eCall F__law_take [(0, 0)] [some 0, none] (bNm 0 (aCons (eC (.int 3)) aNil)))) (gN 3))
  (sRet (eB gTuple (aCons (eLc [4] (iRng1 (aCons (eV 2) aNil)) (gN 4) tY (eOp dAdd (eCall F__law_take [(0, 0)] [some 0, none] (bNm 0 (aCons (eV 3) aNil))) (eOp dMul (eB gInt (aCons (eOp dEq (eCall F__law_take [(0, 0)] [some 0, none] (bNm 0 (aCons (eC (.int 9)) aNil))) (eC (.int 0))) aNil)) (eCall F__law_size [(0, 0)] [some 0, none] (bNm 0 (aCons (eV 1) aNil)))))) aNil))))
def F__law_values : Fn := runF 3 5 [0] [] G__law_values
theorem c__law_values {f : Addr} {fd : FuncData} (Fd : L2.Fun K "_law_values" "_law_values" (topS 17) f fd) (hm : mg "_law_values" = some (.ref f)) (hb : Binds K fd ["draws", "script", "many"] []) (m_int : mg "int" = none) (m_range : mg "range" = none) (m_tuple : mg "tuple" = none) (C__law_take : Cal P w K mg base 1 "_law_take" ["draws", "many"] [0] F__law_take) (C__law_size : Cal P w K mg base 2 "_law_size" ["draws", "script"] [0] F__law_size) : Cal P w K mg base 3 "_law_values" ["draws", "script", "many"] [0] F__law_values :=
  cal_of (k := 2) (A := [3]) (M := [0, 3]) (g := G__law_values) Fd sc__law_values hm hb (by decide) (fun _ => rfl) fun cdv Ar outer s H E hr => by
    have hN := sc__law_values.nd
    exact
  (vss_cons (vs_set 3 hN (ve_ix (Mb := [0]) ixs (fun _ _ => rfl) (ve_lst (va_cons (Mb := []) ve_int (va_cons (Mb := []) ve_int (va_cons (Mb := []) ve_int (va_nil (R := [])))))) (ve_call C__law_take (hr.mono (by omega)) [(0, 0)] (vb_nm 0 (vb_ex (Mb := []) ve_int vb_nil)))))
  (vss_one (vs_ret (ve_callT cs_tuple m_tuple b_tuple (va_cons (Mb := []) (ve_lc (own := [("k", 4)]) (Mi := [0]) hN (vi_rng1 m_range (va_cons (Mb := []) (ve_v 2) (va_nil (R := [])))) (blkOk_by (by rfl)) (fun _ _ _ _ _ => (vg_n 4 hN)) (fun _ _ _ _ _ => vts_nil) (fun _ _ _ _ _ => (ve_op (Mb := [0]) ops_add (ve_call C__law_take (hr.mono (by omega)) [(0, 0)] (vb_nm 0 (vb_ex (Mb := []) (ve_v 3) vb_nil))) (ve_op (Mb := [0]) ops_mul (ve_callT cs_int m_int b_int (va_cons (Mb := []) (ve_cmp (Mb := []) (ops_eq (r64 hr)) (nomark _) (ve_call C__law_take (hr.mono (by omega)) [(0, 0)] (vb_nm 0 (vb_ex (Mb := []) ve_int vb_nil))) ve_int) (va_nil (R := [])))) (ve_call C__law_size (hr.mono (by omega)) [(0, 0)] (vb_nm 0 (vb_ex (Mb := []) (ve_v 1) vb_nil))))))) (va_nil (R := [])))))))
/-! _law_same -/
theorem sc__law_same : FnScope ["actual", "due", "k"] ["actual", "due"] (defScope (topS 15)) := ⟨rfl, rfl, rfl, by decide +kernel, rfl, by decide +kernel, by decide +kernel⟩
def B1__law_same (F_self : Fn) : Ev → Option Out :=
  (sIf (tN (tV (eCall F_self [] [none, none] (aCons (eOp dIx (eV 0) (eV 2)) (aCons (eOp dIx (eV 1) (eV 2)) aNil)))))
  (sRet (eC (.bl false)))
  sNil)
def G__law_same (F_self : Fn) : Ev → Option Out :=
  (sSeq (sIf (tV (eIsi "bool" (eV 1)))
  (sRet (eIf (tV (eIsi "bool" (eV 0))) (eOp dEq (eV 0) (eV 1)) (eC (.bl false))))
  sNil)
  (sSeq (sIf (tV (eIsi "int" (eV 1)))
  (sRet (eIf (tV (eIsi "int" (eV 0))) (eIf (tV (eT (tN (tV (eIsi "bool" (eV 0)))))) (eOp dEq (eV 0) (eV 1)) (eC (.bl false))) (eC (.bl false))))
  sNil)
  (sSeq (sIf (tV (eIsi "str" (eV 1)))
  (sRet (eIf (tV (eIsi "str" (eV 0))) (eOp dEq (eV 0) (eV 1)) (eC (.bl false))))
  sNil)
  (sSeq (sIf (tV (eOp dIsN (eV 1) (eC .non)))
  (sRet (eOp dIsN (eV 0) (eC .non)))
  sNil)
  (sSeq (sIf (tO (tN (tV (eIsi "tuple" (eV 0)))) (tV (eOp dNe (eB gLen (aCons (eV 0) aNil)) (eB gLen (aCons (eV 1) aNil)))))
  (sRet (eC (.bl false)))
  sNil)
  (sSeq (sFor (iRng1 (aCons (eB gLen (aCons (eV 1) aNil)) aNil)) (gN 2) (B1__law_same F_self))
  (sRet (eC (.bl true)))))))))
def Fr__law_same : Nat → Fn
  | 0 => fun _ => none
  | n + 1 => runF 2 3 [] [] (G__law_same (Fr__law_same n))
def F__law_same : Fn := Fr__law_same 12
theorem c__law_same {f : Addr} {fd : FuncData} (Fd : L2.Fun K "_law_same" "_law_same" (topS 15) f fd) (hm : mg "_law_same" = some (.ref f)) (hb : Binds K fd ["actual", "due"] []) (m_bool : mg "bool" = none) (m_int : mg "int" = none) (m_isinstance : mg "isinstance" = none) (m_len : mg "len" = none) (m_range : mg "range" = none) (m_str : mg "str" = none) (m_tuple : mg "tuple" = none)  : Cal P w K mg base 13 "_law_same" ["actual", "due"] [] F__law_same := by
  have all : ∀ n, Cal P w K mg base (n + 1) "_law_same" ["actual", "due"] [] (Fr__law_same n) := fun n => by
    induction n with
    | zero =>
      refine (cal_of (k := 0) (A := [2]) (M := [2]) (rb := []) (g := fun _ => none) Fd sc__law_same hm hb (by decide) (fun ds => ?_) fun cdv Ar outer s H E hr => ⟨fun env o h => nomatch h⟩ : Cal P w K mg base (0 + 1) "_law_same" ["actual", "due"] [] (Fr__law_same 0)).mono (by omega)
      show none = runF _ _ _ _ (fun _ => none) ds
      unfold runF
      split <;> rfl
    | succ n ih =>
      have C_self := ih
      exact cal_of (k := n + 1) (A := [2]) (M := [2]) (g := G__law_same (Fr__law_same n)) Fd sc__law_same hm hb (by decide) (fun _ => rfl) fun cdv Ar outer s H E hr => by
        have hN := sc__law_same.nd
        exact
  (vss_cons (vs_if (vt_val (ve_isi (ve_v 1) m_isinstance m_bool b_bool kit_bool))
  (vss_one (vs_ret (ve_and (ve_isi (ve_v 0) m_isinstance m_bool b_bool kit_bool) (ve_one (ve_cmp (Mb := []) (ops_eq (r64 hr)) (nomark _) (ve_v 0) (ve_v 1))))))
  vss_nil)
  (vss_cons (vs_if (vt_val (ve_isi (ve_v 1) m_isinstance m_int b_int kit_int))
  (vss_one (vs_ret (ve_and (ve_isi (ve_v 0) m_isinstance m_int b_int kit_int) (ve_and (ve_not (ve_isi (ve_v 0) m_isinstance m_bool b_bool kit_bool)) (ve_one (ve_cmp (Mb := []) (ops_eq (r64 hr)) (nomark _) (ve_v 0) (ve_v 1)))))))
  vss_nil)
  (vss_cons (vs_if (vt_val (ve_isi (ve_v 1) m_isinstance m_str b_str kit_str))
  (vss_one (vs_ret (ve_and (ve_isi (ve_v 0) m_isinstance m_str b_str kit_str) (ve_one (ve_cmp (Mb := []) (ops_eq (r64 hr)) (nomark _) (ve_v 0) (ve_v 1))))))
  vss_nil)
  (vss_cons (vs_if (vt_cmp (Mb := []) ops_is (nomark _) (ve_v 1) ve_non)
  (vss_one (vs_ret (ve_cmp (Mb := []) ops_is (nomark _) (ve_v 0) ve_non)))
  vss_nil)
  (vss_cons (vs_if (vt_vw (vw_or (vt_not (vt_val (ve_isi (ve_v 0) m_isinstance m_tuple b_tuple kit_tuple))) (vw_or1 (vt_cmp (Mb := []) (ops_ne (r64 hr)) (nomark _) (ve_callB cs_len m_len b_len (va_cons (Mb := []) (ve_v 0) (va_nil (R := [])))) (ve_callB cs_len m_len b_len (va_cons (Mb := []) (ve_v 1) (va_nil (R := []))))))))
  (vss_one (vs_ret ve_bl))
  vss_nil)
  (vss_cons (vs_for (Mb := [2]) (vi_rng1 m_range (va_cons (Mb := []) (ve_callB cs_len m_len b_len (va_cons (Mb := []) (ve_v 1) (va_nil (R := [])))) (va_nil (R := [])))) (vg_n 2 hN)
  (vss_one (vs_if (vt_not (vt_val (ve_call C_self (hr.mono (by omega)) [] (vb_ex (Mb := []) (ve_ix (Mb := []) ixs (fun _ _ => rfl) (ve_v 0) (ve_v 2)) (vb_ex (Mb := []) (ve_ix (Mb := []) ixs (fun _ _ => rfl) (ve_v 1) (ve_v 2)) vb_nil)))))
  (vss_one (vs_ret ve_bl))
  vss_nil)))
  (vss_one (vs_ret ve_bl))))))))
  exact all 12
/-! disk_of_value -/
theorem sc_disk_of_value : FnScope ["n", "at", "stripe", "place"] ["n", "at"] (defScope (topS 7)) := ⟨rfl, rfl, rfl, by decide +kernel, rfl, by decide +kernel, by decide +kernel⟩
def G_disk_of_value : Ev → Option Out :=
  (sSeq (sPar 2 3 (aCons (eOp dDiv (eV 1) (eOp dSub (eV 0) (eC (.int 1)))) (aCons (eOp dMod (eV 1) (eOp dSub (eV 0) (eC (.int 1)))) aNil)))
  (sRet (eTup (aCons (eLf (eV 2)) (aCons (eIf (tV (eOp dLt (eV 3) (eOp dMod (eV 2) (eV 0)))) (eLf (eV 3)) (eOp dAdd (eV 3) (eC (.int 1)))) aNil)))))
def F_disk_of_value : Fn := runF 2 4 [] [] G_disk_of_value
theorem c_disk_of_value {f : Addr} {fd : FuncData} (Fd : L2.Fun K "disk_of_value" "disk_of_value" (topS 7) f fd) (hm : mg "disk_of_value" = some (.ref f)) (hb : Binds K fd ["n", "at"] [])   : Cal P w K mg base 1 "disk_of_value" ["n", "at"] [] F_disk_of_value :=
  cal_of (k := 0) (A := [2, 3]) (M := [2, 3]) (g := G_disk_of_value) Fd sc_disk_of_value hm hb (by decide) (fun _ => rfl) fun cdv Ar outer s H E hr => by
    have hN := sc_disk_of_value.nd
    exact
  (vss_cons (vs_par 2 3 hN (va_cons (Mb := []) (ve_op (Mb := []) ops_div (ve_v 1) (ve_op (Mb := []) ops_sub (ve_v 0) ve_int)) (va_cons (Mb := []) (ve_op (Mb := []) ops_mod (ve_v 1) (ve_op (Mb := []) ops_sub (ve_v 0) ve_int)) (va_nil (R := [])))))
  (vss_one (vs_ret (ve_tup (va_cons (Mb := []) (ve_vf 2) (va_cons (Mb := []) (ve_if (vt_cmp (Mb := []) (ops_lt (r64 hr)) (nomark _) (ve_v 3) (ve_op (Mb := []) ops_mod (ve_v 2) (ve_v 0))) (ve_vf 3) (ve_op (Mb := []) ops_add (ve_v 3) ve_int)) (va_nil (R := []))))))))
/-! lost_among -/
theorem sc_lost_among : FnScope ["n", "gone", "many", "at"] ["n", "gone", "many"] (defScope (topS 10)) := ⟨rfl, rfl, rfl, by decide +kernel, rfl, by decide +kernel, by decide +kernel⟩
def G_lost_among : Ev → Option Out :=
  (sRet (eB gLen (aCons (eLc [3] (iRng1 (aCons (eV 2) aNil)) (gN 3) (tV (eOp dInA (eOp dIx (eCall F_disk_of_value [] [none, none] (aCons (eV 0) (aCons (eV 3) aNil))) (eC (.int 1))) (eV 1))) (eLf (eV 3))) aNil)))
def F_lost_among : Fn := runF 3 4 [] [] G_lost_among
theorem c_lost_among {f : Addr} {fd : FuncData} (Fd : L2.Fun K "lost_among" "lost_among" (topS 10) f fd) (hm : mg "lost_among" = some (.ref f)) (hb : Binds K fd ["n", "gone", "many"] []) (m_len : mg "len" = none) (m_range : mg "range" = none) (C_disk_of_value : Cal P w K mg base 1 "disk_of_value" ["n", "at"] [] F_disk_of_value) : Cal P w K mg base 2 "lost_among" ["n", "gone", "many"] [] F_lost_among :=
  cal_of (k := 1) (A := []) (M := []) (g := G_lost_among) Fd sc_lost_among hm hb (by decide) (fun _ => rfl) fun cdv Ar outer s H E hr => by
    have hN := sc_lost_among.nd
    exact
  (vss_one (vs_ret (ve_callB cs_len m_len b_len (va_cons (Mb := []) (ve_lc (own := [("at", 3)]) (Mi := []) hN (vi_rng1 m_range (va_cons (Mb := []) (ve_v 2) (va_nil (R := [])))) (blkOk_by (by rfl)) (fun _ _ _ _ _ => (vg_n 3 hN)) (fun _ _ _ _ _ => (vts_one (vt_in (Mb := []) (r65 hr) (by rfl) (ve_ix (Mb := []) ixs (fun _ _ => rfl) (ve_call C_disk_of_value (hr.mono (by omega)) [] (vb_ex (Mb := []) (ve_v 0) (vb_ex (Mb := []) (ve_v 3) vb_nil))) ve_int) (ve_v 1)))) (fun _ _ _ _ _ => (ve_vf 3))) (va_nil (R := []))))))
/-! count_lost -/
theorem sc_count_lost : FnScope ["n", "gone", "many", "whole"] ["n", "gone", "many"] (defScope (topS 11)) := ⟨rfl, rfl, rfl, by decide +kernel, rfl, by decide +kernel, by decide +kernel⟩
def G_count_lost : Ev → Option Out :=
  (sSeq (sIf (tV (eOp dLt (eB gLen (aCons (eV 1) aNil)) (eC (.int 2))))
  (sRet (eC (.int 0)))
  sNil)
  (sSeq (sAsg (eOp dMul (eV 0) (eOp dSub (eV 0) (eC (.int 1)))) (gN 3))
  (sRet (eOp dAdd (eOp dMul (eOp dDiv (eV 2) (eV 3)) (eCall F_lost_among [] [none, none, none] (aCons (eV 0) (aCons (eV 1) (aCons (eV 3) aNil))))) (eCall F_lost_among [] [none, none, none] (aCons (eV 0) (aCons (eV 1) (aCons (eOp dMod (eV 2) (eV 3)) aNil))))))))
def F_count_lost : Fn := runF 3 4 [] [] G_count_lost
theorem c_count_lost {f : Addr} {fd : FuncData} (Fd : L2.Fun K "count_lost" "count_lost" (topS 11) f fd) (hm : mg "count_lost" = some (.ref f)) (hb : Binds K fd ["n", "gone", "many"] []) (m_len : mg "len" = none) (C_lost_among : Cal P w K mg base 2 "lost_among" ["n", "gone", "many"] [] F_lost_among) : Cal P w K mg base 3 "count_lost" ["n", "gone", "many"] [] F_count_lost :=
  cal_of (k := 2) (A := [3]) (M := [3]) (g := G_count_lost) Fd sc_count_lost hm hb (by decide) (fun _ => rfl) fun cdv Ar outer s H E hr => by
    have hN := sc_count_lost.nd
    exact
  (vss_cons (vs_if (vt_cmp (Mb := []) (ops_lt (r64 hr)) (nomark _) (ve_callB cs_len m_len b_len (va_cons (Mb := []) (ve_v 1) (va_nil (R := [])))) ve_int)
  (vss_one (vs_ret ve_int))
  vss_nil)
  (vss_cons (vs_set 3 hN (ve_op (Mb := []) ops_mul (ve_v 0) (ve_op (Mb := []) ops_sub (ve_v 0) ve_int)))
  (vss_one (vs_ret (ve_op (Mb := []) ops_add (ve_op (Mb := []) ops_mul (ve_op (Mb := []) ops_div (ve_v 2) (ve_v 3)) (ve_call C_lost_among (hr.mono (by omega)) [] (vb_ex (Mb := []) (ve_v 0) (vb_ex (Mb := []) (ve_v 1) (vb_ex (Mb := []) (ve_v 3) vb_nil))))) (ve_call C_lost_among (hr.mono (by omega)) [] (vb_ex (Mb := []) (ve_v 0) (vb_ex (Mb := []) (ve_v 1) (vb_ex (Mb := []) (ve_op (Mb := []) ops_mod (ve_v 2) (ve_v 3)) vb_nil)))))))))
/-! bad_stripes -/
theorem sc_bad_stripes : FnScope ["stripes", "stripe"] ["stripes"] (defScope (topS 5)) := ⟨rfl, rfl, rfl, by decide +kernel, rfl, by decide +kernel, by decide +kernel⟩
def G_bad_stripes : Ev → Option Out :=
  (sRet (eB gTuple (aCons (eLc [1] (iRng1 (aCons (eB gLen (aCons (eV 0) aNil)) aNil)) (gN 1) (tV (eOp dNe (eCall F_added [] [none] (aCons (eOp dIx (eV 0) (eV 1)) aNil)) (eC (.int 0)))) (eLf (eV 1))) aNil)))
def F_bad_stripes : Fn := runF 1 2 [] [] G_bad_stripes
theorem c_bad_stripes {f : Addr} {fd : FuncData} (Fd : L2.Fun K "bad_stripes" "bad_stripes" (topS 5) f fd) (hm : mg "bad_stripes" = some (.ref f)) (hb : Binds K fd ["stripes"] []) (m_len : mg "len" = none) (m_range : mg "range" = none) (m_tuple : mg "tuple" = none) (C_added : Cal P w K mg base 1 "added" ["numbers"] [] F_added) : Cal P w K mg base 2 "bad_stripes" ["stripes"] [] F_bad_stripes :=
  cal_of (k := 1) (A := []) (M := []) (g := G_bad_stripes) Fd sc_bad_stripes hm hb (by decide) (fun _ => rfl) fun cdv Ar outer s H E hr => by
    have hN := sc_bad_stripes.nd
    exact
  (vss_one (vs_ret (ve_callT cs_tuple m_tuple b_tuple (va_cons (Mb := []) (ve_lc (own := [("stripe", 1)]) (Mi := []) hN (vi_rng1 m_range (va_cons (Mb := []) (ve_callB cs_len m_len b_len (va_cons (Mb := []) (ve_v 0) (va_nil (R := [])))) (va_nil (R := [])))) (blkOk_by (by rfl)) (fun _ _ _ _ _ => (vg_n 1 hN)) (fun _ _ _ _ _ => (vts_one (vt_cmp (Mb := []) (ops_ne (r64 hr)) (nomark _) (ve_call C_added (hr.mono (by omega)) [] (vb_ex (Mb := []) (ve_ix (Mb := []) ixs (fun _ _ => rfl) (ve_v 0) (ve_v 1)) vb_nil)) ve_int))) (fun _ _ _ _ _ => (ve_vf 1))) (va_nil (R := []))))))
/-! values_of -/
theorem sc_values_of : FnScope ["n", "stripes", "many", "found", "stripe", "disk"] ["n", "stripes", "many"] (defScope (topS 3)) := ⟨rfl, rfl, rfl, by decide +kernel, rfl, by decide +kernel, by decide +kernel⟩
def B1_values_of : Ev → Option Out :=
  (sExt 3 (eLc [5] (iRng1 (aCons (eV 0) aNil)) (gN 5) (tV (eOp dNe (eV 5) (eOp dMod (eV 4) (eV 0)))) (eLf (eOp dIx (eOp dIx (eV 1) (eV 4)) (eV 5)))))
def G_values_of : Ev → Option Out :=
  (sSeq (sAsg (eLst aNil) (gN 3))
  (sSeq (sFor (iRng1 (aCons (eB gLen (aCons (eV 1) aNil)) aNil)) (gN 4) B1_values_of)
  (sRet (eB gTuple (aCons (eSl (eV 3) oN (oS (eV 2))) aNil)))))
def F_values_of : Fn := runF 3 6 [] [] G_values_of
theorem c_values_of {f : Addr} {fd : FuncData} (Fd : L2.Fun K "values_of" "values_of" (topS 3) f fd) (hm : mg "values_of" = some (.ref f)) (hb : Binds K fd ["n", "stripes", "many"] []) (m_len : mg "len" = none) (m_range : mg "range" = none) (m_tuple : mg "tuple" = none)  : Cal P w K mg base 1 "values_of" ["n", "stripes", "many"] [] F_values_of :=
  cal_of (k := 0) (A := [3, 4]) (M := [3, 4]) (g := G_values_of) Fd sc_values_of hm hb (by decide) (fun _ => rfl) fun cdv Ar outer s H E hr => by
    have hN := sc_values_of.nd
    exact
  (vss_cons (vs_set 3 hN (ve_lst (va_nil (R := []))))
  (vss_cons (vs_for (Mb := [3, 4]) (vi_rng1 m_range (va_cons (Mb := []) (ve_callB cs_len m_len b_len (va_cons (Mb := []) (ve_v 1) (va_nil (R := [])))) (va_nil (R := [])))) (vg_n 4 hN)
  (vss_one (vs_ext (Mb := []) 3 hN (ve_lc (own := [("disk", 5)]) (Mi := []) hN (vi_rng1 m_range (va_cons (Mb := []) (ve_v 0) (va_nil (R := [])))) (blkOk_by (by rfl)) (fun _ _ _ _ _ => (vg_n 5 hN)) (fun _ _ _ _ _ => (vts_one (vt_cmp (Mb := []) (ops_ne (r64 hr)) (nomark _) (ve_v 5) (ve_op (Mb := []) ops_mod (ve_v 4) (ve_v 0))))) (fun _ _ _ _ _ => (ve_lf (Rb := []) (ve_ix (Mb := []) ixs (fun _ _ => rfl) (ve_ix (Mb := []) ixs (fun _ _ => rfl) (ve_v 1) (ve_v 4)) (ve_v 5))))))))
  (vss_one (vs_ret (ve_callT cs_tuple m_tuple b_tuple (va_cons (Mb := []) (ve_sl (Mb := []) (ve_v 3) vo_none (vo_some (ve_v 2))) (va_nil (R := []))))))))
/-! _law_without -/
theorem sc__law_without : FnScope ["rows", "gone", "found", "row", "disk"] ["rows", "gone"] (defScope (topS 21)) := ⟨rfl, rfl, rfl, by decide +kernel, rfl, by decide +kernel, by decide +kernel⟩
def B1__law_without : Ev → Option Out :=
  (sDrop (eMeth 2 mApp (aCons (eB gTuple (aCons (eLc [4] (iRng1 (aCons (eB gLen (aCons (eV 3) aNil)) aNil)) (gN 4) tY (eOp dIx (eLst (aCons (eLf (eOp dIx (eV 3) (eV 4))) (aCons (eC .non) aNil))) (eB gInt (aCons (eOp dInA (eV 4) (eV 1)) aNil)))) aNil)) aNil)))
def G__law_without : Ev → Option Out :=
  (sSeq (sAsg (eLst aNil) (gN 2))
  (sSeq (sFor (iSeq (eV 0)) (gN 3) B1__law_without)
  (sRet (eB gTuple (aCons (eV 2) aNil)))))
def F__law_without : Fn := runF 2 5 [] [] G__law_without
theorem c__law_without {f : Addr} {fd : FuncData} (Fd : L2.Fun K "_law_without" "_law_without" (topS 21) f fd) (hm : mg "_law_without" = some (.ref f)) (hb : Binds K fd ["rows", "gone"] []) (m_int : mg "int" = none) (m_len : mg "len" = none) (m_range : mg "range" = none) (m_tuple : mg "tuple" = none)  : Cal P w K mg base 1 "_law_without" ["rows", "gone"] [] F__law_without :=
  cal_of (k := 0) (A := [2, 3]) (M := [2, 3]) (g := G__law_without) Fd sc__law_without hm hb (by decide) (fun _ => rfl) fun cdv Ar outer s H E hr => by
    have hN := sc__law_without.nd
    exact
  (vss_cons (vs_set 2 hN (ve_lst (va_nil (R := []))))
  (vss_cons (vs_for (Mb := [2, 3]) (vi_seq (ve_v 0)) (vg_n 3 hN)
  (vss_one (vs_expr (ve_meth 2 PySem.F.slot_list_append PySem.F.type_list_append ms_app (va_cons (Mb := []) (ve_callT cs_tuple m_tuple b_tuple (va_cons (Mb := []) (ve_lc (own := [("disk", 4)]) (Mi := []) hN (vi_rng1 m_range (va_cons (Mb := []) (ve_callB cs_len m_len b_len (va_cons (Mb := []) (ve_v 3) (va_nil (R := [])))) (va_nil (R := [])))) (blkOk_by (by rfl)) (fun _ _ _ _ _ => (vg_n 4 hN)) (fun _ _ _ _ _ => vts_nil) (fun _ _ _ _ _ => (ve_ix (Mb := []) ixs (fun _ _ => rfl) (ve_lst (va_cons (Mb := []) (ve_lf (Rb := []) (ve_ix (Mb := []) ixs (fun _ _ => rfl) (ve_v 3) (ve_v 4))) (va_cons (Mb := []) ve_non (va_nil (R := []))))) (ve_callT cs_int m_int b_int (va_cons (Mb := []) (ve_in (Mb := []) (r65 hr) (by rfl) (ve_v 4) (ve_v 1)) (va_nil (R := []))))))) (va_nil (R := [])))) (va_nil (R := [])))))))
  (vss_one (vs_ret (ve_callT cs_tuple m_tuple b_tuple (va_cons (Mb := []) (ve_v 2) (va_nil (R := []))))))))
/-! mended_stripes -/
theorem sc_mended_stripes : FnScope ["n", "stripes", "found", "row", "lost", "own"] ["n", "stripes"] (defScope (topS 4)) := ⟨rfl, rfl, rfl, by decide +kernel, rfl, by decide +kernel, by decide +kernel⟩
def B1_mended_stripes : Ev → Option Out :=
  (sIf (tV (eOp dEq (eB gLen (aCons (eLc [5] (iSeq (eV 3)) (gN 5) (tV (eOp dIsN (eV 5) (eC .non))) (eLf (eV 5))) aNil)) (eC (.int 1))))
  (sSeq (sAsg (eCall F_added [] [none] (aCons (eLc [5] (iSeq (eV 3)) (gN 5) (tV (eOp dNotN (eV 5) (eC .non))) (eLf (eV 5))) aNil)) (gN 4))
  (sDrop (eMeth 2 mApp (aCons (eB gTuple (aCons (eLc [5] (iSeq (eV 3)) (gN 5) tY (eIf (tV (eOp dIsN (eV 5) (eC .non))) (eLf (eV 4)) (eLf (eV 5)))) aNil)) aNil))))
  (sDrop (eMeth 2 mApp (aCons (eB gTuple (aCons (eV 3) aNil)) aNil))))
def G_mended_stripes : Ev → Option Out :=
  (sSeq (sAsg (eLst aNil) (gN 2))
  (sSeq (sFor (iSeq (eV 1)) (gN 3) B1_mended_stripes)
  (sRet (eB gTuple (aCons (eV 2) aNil)))))
def F_mended_stripes : Fn := runF 2 6 [] [] G_mended_stripes
theorem c_mended_stripes {f : Addr} {fd : FuncData} (Fd : L2.Fun K "mended_stripes" "mended_stripes" (topS 4) f fd) (hm : mg "mended_stripes" = some (.ref f)) (hb : Binds K fd ["n", "stripes"] []) (m_len : mg "len" = none) (m_tuple : mg "tuple" = none) (C_added : Cal P w K mg base 1 "added" ["numbers"] [] F_added) : Cal P w K mg base 2 "mended_stripes" ["n", "stripes"] [] F_mended_stripes :=
  cal_of (k := 1) (A := [2, 3, 4]) (M := [2, 3, 4]) (g := G_mended_stripes) Fd sc_mended_stripes hm hb (by decide) (fun _ => rfl) fun cdv Ar outer s H E hr => by
    have hN := sc_mended_stripes.nd
    exact
  (vss_cons (vs_set 2 hN (ve_lst (va_nil (R := []))))
  (vss_cons (vs_for (Mb := [2, 3, 4]) (vi_seq (ve_v 1)) (vg_n 3 hN)
  (vss_one (vs_if (vt_cmp (Mb := []) (ops_eq (r64 hr)) (nomark _) (ve_callB cs_len m_len b_len (va_cons (Mb := []) (ve_lc (own := [("own", 5)]) (Mi := []) hN (vi_seq (ve_v 3)) (blkOk_by (by rfl)) (fun _ _ _ _ _ => (vg_n 5 hN)) (fun _ _ _ _ _ => (vts_one (vt_cmp (Mb := []) ops_is (nomark _) (ve_v 5) ve_non))) (fun _ _ _ _ _ => (ve_vf 5))) (va_nil (R := [])))) ve_int)
  (vss_cons (vs_set 4 hN (ve_call C_added (hr.mono (by omega)) [] (vb_ex (Mb := []) (ve_lc (own := [("own", 5)]) (Mi := []) hN (vi_seq (ve_v 3)) (blkOk_by (by rfl)) (fun _ _ _ _ _ => (vg_n 5 hN)) (fun _ _ _ _ _ => (vts_one (vt_cmp (Mb := []) ops_isnot (nomark _) (ve_v 5) ve_non))) (fun _ _ _ _ _ => (ve_vf 5))) vb_nil)))
  (vss_one (vs_expr (ve_meth 2 PySem.F.slot_list_append PySem.F.type_list_append ms_app (va_cons (Mb := []) (ve_callT cs_tuple m_tuple b_tuple (va_cons (Mb := []) (ve_lc (own := [("own", 5)]) (Mi := []) hN (vi_seq (ve_v 3)) (blkOk_by (by rfl)) (fun _ _ _ _ _ => (vg_n 5 hN)) (fun _ _ _ _ _ => vts_nil) (fun _ _ _ _ _ => (ve_if (vt_cmp (Mb := []) ops_is (nomark _) (ve_v 5) ve_non) (ve_vf 4) (ve_vf 5)))) (va_nil (R := [])))) (va_nil (R := [])))))))
  (vss_one (vs_expr (ve_meth 2 PySem.F.slot_list_append PySem.F.type_list_append ms_app (va_cons (Mb := []) (ve_callT cs_tuple m_tuple b_tuple (va_cons (Mb := []) (ve_v 3) (va_nil (R := [])))) (va_nil (R := [])))))))))
  (vss_one (vs_ret (ve_callT cs_tuple m_tuple b_tuple (va_cons (Mb := []) (ve_v 2) (va_nil (R := []))))))))
/-! is_whole_row -/
theorem sc_is_whole_row : FnScope ["stripes"] ["stripes"] (defScope (topS 6)) := ⟨rfl, rfl, rfl, by decide +kernel, rfl, by decide +kernel, by decide +kernel⟩
def G_is_whole_row : Ev → Option Out :=
  (sRet (eOp dEq (eB gLen (aCons (eCall F_bad_stripes [] [none] (aCons (eV 0) aNil)) aNil)) (eC (.int 0))))
def F_is_whole_row : Fn := runF 1 1 [] [] G_is_whole_row
theorem c_is_whole_row {f : Addr} {fd : FuncData} (Fd : L2.Fun K "is_whole_row" "is_whole_row" (topS 6) f fd) (hm : mg "is_whole_row" = some (.ref f)) (hb : Binds K fd ["stripes"] []) (m_len : mg "len" = none) (C_bad_stripes : Cal P w K mg base 2 "bad_stripes" ["stripes"] [] F_bad_stripes) : Cal P w K mg base 3 "is_whole_row" ["stripes"] [] F_is_whole_row :=
  cal_of (k := 2) (A := []) (M := []) (g := G_is_whole_row) Fd sc_is_whole_row hm hb (by decide) (fun _ => rfl) fun cdv Ar outer s H E hr => by
    have hN := sc_is_whole_row.nd
    exact
  (vss_one (vs_ret (ve_cmp (Mb := []) (ops_eq (r64 hr)) (nomark _) (ve_callB cs_len m_len b_len (va_cons (Mb := []) (ve_call C_bad_stripes (hr.mono (by omega)) [] (vb_ex (Mb := []) (ve_v 0) vb_nil)) (va_nil (R := [])))) ve_int)))
/-! _law_gone_right -/
theorem sc__law_gone_right : FnScope ["draws", "n", "values", "rows", "disk", "back", "lacks", "row", "at", "one", "other", "pair", "left", "bent", "lost"] ["draws", "n", "values", "rows"] (defScope (topS 22)) := ⟨rfl, rfl, rfl, by decide +kernel, rfl, by decide +kernel, by decide +kernel⟩
def B1__law_gone_right : Ev → Option Out :=
  (sSeq (sAsg (eCall F_mended_stripes [] [none, none] (aCons (eV 1) (aCons (eCall F__law_without [] [none, none] (aCons (eV 3) (aCons (eTup (aCons (eV 4) aNil)) aNil))) aNil))) (gN 5))
  (sSeq (sIf (tO (tN (tV (eCall F__law_same [] [none, none] (aCons (eV 5) (aCons (eV 3) aNil))))) (tN (tV (eCall F__law_same [] [none, none] (aCons (eCall F_values_of [] [none, none, none] (aCons (eV 1) (aCons (eV 5) (aCons (eB gLen (aCons (eV 2) aNil)) aNil)))) (aCons (eV 2) aNil))))))
  (sRet (eC (.bl false)))
  sNil)
  (sIf (tN (tV (eCall F__law_same [] [none, none] (aCons (eCall F_count_lost [] [none, none, none] (aCons (eV 1) (aCons (eTup (aCons (eV 4) aNil)) (aCons (eB gLen (aCons (eV 2) aNil)) aNil)))) (aCons (eC (.int 0)) aNil)))))
  (sRet (eC (.bl false)))
  sNil)))
def B2__law_gone_right : Ev → Option Out :=
  (sSeq (sAsg (eCall F__law_take [(0, 0)] [some 0, none] (bNm 0 (aCons (eV 1) aNil))) (gN 8))
  (sDrop (eMeth 6 mApp (aCons (eOp dAdd (eOp dAdd (eSl (eV 7) oN (oS (eV 8))) (eTup (aCons (eC .non) aNil))) (eSl (eV 7) (oS (eOp dAdd (eV 8) (eC (.int 1)))) oN)) aNil))))
def G__law_gone_right : Ev → Option Out :=
  (sSeq (sFor (iRng1 (aCons (eV 1) aNil)) (gN 4) B1__law_gone_right)
  (sSeq (sAsg (eLst aNil) (gN 6))
  (sSeq (sFor (iSeq (eV 3)) (gN 7) B2__law_gone_right)
  (sSeq (sIf (tN (tV (eCall F__law_same [] [none, none] (aCons (eCall F_mended_stripes [] [none, none] (aCons (eV 1) (aCons (eB gTuple (aCons (eV 6) aNil)) aNil))) (aCons (eV 3) aNil)))))
  (sRet (eC (.bl false)))
  sNil)
  (sSeq (sAsg (eCall F__law_take [(0, 0)] [some 0, none] (bNm 0 (aCons (eV 1) aNil))) (gN 9))
  (sSeq (sAsg (eOp dMod (eB gInt (aCons (eOp dAdd (eOp dAdd (eV 9) (eC (.int 1))) (eCall F__law_take [(0, 0)] [some 0, none] (bNm 0 (aCons (eOp dSub (eV 1) (eC (.int 1))) aNil)))) aNil)) (eV 1)) (gN 10))
  (sSeq (sAsg (eB gTuple (aCons (eB gSorted (aCons (eLst (aCons (eLf (eV 9)) (aCons (eLf (eV 10)) aNil))) aNil)) aNil)) (gN 11))
  (sSeq (sAsg (eCall F__law_without [] [none, none] (aCons (eV 3) (aCons (eV 11) aNil))) (gN 12))
  (sSeq (sIf (tN (tV (eCall F__law_same [] [none, none] (aCons (eCall F_mended_stripes [] [none, none] (aCons (eV 1) (aCons (eV 12) aNil))) (aCons (eV 12) aNil)))))
  (sRet (eC (.bl false)))
  sNil)
  (sSeq (sAsg (eB gTuple (aCons (eLc [7] (iSeq (eV 3)) (gN 7) tY (eB gTuple (aCons (eLc [4] (iRng1 (aCons (eV 1) aNil)) (gN 4) tY (eOp dXor (eOp dIx (eV 7) (eV 4)) (eOp dMul (eC (.int 7)) (eB gInt (aCons (eOp dInA (eV 4) (eV 11)) aNil))))) aNil))) aNil)) (gN 13))
  (sSeq (sIf (tO (tN (tV (eCall F__law_same [] [none, none] (aCons (eCall F_is_whole_row [] [none] (aCons (eV 13) aNil)) (aCons (eC (.bl true)) aNil))))) (tV (eOp dNe (eCall F__law_without [] [none, none] (aCons (eV 13) (aCons (eV 11) aNil))) (eV 12))))
  (sRet (eC (.bl false)))
  sNil)
  (sSeq (sAsg (eB gLen (aCons (eLc [8] (iRng1 (aCons (eB gLen (aCons (eV 2) aNil)) aNil)) (gN 8) (tV (eOp dInA (eOp dIx (eCall F_disk_of_value [] [none, none] (aCons (eV 1) (aCons (eV 8) aNil))) (eC (.int 1))) (eV 11))) (eLf (eV 8))) aNil)) (gN 14))
  (sRet (eCall F__law_same [] [none, none] (aCons (eCall F_count_lost [] [none, none, none] (aCons (eV 1) (aCons (eV 11) (aCons (eB gLen (aCons (eV 2) aNil)) aNil)))) (aCons (eV 14) aNil))))))))))))))))
def F__law_gone_right : Fn := runF 4 15 [0] [] G__law_gone_right
theorem c__law_gone_right {f : Addr} {fd : FuncData} (Fd : L2.Fun K "_law_gone_right" "_law_gone_right" (topS 22) f fd) (hm : mg "_law_gone_right" = some (.ref f)) (hb : Binds K fd ["draws", "n", "values", "rows"] []) (m_int : mg "int" = none) (m_len : mg "len" = none) (m_range : mg "range" = none) (m_sorted : mg "sorted" = none) (m_tuple : mg "tuple" = none) (C_mended_stripes : Cal P w K mg base 2 "mended_stripes" ["n", "stripes"] [] F_mended_stripes) (C__law_without : Cal P w K mg base 1 "_law_without" ["rows", "gone"] [] F__law_without) (C__law_same : Cal P w K mg base 13 "_law_same" ["actual", "due"] [] F__law_same) (C_values_of : Cal P w K mg base 1 "values_of" ["n", "stripes", "many"] [] F_values_of) (C_count_lost : Cal P w K mg base 3 "count_lost" ["n", "gone", "many"] [] F_count_lost) (C__law_take : Cal P w K mg base 1 "_law_take" ["draws", "many"] [0] F__law_take) (C_is_whole_row : Cal P w K mg base 3 "is_whole_row" ["stripes"] [] F_is_whole_row) (C_disk_of_value : Cal P w K mg base 1 "disk_of_value" ["n", "at"] [] F_disk_of_value) : Cal P w K mg base 14 "_law_gone_right" ["draws", "n", "values", "rows"] [0] F__law_gone_right :=
  cal_of (k := 13) (A := [4, 5, 6, 7, 8, 9, 10, 11, 12, 13, 14]) (M := [0, 4, 5, 6, 7, 8, 9, 10, 11, 12, 13, 14]) (g := G__law_gone_right) Fd sc__law_gone_right hm hb (by decide) (fun _ => rfl) fun cdv Ar outer s H E hr => by
    have hN := sc__law_gone_right.nd
    exact
  (vss_cons (vs_for (Mb := [4, 5]) (vi_rng1 m_range (va_cons (Mb := []) (ve_v 1) (va_nil (R := [])))) (vg_n 4 hN)
  (vss_cons (vs_set 5 hN (ve_call C_mended_stripes (hr.mono (by omega)) [] (vb_ex (Mb := []) (ve_v 1) (vb_ex (Mb := []) (ve_call C__law_without (hr.mono (by omega)) [] (vb_ex (Mb := []) (ve_v 3) (vb_ex (Mb := []) (ve_tup (va_cons (Mb := []) (ve_v 4) (va_nil (R := [])))) vb_nil))) vb_nil))))
  (vss_cons (vs_if (vt_vw (vw_or (vt_not (vt_val (ve_call C__law_same (hr.mono (by omega)) [] (vb_ex (Mb := []) (ve_v 5) (vb_ex (Mb := []) (ve_v 3) vb_nil))))) (vw_or1 (vt_not (vt_val (ve_call C__law_same (hr.mono (by omega)) [] (vb_ex (Mb := []) (ve_call C_values_of (hr.mono (by omega)) [] (vb_ex (Mb := []) (ve_v 1) (vb_ex (Mb := []) (ve_v 5) (vb_ex (Mb := []) (ve_callB cs_len m_len b_len (va_cons (Mb := []) (ve_v 2) (va_nil (R := [])))) vb_nil)))) (vb_ex (Mb := []) (ve_v 2) vb_nil))))))))
  (vss_one (vs_ret ve_bl))
  vss_nil)
  (vss_one (vs_if (vt_not (vt_val (ve_call C__law_same (hr.mono (by omega)) [] (vb_ex (Mb := []) (ve_call C_count_lost (hr.mono (by omega)) [] (vb_ex (Mb := []) (ve_v 1) (vb_ex (Mb := []) (ve_tup (va_cons (Mb := []) (ve_v 4) (va_nil (R := [])))) (vb_ex (Mb := []) (ve_callB cs_len m_len b_len (va_cons (Mb := []) (ve_v 2) (va_nil (R := [])))) vb_nil)))) (vb_ex (Mb := []) ve_int vb_nil)))))
  (vss_one (vs_ret ve_bl))
  vss_nil)))))
  (vss_cons (vs_set 6 hN (ve_lst (va_nil (R := []))))
  (vss_cons (vs_for (Mb := [0, 6, 7, 8]) (vi_seq (ve_v 3)) (vg_n 7 hN)
  (vss_cons (vs_set 8 hN (ve_call C__law_take (hr.mono (by omega)) [(0, 0)] (vb_nm 0 (vb_ex (Mb := []) (ve_v 1) vb_nil))))
  (vss_one (vs_expr (ve_meth 6 PySem.F.slot_list_append PySem.F.type_list_append ms_app (va_cons (Mb := []) (ve_op (Mb := []) ops_add (ve_op (Mb := []) ops_add (ve_sl (Mb := []) (ve_v 7) vo_none (vo_some (ve_v 8))) (ve_tup (va_cons (Mb := []) ve_non (va_nil (R := []))))) (ve_sl (Mb := []) (ve_v 7) (vo_some (ve_op (Mb := []) ops_add (ve_v 8) ve_int)) vo_none)) (va_nil (R := []))))))))
  (vss_cons (vs_if (vt_not (vt_val (ve_call C__law_same (hr.mono (by omega)) [] (vb_ex (Mb := []) (ve_call C_mended_stripes (hr.mono (by omega)) [] (vb_ex (Mb := []) (ve_v 1) (vb_ex (Mb := []) (ve_callT cs_tuple m_tuple b_tuple (va_cons (Mb := []) (ve_v 6) (va_nil (R := [])))) vb_nil))) (vb_ex (Mb := []) (ve_v 3) vb_nil)))))
  (vss_one (vs_ret ve_bl))
  vss_nil)
  (vss_cons (vs_set 9 hN (ve_call C__law_take (hr.mono (by omega)) [(0, 0)] (vb_nm 0 (vb_ex (Mb := []) (ve_v 1) vb_nil))))
  (vss_cons (vs_set 10 hN (ve_op (Mb := []) ops_mod (ve_callT cs_int m_int b_int (va_cons (Mb := []) (ve_op (Mb := [0]) ops_add (ve_op (Mb := []) ops_add (ve_v 9) ve_int) (ve_call C__law_take (hr.mono (by omega)) [(0, 0)] (vb_nm 0 (vb_ex (Mb := []) (ve_op (Mb := []) ops_sub (ve_v 1) ve_int) vb_nil)))) (va_nil (R := [])))) (ve_v 1)))
  (vss_cons (vs_set 11 hN (ve_callT cs_tuple m_tuple b_tuple (va_cons (Mb := []) (ve_callB cs_sorted m_sorted b_sorted (va_cons (Mb := []) (ve_lst (va_cons (Mb := []) (ve_vf 9) (va_cons (Mb := []) (ve_vf 10) (va_nil (R := []))))) (va_nil (R := [])))) (va_nil (R := [])))))
  (vss_cons (vs_set 12 hN (ve_call C__law_without (hr.mono (by omega)) [] (vb_ex (Mb := []) (ve_v 3) (vb_ex (Mb := []) (ve_v 11) vb_nil))))
  (vss_cons (vs_if (vt_not (vt_val (ve_call C__law_same (hr.mono (by omega)) [] (vb_ex (Mb := []) (ve_call C_mended_stripes (hr.mono (by omega)) [] (vb_ex (Mb := []) (ve_v 1) (vb_ex (Mb := []) (ve_v 12) vb_nil))) (vb_ex (Mb := []) (ve_v 12) vb_nil)))))
  (vss_one (vs_ret ve_bl))
  vss_nil)
  (vss_cons (vs_set 13 hN (ve_callT cs_tuple m_tuple b_tuple (va_cons (Mb := []) (ve_lc (own := [("row", 7)]) (Mi := []) hN (vi_seq (ve_v 3)) (blkOk_by (by rfl)) (fun _ _ _ _ _ => (vg_n 7 hN)) (fun _ _ _ _ _ => vts_nil) (fun _ _ _ _ _ => (ve_callT cs_tuple m_tuple b_tuple (va_cons (Mb := []) (ve_lc (own := [("disk", 4)]) (Mi := []) hN (vi_rng1 m_range (va_cons (Mb := []) (ve_v 1) (va_nil (R := [])))) (blkOk_by (by rfl)) (fun _ _ _ _ _ => (vg_n 4 hN)) (fun _ _ _ _ _ => vts_nil) (fun _ _ _ _ _ => (ve_op (Mb := []) ops_xor (ve_ix (Mb := []) ixs (fun _ _ => rfl) (ve_v 7) (ve_v 4)) (ve_op (Mb := []) ops_mul ve_int (ve_callT cs_int m_int b_int (va_cons (Mb := []) (ve_in (Mb := []) (r65 hr) (by rfl) (ve_v 4) (ve_v 11)) (va_nil (R := [])))))))) (va_nil (R := [])))))) (va_nil (R := [])))))
  (vss_cons (vs_if (vt_vw (vw_or (vt_not (vt_val (ve_call C__law_same (hr.mono (by omega)) [] (vb_ex (Mb := []) (ve_call C_is_whole_row (hr.mono (by omega)) [] (vb_ex (Mb := []) (ve_v 13) vb_nil)) (vb_ex (Mb := []) ve_bl vb_nil))))) (vw_or1 (vt_cmp (Mb := []) (ops_ne (r64 hr)) (nomark _) (ve_call C__law_without (hr.mono (by omega)) [] (vb_ex (Mb := []) (ve_v 13) (vb_ex (Mb := []) (ve_v 11) vb_nil))) (ve_v 12)))))
  (vss_one (vs_ret ve_bl))
  vss_nil)
  (vss_cons (vs_set 14 hN (ve_callB cs_len m_len b_len (va_cons (Mb := []) (ve_lc (own := [("at", 8)]) (Mi := []) hN (vi_rng1 m_range (va_cons (Mb := []) (ve_callB cs_len m_len b_len (va_cons (Mb := []) (ve_v 2) (va_nil (R := [])))) (va_nil (R := [])))) (blkOk_by (by rfl)) (fun _ _ _ _ _ => (vg_n 8 hN)) (fun _ _ _ _ _ => (vts_one (vt_in (Mb := []) (r65 hr) (by rfl) (ve_ix (Mb := []) ixs (fun _ _ => rfl) (ve_call C_disk_of_value (hr.mono (by omega)) [] (vb_ex (Mb := []) (ve_v 1) (vb_ex (Mb := []) (ve_v 8) vb_nil))) ve_int) (ve_v 11)))) (fun _ _ _ _ _ => (ve_vf 8))) (va_nil (R := [])))))
  (vss_one (vs_ret (ve_call C__law_same (hr.mono (by omega)) [] (vb_ex (Mb := []) (ve_call C_count_lost (hr.mono (by omega)) [] (vb_ex (Mb := []) (ve_v 1) (vb_ex (Mb := []) (ve_v 11) (vb_ex (Mb := []) (ve_callB cs_len m_len b_len (va_cons (Mb := []) (ve_v 2) (va_nil (R := [])))) vb_nil)))) (vb_ex (Mb := []) (ve_v 14) vb_nil)))))))))))))))))
/-! _law_added -/
theorem sc__law_added : FnScope ["numbers", "found", "number"] ["numbers"] (defScope (topS 18)) := ⟨rfl, rfl, rfl, by decide +kernel, rfl, by decide +kernel, by decide +kernel⟩
def B1__law_added : Ev → Option Out :=
  (sAsg (eOp dXor (eV 1) (eV 2)) (gN 1))
def G__law_added : Ev → Option Out :=
  (sSeq (sAsg (eC (.int 0)) (gN 1))
  (sSeq (sFor (iSeq (eV 0)) (gN 2) B1__law_added)
  (sRet (eLf (eV 1)))))
def F__law_added : Fn := runF 1 3 [] [] G__law_added
theorem c__law_added {f : Addr} {fd : FuncData} (Fd : L2.Fun K "_law_added" "_law_added" (topS 18) f fd) (hm : mg "_law_added" = some (.ref f)) (hb : Binds K fd ["numbers"] [])   : Cal P w K mg base 1 "_law_added" ["numbers"] [] F__law_added :=
  cal_of (k := 0) (A := [1, 2]) (M := [1, 2]) (g := G__law_added) Fd sc__law_added hm hb (by decide) (fun _ => rfl) fun cdv Ar outer s H E hr => by
    have hN := sc__law_added.nd
    exact
  (vss_cons (vs_set 1 hN ve_int)
  (vss_cons (vs_for (Mb := [1, 2]) (vi_seq (ve_v 0)) (vg_n 2 hN)
  (vss_one (vs_set 1 hN (ve_op (Mb := []) ops_xor (ve_v 1) (ve_v 2)))))
  (vss_one (vs_ret (ve_vf 1)))))
/-! _law_stripes -/
theorem sc__law_stripes : FnScope ["n", "values", "found", "at", "rows", "s", "row"] ["n", "values"] (defScope (topS 19)) := ⟨rfl, rfl, rfl, by decide +kernel, rfl, by decide +kernel, by decide +kernel⟩
def B1__law_stripes : Ev → Option Out :=
  (sSeq (sIf (tV (eOp dEq (eOp dMod (eB gInt (aCons (eV 3) aNil)) (eOp dSub (eV 0) (eC (.int 1)))) (eC (.int 0))))
  (sDrop (eMeth 2 mApp (aCons (eLst aNil) aNil)))
  sNil)
  (sDrop (eMethIx 2 (eUn dNeg (eC (.int 1))) mApp (aCons (eLf (eOp dIx (eV 1) (eV 3))) aNil))))
def B2__law_stripes : Ev → Option Out :=
  (sSeq (sAsg (eOp dAdd (eOp dIx (eV 2) (eV 5)) (eOp dMul (eLst (aCons (eC (.int 0)) aNil)) (eOp dSub (eOp dSub (eV 0) (eC (.int 1))) (eB gLen (aCons (eOp dIx (eV 2) (eV 5)) aNil))))) (gN 6))
  (sSeq (sDrop (eMeth 6 mIns (aCons (eOp dMod (eB gInt (aCons (eV 5) aNil)) (eV 0)) (aCons (eCall F__law_added [] [none] (aCons (eV 6) aNil)) aNil))))
  (sDrop (eMeth 4 mApp (aCons (eB gTuple (aCons (eV 6) aNil)) aNil)))))
def G__law_stripes : Ev → Option Out :=
  (sSeq (sAsg (eLst aNil) (gN 2))
  (sSeq (sFor (iRng1 (aCons (eB gLen (aCons (eV 1) aNil)) aNil)) (gN 3) B1__law_stripes)
  (sSeq (sAsg (eLst aNil) (gN 4))
  (sSeq (sFor (iRng1 (aCons (eB gLen (aCons (eV 2) aNil)) aNil)) (gN 5) B2__law_stripes)
  (sRet (eB gTuple (aCons (eV 4) aNil)))))))
def F__law_stripes : Fn := runF 2 7 [] [] G__law_stripes
theorem c__law_stripes {f : Addr} {fd : FuncData} (Fd : L2.Fun K "_law_stripes" "_law_stripes" (topS 19) f fd) (hm : mg "_law_stripes" = some (.ref f)) (hb : Binds K fd ["n", "values"] []) (m_int : mg "int" = none) (m_len : mg "len" = none) (m_range : mg "range" = none) (m_tuple : mg "tuple" = none) (C__law_added : Cal P w K mg base 1 "_law_added" ["numbers"] [] F__law_added) : Cal P w K mg base 2 "_law_stripes" ["n", "values"] [] F__law_stripes :=
  cal_of (k := 1) (A := [2, 3, 4, 5, 6]) (M := [2, 3, 4, 5, 6]) (g := G__law_stripes) Fd sc__law_stripes hm hb (by decide) (fun _ => rfl) fun cdv Ar outer s H E hr => by
    have hN := sc__law_stripes.nd
    exact
  (vss_cons (vs_set 2 hN (ve_lst (va_nil (R := []))))
  (vss_cons (vs_for (Mb := [2, 3]) (vi_rng1 m_range (va_cons (Mb := []) (ve_callB cs_len m_len b_len (va_cons (Mb := []) (ve_v 1) (va_nil (R := [])))) (va_nil (R := [])))) (vg_n 3 hN)
  (vss_cons (vs_if (vt_cmp (Mb := []) (ops_eq (r64 hr)) (nomark _) (ve_op (Mb := []) ops_mod (ve_callT cs_int m_int b_int (va_cons (Mb := []) (ve_v 3) (va_nil (R := [])))) (ve_op (Mb := []) ops_sub (ve_v 0) ve_int)) ve_int)
  (vss_one (vs_expr (ve_meth 2 PySem.F.slot_list_append PySem.F.type_list_append ms_app (va_cons (Mb := []) (ve_lst (va_nil (R := []))) (va_nil (R := []))))))
  vss_nil)
  (vss_one (vs_expr (ve_methIx (Mb := []) 2 PySem.F.slot_list_append PySem.F.type_list_append (fun _ _ => rfl) ms_app (ve_un uns_neg ve_int) (va_cons (Mb := []) (ve_lf (Rb := []) (ve_ix (Mb := []) ixs (fun _ _ => rfl) (ve_v 1) (ve_v 3))) (va_nil (R := []))))))))
  (vss_cons (vs_set 4 hN (ve_lst (va_nil (R := []))))
  (vss_cons (vs_for (Mb := [4, 5, 6]) (vi_rng1 m_range (va_cons (Mb := []) (ve_callB cs_len m_len b_len (va_cons (Mb := []) (ve_v 2) (va_nil (R := [])))) (va_nil (R := [])))) (vg_n 5 hN)
  (vss_cons (vs_set 6 hN (ve_op (Mb := []) ops_add (ve_ix (Mb := []) ixs (fun _ _ => rfl) (ve_v 2) (ve_v 5)) (ve_op (Mb := []) ops_mul (ve_lst (va_cons (Mb := []) ve_int (va_nil (R := [])))) (ve_op (Mb := []) ops_sub (ve_op (Mb := []) ops_sub (ve_v 0) ve_int) (ve_callB cs_len m_len b_len (va_cons (Mb := []) (ve_ix (Mb := []) ixs (fun _ _ => rfl) (ve_v 2) (ve_v 5)) (va_nil (R := []))))))))
  (vss_cons (vs_expr (ve_meth 6 PySem.F.slot_list_insert PySem.F.type_list_insert ms_ins (va_cons (Mb := []) (ve_op (Mb := []) ops_mod (ve_callT cs_int m_int b_int (va_cons (Mb := []) (ve_v 5) (va_nil (R := [])))) (ve_v 0)) (va_cons (Mb := []) (ve_call C__law_added (hr.mono (by omega)) [] (vb_ex (Mb := []) (ve_v 6) vb_nil)) (va_nil (R := []))))))
  (vss_one (vs_expr (ve_meth 4 PySem.F.slot_list_append PySem.F.type_list_append ms_app (va_cons (Mb := []) (ve_callT cs_tuple m_tuple b_tuple (va_cons (Mb := []) (ve_v 6) (va_nil (R := [])))) (va_nil (R := [])))))))))
  (vss_one (vs_ret (ve_callT cs_tuple m_tuple b_tuple (va_cons (Mb := []) (ve_v 4) (va_nil (R := []))))))))))
/-! reads_for -/
theorem sc_reads_for : FnScope ["n", "changed"] ["n", "changed"] (defScope (topS 8)) := ⟨rfl, rfl, rfl, by decide +kernel, rfl, by decide +kernel, by decide +kernel⟩
def G_reads_for : Ev → Option Out :=
  (sSeq (sIf (tV (eOp dInA (eV 1) (eTup (aCons (eC (.int 0)) (aCons (eOp dSub (eV 0) (eC (.int 1))) aNil)))))
  (sRet (eC (.int 0)))
  sNil)
  (sRet (eB gMinL (aCons (eOp dAdd (eV 1) (eC (.int 1))) (aCons (eOp dSub (eOp dSub (eV 0) (eC (.int 1))) (eV 1)) aNil)))))
def F_reads_for : Fn := runF 2 2 [] [] G_reads_for
theorem c_reads_for {f : Addr} {fd : FuncData} (Fd : L2.Fun K "reads_for" "reads_for" (topS 8) f fd) (hm : mg "reads_for" = some (.ref f)) (hb : Binds K fd ["n", "changed"] []) (m_min : mg "min" = none)  : Cal P w K mg base 1 "reads_for" ["n", "changed"] [] F_reads_for :=
  cal_of (k := 0) (A := []) (M := []) (g := G_reads_for) Fd sc_reads_for hm hb (by decide) (fun _ => rfl) fun cdv Ar outer s H E hr => by
    have hN := sc_reads_for.nd
    exact
  (vss_cons (vs_if (vt_in (Mb := []) (r65 hr) (by rfl) (ve_v 1) (ve_tup (va_cons (Mb := []) ve_int (va_cons (Mb := []) (ve_op (Mb := []) ops_sub (ve_v 0) ve_int) (va_nil (R := []))))))
  (vss_one (vs_ret ve_int))
  vss_nil)
  (vss_one (vs_ret (ve_callB cs_min m_min b_min (va_cons (Mb := []) (ve_op (Mb := []) ops_add (ve_v 1) ve_int) (va_cons (Mb := []) (ve_op (Mb := []) ops_sub (ve_op (Mb := []) ops_sub (ve_v 0) ve_int) (ve_v 1)) (va_nil (R := []))))))))
/-! writes_for -/
theorem sc_writes_for : FnScope ["n", "at", "many", "first", "whole", "last", "writes"] ["n", "at", "many"] (defScope (topS 9)) := ⟨rfl, rfl, rfl, by decide +kernel, rfl, by decide +kernel, by decide +kernel⟩
def G_writes_for : Ev → Option Out :=
  (sSeq (sAsg (eB gMinL (aCons (eV 2) (aCons (eOp dMod (eUn dNeg (eV 1)) (eOp dSub (eV 0) (eC (.int 1)))) aNil))) (gN 3))
  (sSeq (sPar 4 5 (aCons (eOp dDiv (eOp dSub (eV 2) (eV 3)) (eOp dSub (eV 0) (eC (.int 1)))) (aCons (eOp dMod (eOp dSub (eV 2) (eV 3)) (eOp dSub (eV 0) (eC (.int 1)))) aNil)))
  (sSeq (sAsg (eOp dAdd (eOp dAdd (eOp dAdd (eV 2) (eV 4)) (eB gInt (aCons (eOp dGt (eV 3) (eC (.int 0))) aNil))) (eB gInt (aCons (eOp dGt (eV 5) (eC (.int 0))) aNil))) (gN 6))
  (sRet (eTup (aCons (eOp dAdd (eCall F_reads_for [] [none, none] (aCons (eV 0) (aCons (eV 3) aNil))) (eCall F_reads_for [] [none, none] (aCons (eV 0) (aCons (eV 5) aNil)))) (aCons (eLf (eV 6)) aNil)))))))
def F_writes_for : Fn := runF 3 7 [] [] G_writes_for
theorem c_writes_for {f : Addr} {fd : FuncData} (Fd : L2.Fun K "writes_for" "writes_for" (topS 9) f fd) (hm : mg "writes_for" = some (.ref f)) (hb : Binds K fd ["n", "at", "many"] []) (m_int : mg "int" = none) (m_min : mg "min" = none) (C_reads_for : Cal P w K mg base 1 "reads_for" ["n", "changed"] [] F_reads_for) : Cal P w K mg base 2 "writes_for" ["n", "at", "many"] [] F_writes_for :=
  cal_of (k := 1) (A := [3, 4, 5, 6]) (M := [3, 4, 5, 6]) (g := G_writes_for) Fd sc_writes_for hm hb (by decide) (fun _ => rfl) fun cdv Ar outer s H E hr => by
    have hN := sc_writes_for.nd
    exact
  (vss_cons (vs_set 3 hN (ve_callB cs_min m_min b_min (va_cons (Mb := []) (ve_v 2) (va_cons (Mb := []) (ve_op (Mb := []) ops_mod (ve_un uns_neg (ve_v 1)) (ve_op (Mb := []) ops_sub (ve_v 0) ve_int)) (va_nil (R := []))))))
  (vss_cons (vs_par 4 5 hN (va_cons (Mb := []) (ve_op (Mb := []) ops_div (ve_op (Mb := []) ops_sub (ve_v 2) (ve_v 3)) (ve_op (Mb := []) ops_sub (ve_v 0) ve_int)) (va_cons (Mb := []) (ve_op (Mb := []) ops_mod (ve_op (Mb := []) ops_sub (ve_v 2) (ve_v 3)) (ve_op (Mb := []) ops_sub (ve_v 0) ve_int)) (va_nil (R := [])))))
  (vss_cons (vs_set 6 hN (ve_op (Mb := []) ops_add (ve_op (Mb := []) ops_add (ve_op (Mb := []) ops_add (ve_v 2) (ve_v 4)) (ve_callT cs_int m_int b_int (va_cons (Mb := []) (ve_cmp (Mb := []) ops_gt (nomark _) (ve_v 3) ve_int) (va_nil (R := []))))) (ve_callT cs_int m_int b_int (va_cons (Mb := []) (ve_cmp (Mb := []) ops_gt (nomark _) (ve_v 5) ve_int) (va_nil (R := []))))))
  (vss_one (vs_ret (ve_tup (va_cons (Mb := []) (ve_op (Mb := []) ops_add (ve_call C_reads_for (hr.mono (by omega)) [] (vb_ex (Mb := []) (ve_v 0) (vb_ex (Mb := []) (ve_v 3) vb_nil))) (ve_call C_reads_for (hr.mono (by omega)) [] (vb_ex (Mb := []) (ve_v 0) (vb_ex (Mb := []) (ve_v 5) vb_nil)))) (va_cons (Mb := []) (ve_vf 6) (va_nil (R := []))))))))))
/-! _law_changed_right -/
theorem sc__law_changed_right : FnScope ["draws", "script", "n", "values", "rows", "at", "many", "by", "later", "told", "written", "k", "s", "disk", "others", "both", "second", "added_v"] ["draws", "script", "n", "values", "rows"] (defScope (topS 23)) := ⟨rfl, rfl, rfl, by decide +kernel, rfl, by decide +kernel, by decide +kernel⟩
def B1__law_changed_right : Ev → Option Out :=
  (sSeq (sAsg (eCall F_disk_of_value [] [none, none] (aCons (eV 2) (aCons (eV 11) aNil))) (gT 2 (gsCons (gN 12) (gsCons (gN 13) gsNil))))
  (sSeq (sSub 10 (eC (.bl true)) (eTup (aCons (eV 12) (aCons (eV 13) aNil))))
  (sSub 10 (eC (.bl true)) (eTup (aCons (eV 12) (aCons (eOp dMod (eB gInt (aCons (eV 12) aNil)) (eV 2)) aNil))))))
def B2__law_changed_right : Ev → Option Out :=
  (sIf (tA (tV (eOp dNotInA (eTup (aCons (eV 12) (aCons (eV 13) aNil))) (eV 10))) (tV (eOp dNe (eOp dIx (eOp dIx (eV 9) (eV 12)) (eV 13)) (eOp dIx (eOp dIx (eV 4) (eV 12)) (eV 13)))))
  (sRet (eC (.bl false)))
  sNil)
def B3__law_changed_right : Ev → Option Out :=
  (sFor (iRng1 (aCons (eV 2) aNil)) (gN 13) B2__law_changed_right)
def G__law_changed_right : Ev → Option Out :=
  (sSeq (sAsg (eCall F__law_take [(0, 0)] [some 0, none] (bNm 0 (aCons (eB gLen (aCons (eV 3) aNil)) aNil))) (gN 5))
  (sSeq (sAsg (eOp dAdd (eC (.int 1)) (eCall F__law_take [(0, 0)] [some 0, none] (bNm 0 (aCons (eOp dSub (eB gLen (aCons (eV 3) aNil)) (eV 5)) aNil)))) (gN 6))
  (sSeq (sAsg (eOp dAdd (eOp dAdd (eC (.int 1)) (eCall F__law_take [(0, 0)] [some 0, none] (bNm 0 (aCons (eC (.int 9)) aNil)))) (eCall F__law_size [(0, 0)] [some 0, none] (bNm 0 (aCons (eV 1) aNil)))) (gN 7))
  (sSeq (sAsg (eOp dAdd (eOp dAdd (eSl (eV 3) oN (oS (eV 5))) (eB gTuple (aCons (eLc [11] (iRng2 (aCons (eV 5) (aCons (eOp dAdd (eV 5) (eV 6)) aNil))) (gN 11) tY (eOp dXor (eOp dIx (eV 3) (eV 11)) (eV 7))) aNil))) (eSl (eV 3) (oS (eOp dAdd (eV 5) (eV 6))) oN)) (gN 8))
  (sSeq (sAsg (eCall F_stripes_of [] [none, none] (aCons (eV 2) (aCons (eV 8) aNil))) (gN 9))
  (sSeq (sIf (tN (tV (eCall F__law_same [] [none, none] (aCons (eV 9) (aCons (eCall F__law_stripes [] [none, none] (aCons (eV 2) (aCons (eV 8) aNil))) aNil)))))
  (sRet (eC (.bl false)))
  sNil)
  (sSeq (sAsg (eC (.dtt [])) (gN 10))
  (sSeq (sFor (iRng2 (aCons (eV 5) (aCons (eOp dAdd (eV 5) (eV 6)) aNil))) (gN 11) B1__law_changed_right)
  (sSeq (sIf (tV (eOp dNe (eOp dIx (eCall F_writes_for [] [none, none, none] (aCons (eV 2) (aCons (eV 5) (aCons (eV 6) aNil)))) (eC (.int 1))) (eB gLen (aCons (eV 10) aNil))))
  (sRet (eC (.bl false)))
  sNil)
  (sSeq (sFor (iRng1 (aCons (eB gLen (aCons (eV 4) aNil)) aNil)) (gN 12) B3__law_changed_right)
  (sSeq (sAsg (eCall F__law_values [(0, 0)] [some 0, none, none] (bNm 0 (aCons (eV 1) (aCons (eB gLen (aCons (eV 3) aNil)) aNil)))) (gN 14))
  (sSeq (sAsg (eCall F_stripes_of [] [none, none] (aCons (eV 2) (aCons (eB gTuple (aCons (eLc [11] (iRng1 (aCons (eB gLen (aCons (eV 3) aNil)) aNil)) (gN 11) tY (eOp dXor (eOp dIx (eV 3) (eV 11)) (eOp dIx (eV 14) (eV 11)))) aNil)) aNil))) (gN 15))
  (sSeq (sAsg (eCall F_stripes_of [] [none, none] (aCons (eV 2) (aCons (eV 14) aNil))) (gN 16))
  (sSeq (sAsg (eB gTuple (aCons (eLc [12] (iRng1 (aCons (eB gLen (aCons (eV 4) aNil)) aNil)) (gN 12) tY (eB gTuple (aCons (eLc [13] (iRng1 (aCons (eV 2) aNil)) (gN 13) tY (eOp dXor (eOp dIx (eOp dIx (eV 4) (eV 12)) (eV 13)) (eOp dIx (eOp dIx (eV 16) (eV 12)) (eV 13)))) aNil))) aNil)) (gN 17))
  (sRet (eCall F__law_same [] [none, none] (aCons (eV 15) (aCons (eV 17) aNil))))))))))))))))))
def F__law_changed_right : Fn := runF 5 18 [0] [] G__law_changed_right
theorem c__law_changed_right {f : Addr} {fd : FuncData} (Fd : L2.Fun K "_law_changed_right" "_law_changed_right" (topS 23) f fd) (hm : mg "_law_changed_right" = some (.ref f)) (hb : Binds K fd ["draws", "script", "n", "values", "rows"] []) (m_int : mg "int" = none) (m_len : mg "len" = none) (m_range : mg "range" = none) (m_tuple : mg "tuple" = none) (C__law_take : Cal P w K mg base 1 "_law_take" ["draws", "many"] [0] F__law_take) (C__law_size : Cal P w K mg base 2 "_law_size" ["draws", "script"] [0] F__law_size) (C_stripes_of : Cal P w K mg base 2 "stripes_of" ["n", "values"] [] F_stripes_of) (C__law_same : Cal P w K mg base 13 "_law_same" ["actual", "due"] [] F__law_same) (C__law_stripes : Cal P w K mg base 2 "_law_stripes" ["n", "values"] [] F__law_stripes) (C_disk_of_value : Cal P w K mg base 1 "disk_of_value" ["n", "at"] [] F_disk_of_value) (C_writes_for : Cal P w K mg base 2 "writes_for" ["n", "at", "many"] [] F_writes_for) (C__law_values : Cal P w K mg base 3 "_law_values" ["draws", "script", "many"] [0] F__law_values) : Cal P w K mg base 14 "_law_changed_right" ["draws", "script", "n", "values", "rows"] [0] F__law_changed_right :=
  cal_of (k := 13) (A := [5, 6, 7, 8, 9, 10, 11, 12, 13, 14, 15, 16, 17]) (M := [0, 5, 6, 7, 8, 9, 10, 11, 12, 13, 14, 15, 16, 17]) (g := G__law_changed_right) Fd sc__law_changed_right hm hb (by decide) (fun _ => rfl) fun cdv Ar outer s H E hr => by
    have hN := sc__law_changed_right.nd
    exact
  (vss_cons (vs_set 5 hN (ve_call C__law_take (hr.mono (by omega)) [(0, 0)] (vb_nm 0 (vb_ex (Mb := []) (ve_callB cs_len m_len b_len (va_cons (Mb := []) (ve_v 3) (va_nil (R := [])))) vb_nil))))
  (vss_cons (vs_set 6 hN (ve_op (Mb := [0]) ops_add ve_int (ve_call C__law_take (hr.mono (by omega)) [(0, 0)] (vb_nm 0 (vb_ex (Mb := []) (ve_op (Mb := []) ops_sub (ve_callB cs_len m_len b_len (va_cons (Mb := []) (ve_v 3) (va_nil (R := [])))) (ve_v 5)) vb_nil)))))
  (vss_cons (vs_set 7 hN (ve_op (Mb := [0]) ops_add (ve_op (Mb := [0]) ops_add ve_int (ve_call C__law_take (hr.mono (by omega)) [(0, 0)] (vb_nm 0 (vb_ex (Mb := []) ve_int vb_nil)))) (ve_call C__law_size (hr.mono (by omega)) [(0, 0)] (vb_nm 0 (vb_ex (Mb := []) (ve_v 1) vb_nil)))))
  (vss_cons (vs_set 8 hN (ve_op (Mb := []) ops_add (ve_op (Mb := []) ops_add (ve_sl (Mb := []) (ve_v 3) vo_none (vo_some (ve_v 5))) (ve_callT cs_tuple m_tuple b_tuple (va_cons (Mb := []) (ve_lc (own := [("k", 11)]) (Mi := []) hN (vi_rng2 m_range (va_cons (Mb := []) (ve_v 5) (va_cons (Mb := []) (ve_op (Mb := []) ops_add (ve_v 5) (ve_v 6)) (va_nil (R := []))))) (blkOk_by (by rfl)) (fun _ _ _ _ _ => (vg_n 11 hN)) (fun _ _ _ _ _ => vts_nil) (fun _ _ _ _ _ => (ve_op (Mb := []) ops_xor (ve_ix (Mb := []) ixs (fun _ _ => rfl) (ve_v 3) (ve_v 11)) (ve_v 7)))) (va_nil (R := []))))) (ve_sl (Mb := []) (ve_v 3) (vo_some (ve_op (Mb := []) ops_add (ve_v 5) (ve_v 6))) vo_none)))
  (vss_cons (vs_set 9 hN (ve_call C_stripes_of (hr.mono (by omega)) [] (vb_ex (Mb := []) (ve_v 2) (vb_ex (Mb := []) (ve_v 8) vb_nil))))
  (vss_cons (vs_if (vt_not (vt_val (ve_call C__law_same (hr.mono (by omega)) [] (vb_ex (Mb := []) (ve_v 9) (vb_ex (Mb := []) (ve_call C__law_stripes (hr.mono (by omega)) [] (vb_ex (Mb := []) (ve_v 2) (vb_ex (Mb := []) (ve_v 8) vb_nil))) vb_nil)))))
  (vss_one (vs_ret ve_bl))
  vss_nil)
  (vss_cons (vs_set 10 hN ve_dnewT)
  (vss_cons (vs_for (Mb := [10, 11, 12, 13]) (vi_rng2 m_range (va_cons (Mb := []) (ve_v 5) (va_cons (Mb := []) (ve_op (Mb := []) ops_add (ve_v 5) (ve_v 6)) (va_nil (R := []))))) (vg_n 11 hN)
  (vss_cons (vs_asg (ve_call C_disk_of_value (hr.mono (by omega)) [] (vb_ex (Mb := []) (ve_v 2) (vb_ex (Mb := []) (ve_v 11) vb_nil))) (vg_t rfl (vgs_cons (vg_n 12 hN) (vgs_cons (vg_n 13 hN) vgs_nil))))
  (vss_cons (vs_sub (Mb := []) 10 (r64 hr) ve_bl (ve_tup (va_cons (Mb := []) (ve_v 12) (va_cons (Mb := []) (ve_v 13) (va_nil (R := []))))))
  (vss_one (vs_sub (Mb := []) 10 (r64 hr) ve_bl (ve_tup (va_cons (Mb := []) (ve_v 12) (va_cons (Mb := []) (ve_op (Mb := []) ops_mod (ve_callT cs_int m_int b_int (va_cons (Mb := []) (ve_v 12) (va_nil (R := [])))) (ve_v 2)) (va_nil (R := []))))))))))
  (vss_cons (vs_if (vt_cmp (Mb := []) (ops_ne (r64 hr)) (nomark _) (ve_ix (Mb := []) ixs (fun _ _ => rfl) (ve_call C_writes_for (hr.mono (by omega)) [] (vb_ex (Mb := []) (ve_v 2) (vb_ex (Mb := []) (ve_v 5) (vb_ex (Mb := []) (ve_v 6) vb_nil)))) ve_int) (ve_callB cs_len m_len b_len (va_cons (Mb := []) (ve_v 10) (va_nil (R := [])))))
  (vss_one (vs_ret ve_bl))
  vss_nil)
  (vss_cons (vs_for (Mb := [12, 13]) (vi_rng1 m_range (va_cons (Mb := []) (ve_callB cs_len m_len b_len (va_cons (Mb := []) (ve_v 4) (va_nil (R := [])))) (va_nil (R := [])))) (vg_n 12 hN)
  (vss_one (vs_for (Mb := [13]) (vi_rng1 m_range (va_cons (Mb := []) (ve_v 2) (va_nil (R := [])))) (vg_n 13 hN)
  (vss_one (vs_if (vt_vw (vw_and (vt_notin (Mb := []) (r65 hr) (by rfl) (ve_tup (va_cons (Mb := []) (ve_v 12) (va_cons (Mb := []) (ve_v 13) (va_nil (R := []))))) (ve_v 10)) (vw_and1 (vt_cmp (Mb := []) (ops_ne (r64 hr)) (nomark _) (ve_ix (Mb := []) ixs (fun _ _ => rfl) (ve_ix (Mb := []) ixs (fun _ _ => rfl) (ve_v 9) (ve_v 12)) (ve_v 13)) (ve_ix (Mb := []) ixs (fun _ _ => rfl) (ve_ix (Mb := []) ixs (fun _ _ => rfl) (ve_v 4) (ve_v 12)) (ve_v 13))))))
  (vss_one (vs_ret ve_bl))
  vss_nil)))))
  (vss_cons (vs_set 14 hN (ve_call C__law_values (hr.mono (by omega)) [(0, 0)] (vb_nm 0 (vb_ex (Mb := []) (ve_v 1) (vb_ex (Mb := []) (ve_callB cs_len m_len b_len (va_cons (Mb := []) (ve_v 3) (va_nil (R := [])))) vb_nil)))))
  (vss_cons (vs_set 15 hN (ve_call C_stripes_of (hr.mono (by omega)) [] (vb_ex (Mb := []) (ve_v 2) (vb_ex (Mb := []) (ve_callT cs_tuple m_tuple b_tuple (va_cons (Mb := []) (ve_lc (own := [("k", 11)]) (Mi := []) hN (vi_rng1 m_range (va_cons (Mb := []) (ve_callB cs_len m_len b_len (va_cons (Mb := []) (ve_v 3) (va_nil (R := [])))) (va_nil (R := [])))) (blkOk_by (by rfl)) (fun _ _ _ _ _ => (vg_n 11 hN)) (fun _ _ _ _ _ => vts_nil) (fun _ _ _ _ _ => (ve_op (Mb := []) ops_xor (ve_ix (Mb := []) ixs (fun _ _ => rfl) (ve_v 3) (ve_v 11)) (ve_ix (Mb := []) ixs (fun _ _ => rfl) (ve_v 14) (ve_v 11))))) (va_nil (R := [])))) vb_nil))))
  (vss_cons (vs_set 16 hN (ve_call C_stripes_of (hr.mono (by omega)) [] (vb_ex (Mb := []) (ve_v 2) (vb_ex (Mb := []) (ve_v 14) vb_nil))))
  (vss_cons (vs_set 17 hN (ve_callT cs_tuple m_tuple b_tuple (va_cons (Mb := []) (ve_lc (own := [("s", 12)]) (Mi := []) hN (vi_rng1 m_range (va_cons (Mb := []) (ve_callB cs_len m_len b_len (va_cons (Mb := []) (ve_v 4) (va_nil (R := [])))) (va_nil (R := [])))) (blkOk_by (by rfl)) (fun _ _ _ _ _ => (vg_n 12 hN)) (fun _ _ _ _ _ => vts_nil) (fun _ _ _ _ _ => (ve_callT cs_tuple m_tuple b_tuple (va_cons (Mb := []) (ve_lc (own := [("disk", 13)]) (Mi := []) hN (vi_rng1 m_range (va_cons (Mb := []) (ve_v 2) (va_nil (R := [])))) (blkOk_by (by rfl)) (fun _ _ _ _ _ => (vg_n 13 hN)) (fun _ _ _ _ _ => vts_nil) (fun _ _ _ _ _ => (ve_op (Mb := []) ops_xor (ve_ix (Mb := []) ixs (fun _ _ => rfl) (ve_ix (Mb := []) ixs (fun _ _ => rfl) (ve_v 4) (ve_v 12)) (ve_v 13)) (ve_ix (Mb := []) ixs (fun _ _ => rfl) (ve_ix (Mb := []) ixs (fun _ _ => rfl) (ve_v 16) (ve_v 12)) (ve_v 13))))) (va_nil (R := [])))))) (va_nil (R := [])))))
  (vss_one (vs_ret (ve_call C__law_same (hr.mono (by omega)) [] (vb_ex (Mb := []) (ve_v 15) (vb_ex (Mb := []) (ve_v 17) vb_nil)))))))))))))))))))
/-! _law_altered_right -/
theorem sc__law_altered_right : FnScope ["draws", "n", "rows", "s", "disk", "by", "row", "other", "places", "own", "there", "k"] ["draws", "n", "rows"] (defScope (topS 24)) := ⟨rfl, rfl, rfl, by decide +kernel, rfl, by decide +kernel, by decide +kernel⟩
def B1__law_altered_right : Ev → Option Out :=
  (sSeq (sAsg (eLc [11] (iRng1 (aCons (eOp dSub (eV 1) (eC (.int 1))) aNil)) (gN 11) tY (eOp dIx (eCall F_disk_of_value [] [none, none] (aCons (eV 1) (aCons (eOp dAdd (eOp dMul (eV 9) (eOp dSub (eV 1) (eC (.int 1)))) (eV 11)) aNil))) (eC (.int 1)))) (gN 10))
  (sAsg (eOp dAdd (eV 8) (eLc [11] (iRng1 (aCons (eV 1) aNil)) (gN 11) (tV (eOp dNotInA (eV 11) (eV 10))) (eLf (eV 11)))) (gN 8)))
def G__law_altered_right : Ev → Option Out :=
  (sSeq (sAsg (eCall F__law_take [(0, 0)] [some 0, none] (bNm 0 (aCons (eB gLen (aCons (eV 2) aNil)) aNil))) (gN 3))
  (sSeq (sAsg (eCall F__law_take [(0, 0)] [some 0, none] (bNm 0 (aCons (eV 1) aNil))) (gN 4))
  (sSeq (sAsg (eOp dAdd (eC (.int 1)) (eCall F__law_take [(0, 0)] [some 0, none] (bNm 0 (aCons (eC (.int 99)) aNil)))) (gN 5))
  (sSeq (sAsg (eOp dAdd (eOp dAdd (eSl (eOp dIx (eV 2) (eV 3)) oN (oS (eV 4))) (eTup (aCons (eOp dXor (eOp dIx (eOp dIx (eV 2) (eV 3)) (eV 4)) (eV 5)) aNil))) (eSl (eOp dIx (eV 2) (eV 3)) (oS (eOp dAdd (eV 4) (eC (.int 1)))) oN)) (gN 6))
  (sSeq (sIf (tO (tN (tV (eCall F__law_same [] [none, none] (aCons (eCall F_bad_stripes [] [none] (aCons (eOp dAdd (eOp dAdd (eSl (eV 2) oN (oS (eV 3))) (eTup (aCons (eV 6) aNil))) (eSl (eV 2) (oS (eOp dAdd (eV 3) (eC (.int 1)))) oN)) aNil)) (aCons (eTup (aCons (eV 3) aNil)) aNil))))) (tN (tV (eCall F__law_same [] [none, none] (aCons (eCall F_is_whole_row [] [none] (aCons (eOp dAdd (eOp dAdd (eSl (eV 2) oN (oS (eV 3))) (eTup (aCons (eV 6) aNil))) (eSl (eV 2) (oS (eOp dAdd (eV 3) (eC (.int 1)))) oN)) aNil)) (aCons (eC (.bl false)) aNil))))))
  (sRet (eC (.bl false)))
  sNil)
  (sSeq (sAsg (eOp dMod (eB gInt (aCons (eOp dAdd (eV 4) (eC (.int 1))) aNil)) (eV 1)) (gN 7))
  (sSeq (sAsg (eOp dAdd (eOp dAdd (eSl (eV 6) oN (oS (eV 7))) (eTup (aCons (eOp dXor (eOp dIx (eV 6) (eV 7)) (eV 5)) aNil))) (eSl (eV 6) (oS (eOp dAdd (eV 7) (eC (.int 1)))) oN)) (gN 6))
  (sSeq (sIf (tN (tV (eCall F__law_same [] [none, none] (aCons (eCall F_bad_stripes [] [none] (aCons (eOp dAdd (eOp dAdd (eSl (eV 2) oN (oS (eV 3))) (eTup (aCons (eV 6) aNil))) (eSl (eV 2) (oS (eOp dAdd (eV 3) (eC (.int 1)))) oN)) aNil)) (aCons (eTup aNil) aNil)))))
  (sRet (eC (.bl false)))
  sNil)
  (sSeq (sAsg (eLst aNil) (gN 8))
  (sSeq (sFor (iRng1 (aCons (eV 1) aNil)) (gN 9) B1__law_altered_right)
  (sRet (eOp dEq (eV 8) (eRgL (eV 1))))))))))))))
def F__law_altered_right : Fn := runF 3 12 [0] [] G__law_altered_right
theorem c__law_altered_right {f : Addr} {fd : FuncData} (Fd : L2.Fun K "_law_altered_right" "_law_altered_right" (topS 24) f fd) (hm : mg "_law_altered_right" = some (.ref f)) (hb : Binds K fd ["draws", "n", "rows"] []) (m_int : mg "int" = none) (m_len : mg "len" = none) (m_list : mg "list" = none) (m_range : mg "range" = none) (C__law_take : Cal P w K mg base 1 "_law_take" ["draws", "many"] [0] F__law_take) (C__law_same : Cal P w K mg base 13 "_law_same" ["actual", "due"] [] F__law_same) (C_bad_stripes : Cal P w K mg base 2 "bad_stripes" ["stripes"] [] F_bad_stripes) (C_is_whole_row : Cal P w K mg base 3 "is_whole_row" ["stripes"] [] F_is_whole_row) (C_disk_of_value : Cal P w K mg base 1 "disk_of_value" ["n", "at"] [] F_disk_of_value) : Cal P w K mg base 14 "_law_altered_right" ["draws", "n", "rows"] [0] F__law_altered_right :=
  cal_of (k := 13) (A := [3, 4, 5, 6, 7, 8, 9, 10]) (M := [0, 3, 4, 5, 6, 7, 8, 9, 10]) (g := G__law_altered_right) Fd sc__law_altered_right hm hb (by decide) (fun _ => rfl) fun cdv Ar outer s H E hr => by
    have hN := sc__law_altered_right.nd
    exact
  (vss_cons (vs_set 3 hN (ve_call C__law_take (hr.mono (by omega)) [(0, 0)] (vb_nm 0 (vb_ex (Mb := []) (ve_callB cs_len m_len b_len (va_cons (Mb := []) (ve_v 2) (va_nil (R := [])))) vb_nil))))
  (vss_cons (vs_set 4 hN (ve_call C__law_take (hr.mono (by omega)) [(0, 0)] (vb_nm 0 (vb_ex (Mb := []) (ve_v 1) vb_nil))))
  (vss_cons (vs_set 5 hN (ve_op (Mb := [0]) ops_add ve_int (ve_call C__law_take (hr.mono (by omega)) [(0, 0)] (vb_nm 0 (vb_ex (Mb := []) ve_int vb_nil)))))
  (vss_cons (vs_set 6 hN (ve_op (Mb := []) ops_add (ve_op (Mb := []) ops_add (ve_sl (Mb := []) (ve_ix (Mb := []) ixs (fun _ _ => rfl) (ve_v 2) (ve_v 3)) vo_none (vo_some (ve_v 4))) (ve_tup (va_cons (Mb := []) (ve_op (Mb := []) ops_xor (ve_ix (Mb := []) ixs (fun _ _ => rfl) (ve_ix (Mb := []) ixs (fun _ _ => rfl) (ve_v 2) (ve_v 3)) (ve_v 4)) (ve_v 5)) (va_nil (R := []))))) (ve_sl (Mb := []) (ve_ix (Mb := []) ixs (fun _ _ => rfl) (ve_v 2) (ve_v 3)) (vo_some (ve_op (Mb := []) ops_add (ve_v 4) ve_int)) vo_none)))
  (vss_cons (vs_if (vt_vw (vw_or (vt_not (vt_val (ve_call C__law_same (hr.mono (by omega)) [] (vb_ex (Mb := []) (ve_call C_bad_stripes (hr.mono (by omega)) [] (vb_ex (Mb := []) (ve_op (Mb := []) ops_add (ve_op (Mb := []) ops_add (ve_sl (Mb := []) (ve_v 2) vo_none (vo_some (ve_v 3))) (ve_tup (va_cons (Mb := []) (ve_v 6) (va_nil (R := []))))) (ve_sl (Mb := []) (ve_v 2) (vo_some (ve_op (Mb := []) ops_add (ve_v 3) ve_int)) vo_none)) vb_nil)) (vb_ex (Mb := []) (ve_tup (va_cons (Mb := []) (ve_v 3) (va_nil (R := [])))) vb_nil))))) (vw_or1 (vt_not (vt_val (ve_call C__law_same (hr.mono (by omega)) [] (vb_ex (Mb := []) (ve_call C_is_whole_row (hr.mono (by omega)) [] (vb_ex (Mb := []) (ve_op (Mb := []) ops_add (ve_op (Mb := []) ops_add (ve_sl (Mb := []) (ve_v 2) vo_none (vo_some (ve_v 3))) (ve_tup (va_cons (Mb := []) (ve_v 6) (va_nil (R := []))))) (ve_sl (Mb := []) (ve_v 2) (vo_some (ve_op (Mb := []) ops_add (ve_v 3) ve_int)) vo_none)) vb_nil)) (vb_ex (Mb := []) ve_bl vb_nil))))))))
  (vss_one (vs_ret ve_bl))
  vss_nil)
  (vss_cons (vs_set 7 hN (ve_op (Mb := []) ops_mod (ve_callT cs_int m_int b_int (va_cons (Mb := []) (ve_op (Mb := []) ops_add (ve_v 4) ve_int) (va_nil (R := [])))) (ve_v 1)))
  (vss_cons (vs_set 6 hN (ve_op (Mb := []) ops_add (ve_op (Mb := []) ops_add (ve_sl (Mb := []) (ve_v 6) vo_none (vo_some (ve_v 7))) (ve_tup (va_cons (Mb := []) (ve_op (Mb := []) ops_xor (ve_ix (Mb := []) ixs (fun _ _ => rfl) (ve_v 6) (ve_v 7)) (ve_v 5)) (va_nil (R := []))))) (ve_sl (Mb := []) (ve_v 6) (vo_some (ve_op (Mb := []) ops_add (ve_v 7) ve_int)) vo_none)))
  (vss_cons (vs_if (vt_not (vt_val (ve_call C__law_same (hr.mono (by omega)) [] (vb_ex (Mb := []) (ve_call C_bad_stripes (hr.mono (by omega)) [] (vb_ex (Mb := []) (ve_op (Mb := []) ops_add (ve_op (Mb := []) ops_add (ve_sl (Mb := []) (ve_v 2) vo_none (vo_some (ve_v 3))) (ve_tup (va_cons (Mb := []) (ve_v 6) (va_nil (R := []))))) (ve_sl (Mb := []) (ve_v 2) (vo_some (ve_op (Mb := []) ops_add (ve_v 3) ve_int)) vo_none)) vb_nil)) (vb_ex (Mb := []) (ve_tup (va_nil (R := []))) vb_nil)))))
  (vss_one (vs_ret ve_bl))
  vss_nil)
  (vss_cons (vs_set 8 hN (ve_lst (va_nil (R := []))))
  (vss_cons (vs_for (Mb := [8, 9, 10]) (vi_rng1 m_range (va_cons (Mb := []) (ve_v 1) (va_nil (R := [])))) (vg_n 9 hN)
  (vss_cons (vs_set 10 hN (ve_lc (own := [("k", 11)]) (Mi := []) hN (vi_rng1 m_range (va_cons (Mb := []) (ve_op (Mb := []) ops_sub (ve_v 1) ve_int) (va_nil (R := [])))) (blkOk_by (by rfl)) (fun _ _ _ _ _ => (vg_n 11 hN)) (fun _ _ _ _ _ => vts_nil) (fun _ _ _ _ _ => (ve_ix (Mb := []) ixs (fun _ _ => rfl) (ve_call C_disk_of_value (hr.mono (by omega)) [] (vb_ex (Mb := []) (ve_v 1) (vb_ex (Mb := []) (ve_op (Mb := []) ops_add (ve_op (Mb := []) ops_mul (ve_v 9) (ve_op (Mb := []) ops_sub (ve_v 1) ve_int)) (ve_v 11)) vb_nil))) ve_int))))
  (vss_one (vs_set 8 hN (ve_op (Mb := []) ops_add (ve_v 8) (ve_lc (own := [("k", 11)]) (Mi := []) hN (vi_rng1 m_range (va_cons (Mb := []) (ve_v 1) (va_nil (R := [])))) (blkOk_by (by rfl)) (fun _ _ _ _ _ => (vg_n 11 hN)) (fun _ _ _ _ _ => (vts_one (vt_notin (Mb := []) (r65 hr) (by rfl) (ve_v 11) (ve_v 10)))) (fun _ _ _ _ _ => (ve_vf 11))))))))
  (vss_one (vs_ret (ve_cmp (Mb := []) (ops_eq (r64 hr)) (nomark _) (ve_v 8) (ve_rgL rfl m_range m_list (ve_v 1)))))))))))))))
/-! law -/
theorem sc_law : FnScope ["script", "draws", "n", "values", "rows", "some"] ["script"] (defScope (topS 25)) := ⟨rfl, rfl, rfl, by decide +kernel, rfl, by decide +kernel, by decide +kernel⟩
def B1_law : Ev → Option Out :=
  (sSeq (sAsg (eCall F__law_values [(0, 1)] [some 1, none, none] (bNm 1 (aCons (eV 0) (aCons (eCall F__law_take [(0, 1)] [some 1, none] (bNm 1 (aCons (eC (.int 41)) aNil))) aNil)))) (gN 3))
  (sSeq (sAsg (eCall F_stripes_of [] [none, none] (aCons (eV 2) (aCons (eV 3) aNil))) (gN 4))
  (sSeq (sIf (tO (tN (tV (eCall F__law_same [] [none, none] (aCons (eV 4) (aCons (eCall F__law_stripes [] [none, none] (aCons (eV 2) (aCons (eV 3) aNil))) aNil))))) (tN (tV (eCall F__law_gone_right [(0, 1)] [some 1, none, none, none] (bNm 1 (aCons (eV 2) (aCons (eV 3) (aCons (eV 4) aNil))))))))
  (sRet (eC (.bl false)))
  sNil)
  (sIf (tA (tV (eOp dGt (eB gLen (aCons (eV 3) aNil)) (eC (.int 0)))) (tO (tN (tV (eCall F__law_changed_right [(0, 1)] [some 1, none, none, none, none] (bNm 1 (aCons (eV 0) (aCons (eV 2) (aCons (eV 3) (aCons (eV 4) aNil)))))))) (tN (tV (eCall F__law_altered_right [(0, 1)] [some 1, none, none] (bNm 1 (aCons (eV 2) (aCons (eV 4) aNil))))))))
  (sRet (eC (.bl false)))
  sNil))))
def G_law : Ev → Option Out :=
  (sSeq (sAsg (eCall F__law_draws [] [none, none] (aCons (eV 0) (aCons (eC (.int 720)) aNil))) (gN 1))
  (sSeq (sFor (iSeq (eLst (aCons (eOp dAdd (eC (.int 2)) (eCall F__law_take [(0, 1)] [some 1, none] (bNm 1 (aCons (eC (.int 3)) aNil)))) (aCons (eOp dAdd (eC (.int 2)) (eCall F__law_take [(0, 1)] [some 1, none] (bNm 1 (aCons (eC (.int 7)) aNil)))) (aCons (eC (.int 3)) aNil))))) (gN 2) B1_law)
  (sSeq (sAsg (eCall F_stripes_of [] [none, none] (aCons (eC (.int 4)) (aCons (eTup (aCons (eC (.int 5)) (aCons (eC (.int 6)) (aCons (eC (.int 7)) (aCons (eC (.int 8)) aNil))))) aNil))) (gN 5))
  (sSeq (sIf (tO (tN (tV (eCall F__law_same [] [none, none] (aCons (eV 5) (aCons (eTup (aCons (eTup (aCons (eC (.int 4)) (aCons (eC (.int 5)) (aCons (eC (.int 6)) (aCons (eC (.int 7)) aNil))))) (aCons (eTup (aCons (eC (.int 8)) (aCons (eC (.int 8)) (aCons (eC (.int 0)) (aCons (eC (.int 0)) aNil))))) aNil))) aNil))))) (tN (tV (eCall F__law_same [] [none, none] (aCons (eCall F_mended_stripes [] [none, none] (aCons (eC (.int 4)) (aCons (eTup (aCons (eTup (aCons (eC (.int 4)) (aCons (eC .non) (aCons (eC (.int 6)) (aCons (eC (.int 7)) aNil))))) (aCons (eTup (aCons (eC (.int 8)) (aCons (eC (.int 8)) (aCons (eC (.int 0)) (aCons (eC .non) aNil))))) aNil))) aNil))) (aCons (eV 5) aNil))))))
  (sRet (eC (.bl false)))
  sNil)
  (sRet (eIf (tV (eCall F__law_same [] [none, none] (aCons (eCall F_count_lost [] [none, none, none] (aCons (eC (.int 4)) (aCons (eTup (aCons (eC (.int 1)) (aCons (eC (.int 2)) aNil))) (aCons (eC (.int 4)) aNil)))) (aCons (eC (.int 2)) aNil)))) (eIf (tV (eCall F__law_same [] [none, none] (aCons (eCall F_bad_stripes [] [none] (aCons (eTup (aCons (eTup (aCons (eC (.int 1)) (aCons (eC (.int 1)) aNil))) (aCons (eTup (aCons (eC (.int 1)) (aCons (eC (.int 2)) aNil))) aNil))) aNil)) (aCons (eTup (aCons (eC (.int 1)) aNil)) aNil)))) (eCall F__law_same [] [none, none] (aCons (eCall F_values_of [] [none, none, none] (aCons (eC (.int 4)) (aCons (eV 5) (aCons (eC (.int 4)) aNil)))) (aCons (eTup (aCons (eC (.int 5)) (aCons (eC (.int 6)) (aCons (eC (.int 7)) (aCons (eC (.int 8)) aNil))))) aNil))) (eC (.bl false))) (eC (.bl false))))))))
def F_law : Fn := runF 1 6 [] [] G_law
theorem f_law {f : Addr} {fd : FuncData} (Fd : L2.Fun K "law" "law" (topS 25) f fd) (m_len : mg "len" = none) (C__law_draws : Cal P w K mg base 1 "_law_draws" ["script", "many"] [] F__law_draws) (C__law_take : Cal P w K mg base 1 "_law_take" ["draws", "many"] [0] F__law_take) (C__law_values : Cal P w K mg base 3 "_law_values" ["draws", "script", "many"] [0] F__law_values) (C_stripes_of : Cal P w K mg base 2 "stripes_of" ["n", "values"] [] F_stripes_of) (C__law_same : Cal P w K mg base 13 "_law_same" ["actual", "due"] [] F__law_same) (C__law_stripes : Cal P w K mg base 2 "_law_stripes" ["n", "values"] [] F__law_stripes) (C__law_gone_right : Cal P w K mg base 14 "_law_gone_right" ["draws", "n", "values", "rows"] [0] F__law_gone_right) (C__law_changed_right : Cal P w K mg base 14 "_law_changed_right" ["draws", "script", "n", "values", "rows"] [0] F__law_changed_right) (C__law_altered_right : Cal P w K mg base 14 "_law_altered_right" ["draws", "n", "rows"] [0] F__law_altered_right) (C_mended_stripes : Cal P w K mg base 2 "mended_stripes" ["n", "stripes"] [] F_mended_stripes) (C_count_lost : Cal P w K mg base 3 "count_lost" ["n", "gone", "many"] [] F_count_lost) (C_bad_stripes : Cal P w K mg base 2 "bad_stripes" ["stripes"] [] F_bad_stripes) (C_values_of : Cal P w K mg base 1 "values_of" ["n", "stripes", "many"] [] F_values_of) : FnOk P w K mg base CX0 15 f fd ["script"] (spF K 1 [] F_law) :=
  fnok_of (k := 14) (A := [1, 2, 3, 4, 5]) (M := [1, 2, 3, 4, 5]) (mu := []) (rb := []) (ps := ["script"]) (g := G_law) Fd sc_law (by decide) (fun _ => rfl) fun cdv Ar outer s H E hr => by
    have hN := sc_law.nd
    exact
  (vss_cons (vs_set 1 hN (ve_call C__law_draws (hr.mono (by omega)) [] (vb_ex (Mb := []) (ve_v 0) (vb_ex (Mb := []) ve_int vb_nil))))
  (vss_cons (vs_for (Mb := [1, 2, 3, 4]) (vi_seq (ve_lst (va_cons (Mb := [1]) (ve_op (Mb := [1]) ops_add ve_int (ve_call C__law_take (hr.mono (by omega)) [(0, 1)] (vb_nm 1 (vb_ex (Mb := []) ve_int vb_nil)))) (va_cons (Mb := []) (ve_op (Mb := [1]) ops_add ve_int (ve_call C__law_take (hr.mono (by omega)) [(0, 1)] (vb_nm 1 (vb_ex (Mb := []) ve_int vb_nil)))) (va_cons (Mb := []) ve_int (va_nil (R := []))))))) (vg_n 2 hN)
  (vss_cons (vs_set 3 hN (ve_call C__law_values (hr.mono (by omega)) [(0, 1)] (vb_nm 1 (vb_ex (Mb := [1]) (ve_v 0) (vb_ex (Mb := []) (ve_call C__law_take (hr.mono (by omega)) [(0, 1)] (vb_nm 1 (vb_ex (Mb := []) ve_int vb_nil))) vb_nil)))))
  (vss_cons (vs_set 4 hN (ve_call C_stripes_of (hr.mono (by omega)) [] (vb_ex (Mb := []) (ve_v 2) (vb_ex (Mb := []) (ve_v 3) vb_nil))))
  (vss_cons (vs_if (vt_vw (vw_or (vt_not (vt_val (ve_call C__law_same (hr.mono (by omega)) [] (vb_ex (Mb := []) (ve_v 4) (vb_ex (Mb := []) (ve_call C__law_stripes (hr.mono (by omega)) [] (vb_ex (Mb := []) (ve_v 2) (vb_ex (Mb := []) (ve_v 3) vb_nil))) vb_nil))))) (vw_or1 (vt_not (vt_val (ve_call C__law_gone_right (hr.mono (by omega)) [(0, 1)] (vb_nm 1 (vb_ex (Mb := []) (ve_v 2) (vb_ex (Mb := []) (ve_v 3) (vb_ex (Mb := []) (ve_v 4) vb_nil))))))))))
  (vss_one (vs_ret ve_bl))
  vss_nil)
  (vss_one (vs_if (vt_vw (vw_and (vt_cmp (Mb := []) ops_gt (nomark _) (ve_callB cs_len m_len b_len (va_cons (Mb := []) (ve_v 3) (va_nil (R := [])))) ve_int) (vw_and1 (vt_vw (vw_or (vt_not (vt_val (ve_call C__law_changed_right (hr.mono (by omega)) [(0, 1)] (vb_nm 1 (vb_ex (Mb := []) (ve_v 0) (vb_ex (Mb := []) (ve_v 2) (vb_ex (Mb := []) (ve_v 3) (vb_ex (Mb := []) (ve_v 4) vb_nil)))))))) (vw_or1 (vt_not (vt_val (ve_call C__law_altered_right (hr.mono (by omega)) [(0, 1)] (vb_nm 1 (vb_ex (Mb := []) (ve_v 2) (vb_ex (Mb := []) (ve_v 4) vb_nil))))))))))))
  (vss_one (vs_ret ve_bl))
  vss_nil))))))
  (vss_cons (vs_set 5 hN (ve_call C_stripes_of (hr.mono (by omega)) [] (vb_ex (Mb := []) ve_int (vb_ex (Mb := []) (ve_tup (va_cons (Mb := []) ve_int (va_cons (Mb := []) ve_int (va_cons (Mb := []) ve_int (va_cons (Mb := []) ve_int (va_nil (R := []))))))) vb_nil))))
  (vss_cons (vs_if (vt_vw (vw_or (vt_not (vt_val (ve_call C__law_same (hr.mono (by omega)) [] (vb_ex (Mb := []) (ve_v 5) (vb_ex (Mb := []) (ve_tup (va_cons (Mb := []) (ve_tup (va_cons (Mb := []) ve_int (va_cons (Mb := []) ve_int (va_cons (Mb := []) ve_int (va_cons (Mb := []) ve_int (va_nil (R := []))))))) (va_cons (Mb := []) (ve_tup (va_cons (Mb := []) ve_int (va_cons (Mb := []) ve_int (va_cons (Mb := []) ve_int (va_cons (Mb := []) ve_int (va_nil (R := []))))))) (va_nil (R := []))))) vb_nil))))) (vw_or1 (vt_not (vt_val (ve_call C__law_same (hr.mono (by omega)) [] (vb_ex (Mb := []) (ve_call C_mended_stripes (hr.mono (by omega)) [] (vb_ex (Mb := []) ve_int (vb_ex (Mb := []) (ve_tup (va_cons (Mb := []) (ve_tup (va_cons (Mb := []) ve_int (va_cons (Mb := []) ve_non (va_cons (Mb := []) ve_int (va_cons (Mb := []) ve_int (va_nil (R := []))))))) (va_cons (Mb := []) (ve_tup (va_cons (Mb := []) ve_int (va_cons (Mb := []) ve_int (va_cons (Mb := []) ve_int (va_cons (Mb := []) ve_non (va_nil (R := []))))))) (va_nil (R := []))))) vb_nil))) (vb_ex (Mb := []) (ve_v 5) vb_nil))))))))
  (vss_one (vs_ret ve_bl))
  vss_nil)
  (vss_one (vs_ret (ve_and (ve_call C__law_same (hr.mono (by omega)) [] (vb_ex (Mb := []) (ve_call C_count_lost (hr.mono (by omega)) [] (vb_ex (Mb := []) ve_int (vb_ex (Mb := []) (ve_tup (va_cons (Mb := []) ve_int (va_cons (Mb := []) ve_int (va_nil (R := []))))) (vb_ex (Mb := []) ve_int vb_nil)))) (vb_ex (Mb := []) ve_int vb_nil))) (ve_and (ve_call C__law_same (hr.mono (by omega)) [] (vb_ex (Mb := []) (ve_call C_bad_stripes (hr.mono (by omega)) [] (vb_ex (Mb := []) (ve_tup (va_cons (Mb := []) (ve_tup (va_cons (Mb := []) ve_int (va_cons (Mb := []) ve_int (va_nil (R := []))))) (va_cons (Mb := []) (ve_tup (va_cons (Mb := []) ve_int (va_cons (Mb := []) ve_int (va_nil (R := []))))) (va_nil (R := []))))) vb_nil)) (vb_ex (Mb := []) (ve_tup (va_cons (Mb := []) ve_int (va_nil (R := [])))) vb_nil))) (ve_one (ve_call C__law_same (hr.mono (by omega)) [] (vb_ex (Mb := []) (ve_call C_values_of (hr.mono (by omega)) [] (vb_ex (Mb := []) ve_int (vb_ex (Mb := []) (ve_v 5) (vb_ex (Mb := []) ve_int vb_nil)))) (vb_ex (Mb := []) (ve_tup (va_cons (Mb := []) ve_int (va_cons (Mb := []) ve_int (va_cons (Mb := []) ve_int (va_cons (Mb := []) ve_int (va_nil (R := []))))))) vb_nil))))))))))))
end Law

namespace Law
open PySem PySem.Spec L2 VL
set_option maxHeartbeats 400000
/-! ### the law's draws -/
abbrev iD (xs : List Int) : List D := xs.map D.int
theorem lfs_iD (xs : List Int) : lfs (iD xs) = true := lfs_ints xs
theorem iD_len (xs : List Int) : (iD xs).length = xs.length := List.length_map _
theorem atI_iD {xs : List Int} {i : Int} {j : Nat} {y : Int} (h : ixN xs.length i = some j) (hy : xs[j]? = some y) : atI (iD xs) i = some (.int y) := by
  unfold atI
  rw [iD_len, h]
  show (iD xs)[j]? = _
  rw [List.getElem?_map, hy]
  rfl
theorem ixN_nat {n j : Nat} (h : j < n) : ixN n (j : Int) = some j := by
  unfold ixN
  rw [if_pos (by omega), if_pos (by omega)]
  simp
theorem ixN_int {n : Nat} {i : Int} (h0 : 0 ≤ i) (h : i < n) : ixN n i = some i.toNat := by
  unfold ixN
  rw [if_pos h0, if_pos h]
def tkV (xs : List Int) (m : Int) : Int := (xs.getLast?.getD 0) % m
theorem take_ok (xs : List Int) {m : Int} (hm : 0 < m) : F__law_take [.lst (iD xs), .int m] = some (.int (tkV xs m), [.lst (iD xs.dropLast), .int m]) := by
  have hE : xs = [] ∨ ∃ ys y, xs = ys ++ [y] := by
    rcases List.eq_nil_or_concat xs with h | ⟨ys, y, h⟩
    · exact .inl h
    · exact .inr ⟨ys, y, by rw [h, List.concat_eq_append]⟩
  rcases hE with rfl | ⟨ys, y, rfl⟩
  · unfold tkV
    rw [show ((([] : List Int).getLast?.getD 0) % m) = 0 by simp]
    rfl
  · have e0 : decide (((iD (ys ++ [y])).length : Int) = 0) = false := decide_eq_false (by simp; omega)
    have e1 : mPop (.lst (iD (ys ++ [y]))) [] = some (.int y, .lst (iD ys)) := by
      unfold mPop
      simp [iD]
    have e2 : (if 0 < m then some (D.int (y % m)) else none) = some (.int (y % m)) := if_pos hm
    simp only [F__law_take, G__law_take, rO, rS, rE, rL, rB, bs, e0, e1, e2, List.map, List.append_nil, List.replicate, List.cons_append, List.nil_append, Nat.sub_self, List.length_cons, List.length_nil, reduceCtorEq, List.mem_singleton]
    unfold tkV
    rw [List.getLast?_concat, List.dropLast_concat]
    rfl
theorem tkV_lo (xs : List Int) {m : Int} (hm : 0 < m) : 0 ≤ tkV xs m := Int.emod_nonneg _ (by omega)
theorem tkV_hi (xs : List Int) {m : Int} (hm : 0 < m) : tkV xs m < m := Int.emod_lt_of_pos _ hm
theorem p15 : dPow (.int 10) (.int 15) = some (.int 1000000000000000) := rfl
theorem p18 : dPow (.int 10) (.int 18) = some (.int 1000000000000000000) := rfl
theorem p60 : dPow (.int 10) (.int 60) = some (.int 1000000000000000000000000000000000000000000000000000000000000) := rfl
theorem dcT [Decidable True] : decide True = true := by simp
theorem dtrue {p : Prop} [Decidable p] (h : p) : decide p = true := decide_eq_true h
theorem dfalse {p : Prop} [Decidable p] (h : ¬ p) : decide p = false := decide_eq_false h
theorem size_ok (xs ns : List Int) : ∃ v ys, F__law_size [.lst (iD xs), .rol (iD ns)] = some (.int v, [.lst (iD ys), .rol (iD ns)]) ∧ 0 ≤ v := by
  have t4 := take_ok xs (show (0 : Int) < 4 by decide)
  have t1 := take_ok xs.dropLast (show (0 : Int) < 1000 by decide)
  have t2 := take_ok xs.dropLast.dropLast (show (0 : Int) < 1000 by decide)
  have v1 := tkV_lo xs.dropLast (show (0 : Int) < 1000 by decide)
  have v2 := tkV_lo xs.dropLast.dropLast (show (0 : Int) < 1000 by decide)
  generalize tkV xs 4 = k at t4
  generalize tkV xs.dropLast 1000 = a at t1 v1
  generalize tkV xs.dropLast.dropLast 1000 = b at t2 v2
  have m15 : ∀ i : Int, mulOk i 1000000000000000 = true := fun i => mulOk_r (by decide)
  have m3 : ∀ i : Int, mulOk i 1000 = true := fun i => mulOk_r (by decide)
  have base : ∀ k : Int, k ≠ 1 → k ≠ 3 → (k = 2 → ns = []) → F__law_take [.lst (iD xs), .int 4] = some (.int k, [.lst (iD xs.dropLast), .int 4]) →
      F__law_size [.lst (iD xs), .rol (iD ns)] = some (.int a, [.lst (iD xs.dropLast.dropLast), .rol (iD ns)]) := fun k h1 h3 h2 t4 => by
    have hz : ¬ (k = 2 ∧ 0 < (ns.length : Int)) := fun ⟨e, h⟩ => by rw [h2 e] at h; simp at h
    by_cases e2 : k = 2
    · have e0 := h2 e2
      subst e0
      simp only [F__law_size, G__law_size, rO, rS, rE, rL, rB, bs, t4, t1, dfalse h1, dfalse h3, dtrue e2, dfalse (show ¬ (0 : Int) < ((0 : Nat) : Int) by decide), List.map, List.replicate, List.cons_append, List.nil_append, List.append_nil, List.length_cons, List.length_nil, List.mem_singleton, reduceCtorEq, Nat.reduceAdd, Nat.reduceSub, Nat.reduceLT]
      try rfl
    · simp only [F__law_size, G__law_size, rO, rS, rE, rL, rB, bs, t4, t1, dfalse h1, dfalse h3, dfalse e2, List.map, List.replicate, List.cons_append, List.nil_append, List.append_nil, List.length_cons, List.length_nil, List.mem_singleton, reduceCtorEq, Nat.reduceAdd, Nat.reduceSub, Nat.reduceLT]
      try rfl
  by_cases h1 : k = 1
  · subst h1
    refine ⟨a + (1 + b) * 1000000000000000, xs.dropLast.dropLast.dropLast, ?_, by omega⟩
    simp only [F__law_size, G__law_size, rO, rS, rE, rL, rB, bs, t4, t1, t2, p15, m15, dtrue rfl, dfalse (show ¬ (1 : Int) = 2 by decide), dfalse (show ¬ (1 : Int) = 3 by decide), List.map, List.replicate, List.cons_append, List.nil_append, List.append_nil, List.length_cons, List.length_nil, List.mem_singleton, reduceCtorEq, Nat.reduceAdd, Nat.reduceSub, Nat.reduceLT]
    try rfl
  · by_cases h3 : k = 3
    · subst h3
      refine ⟨a * 1000 + b, xs.dropLast.dropLast.dropLast, ?_, by omega⟩
      simp only [F__law_size, G__law_size, rO, rS, rE, rL, rB, bs, t4, t1, t2, m3, dtrue rfl, dfalse (show ¬ (3 : Int) = 2 by decide), dfalse (show ¬ (3 : Int) = 1 by decide), List.map, List.replicate, List.cons_append, List.nil_append, List.append_nil, List.length_cons, List.length_nil, List.mem_singleton, reduceCtorEq, Nat.reduceAdd, Nat.reduceSub, Nat.reduceLT]
      try rfl
    · by_cases h2 : k = 2
      · subst h2
        by_cases hn : ns = []
        · exact ⟨a, _, base 2 h1 h3 (fun _ => hn) t4, v1⟩
        · have hl : 0 < (ns.length : Int) := by
            cases ns with
            | nil => exact absurd rfl hn
            | cons x r => simp only [List.length_cons]; omega
          have t5 := take_ok xs.dropLast.dropLast hl
          have w0 := tkV_lo xs.dropLast.dropLast hl
          have w1 := tkV_hi xs.dropLast.dropLast hl
          generalize tkV xs.dropLast.dropLast ns.length = c at t5 w0 w1
          have hc : c.toNat < ns.length := by omega
          have at1 : atI (iD ns) c = some (.int (ns[c.toNat]'hc)) := atI_iD (ixN_int w0 w1) (List.getElem?_eq_getElem hc)
          have pp : (if (0 : Int) < 1000000000000000000000000000000000000000000000000000000000000 then some (D.int ((if ns[c.toNat]'hc < 0 then -(ns[c.toNat]'hc) else ns[c.toNat]'hc) % 1000000000000000000000000000000000000000000000000000000000000)) else none) = some (D.int ((if ns[c.toNat]'hc < 0 then -(ns[c.toNat]'hc) else ns[c.toNat]'hc) % 1000000000000000000000000000000000000000000000000000000000000)) := if_pos (by decide)
          refine ⟨a + (if ns[c.toNat]'hc < 0 then -(ns[c.toNat]'hc) else ns[c.toNat]'hc) % 1000000000000000000000000000000000000000000000000000000000000, xs.dropLast.dropLast.dropLast, ?_, ?_⟩
          · simp only [F__law_size, G__law_size, rO, rS, rE, rL, rB, bs, dcT, t4, t1, t5, at1, p60, pp, iD_len, dtrue hl, dtrue rfl, dfalse (show ¬ (2 : Int) = 1 by decide), dfalse (show ¬ (2 : Int) = 3 by decide), List.map, List.replicate, List.cons_append, List.nil_append, List.append_nil, List.length_cons, List.length_nil, List.mem_singleton, reduceCtorEq, Nat.reduceAdd, Nat.reduceSub, Nat.reduceLT]
            try rfl
          · have := Int.emod_nonneg (if ns[c.toNat]'hc < 0 then -(ns[c.toNat]'hc) else ns[c.toNat]'hc) (show (1000000000000000000000000000000000000000000000000000000000000 : Int) ≠ 0 by decide)
            omega
      · exact ⟨a, _, base k h1 h3 (fun e => absurd e h2) t4, v1⟩
theorem draws_turn (cs rs ds : List Int) (k : Int) (s0 s1 s5 s6 s7 s8 : Option D) (h0 : 0 ≤ k) (hc : cs ≠ []) (hl : rs.length = cs.length) (hd : ds.length < 100000) :
    ∃ rs' x y6 y7, rs'.length = cs.length ∧ ((gN 5 (.int k) [s0, s1, some (.lst (iD cs)), some (.lst (iD rs)), some (.lst (iD ds)), s5, s6, s7, s8]).bind B1__law_draws) =
      some (.nx [s0, s1, some (.lst (iD cs)), some (.lst (iD rs')), some (.lst (iD (ds ++ [x]))), some (.int k), y6, y7, s8]) := by
  have hp : 0 < (cs.length : Int) := by
    cases cs with
    | nil => exact absurd rfl hc
    | cons x r => simp only [List.length_cons]; omega
  have w0 : 0 ≤ k % (cs.length : Int) := Int.emod_nonneg _ (by omega)
  have w1 : k % (cs.length : Int) < cs.length := Int.emod_lt_of_pos _ hp
  have em : (if 0 < (cs.length : Int) then some (D.int (k % (cs.length : Int))) else none) = some (.int (k % (cs.length : Int))) := if_pos hp
  have hi : (k % (cs.length : Int)).toNat < cs.length := by omega
  have hi2 : (k % (cs.length : Int)).toNat < rs.length := by omega
  have a1 : atI (iD cs) (k % (cs.length : Int)) = some (.int (cs[(k % (cs.length : Int)).toNat]'hi)) := atI_iD (ixN_int w0 w1) (List.getElem?_eq_getElem hi)
  have a2 : atI (iD rs) (k % (cs.length : Int)) = some (.int (rs[(k % (cs.length : Int)).toNat]'hi2)) := atI_iD (ixN_int w0 (by omega)) (List.getElem?_eq_getElem hi2)
  have a3 : ixN rs.length (k % (cs.length : Int)) = some (k % (cs.length : Int)).toNat := ixN_int w0 (by omega)
  generalize cs[(k % (cs.length : Int)).toNat]'hi = c at a1
  generalize rs[(k % (cs.length : Int)).toNat]'hi2 = r at a2
  have z1 : ds.length < sizeLine := szl' (by omega)
  have m1 : ∀ i : Int, mulOk i 48271 = true := fun i => mulOk_r (by decide)
  have m2 : ∀ i : Int, mulOk i 69621 = true := fun i => mulOk_r (by decide)
  have m3 : ∀ i : Int, mulOk 3 i = true := fun i => mulOk_l (by decide)
  have q1 : ∀ i : Int, (if (0 : Int) < 1000 then some (D.int (i % 1000)) else none) = some (.int (i % 1000)) := fun i => if_pos (by decide)
  have q2 : ∀ i : Int, (if (0 : Int) < 2147483647 then some (D.int (i % 2147483647)) else none) = some (.int (i % 2147483647)) := fun i => if_pos (by decide)
  have q3 : ∀ i : Int, (if (0 : Int) < 1000003 then some (D.int (i % 1000003)) else none) = some (.int (i % 1000003)) := fun i => if_pos (by decide)
  have q4 : ∀ i : Int, (if (0 : Int) < 1000 ∧ (1000 : Int).natAbs.log2 < 9000 then some (D.int (i / 1000)) else none) = some (.int (i / 1000)) := fun i => if_pos (by decide)
  have m4 : ∀ i : Int, mulOk (i % 2147483647) (i % 2147483647) = true := fun i => mulOk_l (by
    have := Int.emod_nonneg i (show (2147483647 : Int) ≠ 0 by decide)
    have := Int.emod_lt_of_pos i (show (0 : Int) < 2147483647 by decide)
    omega)
  have big : (k % (cs.length : Int)).toNat < rs.length → (iD rs).set (k % (cs.length : Int)).toNat (D.int (r / 1000)) = iD (rs.set (k % (cs.length : Int)).toNat (r / 1000)) := fun _ => by
    unfold iD; rw [List.map_set]
  have app : ∀ x : Int, iD ds ++ [D.int x] = iD (ds ++ [x]) := fun x => by unfold iD; rw [List.map_append]; rfl
  have other : ∃ rs' x y6 y7, rs'.length = cs.length ∧ ((sSeq (sAsg (eOp dMod (eB gInt (aCons (eOp dAdd (eOp dAdd (eOp dMul (eOp dIx (eV 2) (eV 6)) (eC (.int 48271))) (eOp dMul (eV 5) (eC (.int 69621)))) (eC (.int 11))) aNil)) (eC (.int 2147483647))) (gN 7))
      (sDrop (eMeth 4 mApp (aCons (eOp dMod (eB gInt (aCons (eOp dAdd (eOp dAdd (eOp dMul (eV 7) (eV 7)) (eOp dMul (eC (.int 3)) (eV 7))) (eV 5)) aNil)) (eC (.int 1000003))) aNil)))) [s0, s1, some (.lst (iD cs)), some (.lst (iD rs)), some (.lst (iD ds)), some (.int k), some (.int (k % (cs.length : Int))), s7, s8]) =
        some (.nx [s0, s1, some (.lst (iD cs)), some (.lst (iD rs')), some (.lst (iD (ds ++ [x]))), some (.int k), y6, y7, s8]) := by
    refine ⟨rs, ((c * 48271 + k * 69621 + 11) % 2147483647 * ((c * 48271 + k * 69621 + 11) % 2147483647) + 3 * ((c * 48271 + k * 69621 + 11) % 2147483647) + k) % 1000003, some (.int (k % (cs.length : Int))), some (.int ((c * 48271 + k * 69621 + 11) % 2147483647)), hl, ?_⟩
    simp only [rO, rS, rE, rL, rB, bs, dcT, Bool.and_true, Bool.not_true, Bool.not_false, List.map, List.replicate, List.cons_append, List.nil_append, List.append_nil, List.length_cons, List.length_nil, List.mem_singleton, reduceCtorEq, Nat.reduceAdd, Nat.reduceSub, Nat.reduceLT, iD_len, a1, m1, m2, m3, m4, q2, q3, z1, app]
  by_cases g1 : (1000000000000000000 : Int) ≤ c
  · by_cases g2 : 0 < r
    · refine ⟨rs.set (k % (cs.length : Int)).toNat (r / 1000), r % 1000, some (.int (k % (cs.length : Int))), s7, by rw [List.length_set]; exact hl, ?_⟩
      unfold B1__law_draws
      simp only [rO, rS, rE, rL, rB, bs, dcT, Bool.and_true, Bool.not_true, Bool.not_false, List.map, List.replicate, List.cons_append, List.nil_append, List.append_nil, List.length_cons, List.length_nil, List.mem_singleton, reduceCtorEq, Nat.reduceAdd, Nat.reduceSub, Nat.reduceLT, iD_len, em, a1, a2, a3, p18, dtrue g1, dtrue g2, q1, q4, z1, app, big hi2]
    · obtain ⟨rs', x, y6, y7, e1, e2⟩ := other
      refine ⟨rs', x, y6, y7, e1, ?_⟩
      rw [← e2]
      unfold B1__law_draws
      simp only [rO, rS, rE, rL, rB, bs, dcT, Bool.and_true, Bool.not_true, Bool.not_false, List.map, List.replicate, List.cons_append, List.nil_append, List.append_nil, List.length_cons, List.length_nil, List.mem_singleton, reduceCtorEq, Nat.reduceAdd, Nat.reduceSub, Nat.reduceLT, iD_len, em, a1, a2, a3, p18, dtrue g1, dfalse g2]
  · obtain ⟨rs', x, y6, y7, e1, e2⟩ := other
    refine ⟨rs', x, y6, y7, e1, ?_⟩
    rw [← e2]
    unfold B1__law_draws
    simp only [rO, rS, rE, rL, rB, bs, dcT, Bool.and_true, Bool.not_true, Bool.not_false, List.map, List.replicate, List.cons_append, List.nil_append, List.append_nil, List.length_cons, List.length_nil, List.mem_singleton, reduceCtorEq, Nat.reduceAdd, Nat.reduceSub, Nat.reduceLT, iD_len, em, a1, a2, a3, p18, dfalse g1]
theorem mem_iD {ns : List Int} {d : D} (h : d ∈ iD ns) : ∃ i, i ∈ ns ∧ d = .int i := by
  obtain ⟨i, h1, h2⟩ := List.mem_map.mp h
  exact ⟨i, h1, h2.symm⟩
theorem at_iD {ns : List Int} {j : Nat} {d : D} (h : (iD ns)[j]? = some d) : ∃ i, ns[j]? = some i ∧ d = .int i := by
  rw [List.getElem?_map] at h
  cases e : ns[j]? with
  | none => rw [e] at h; cases h
  | some i => rw [e] at h; cases h; exact ⟨i, rfl, rfl⟩
theorem draws_ok (ns : List Int) (hn : ns.length ≤ 63) {many : Int} (h0 : 0 ≤ many) (h1 : many ≤ 1000) : ∃ xs, F__law_draws [.rol (iD ns), .int many] = some (.lst (iD xs), [.rol (iD ns), .int many]) := by
  have c1 : lcL [8] (gN 8) tY (eB gInt (aCons (eV 8) aNil)) (iD ns) [some (.rol (iD ns)), some (.int many), none, none, none, none, none, none, none] = some ((iD ns).map (fun d => d), [some (.rol (iD ns)), some (.int many), none, none, none, none, none, none, none]) := lcL_map _ _ _ fun d hd => by
    obtain ⟨i, _, rfl⟩ := mem_iD hd
    exact ⟨_, _, rfl, rfl, rfl⟩
  rw [List.map_id'] at c1
  have z1 : ns.length ≤ sizeLine := szl (by omega)
  have z0 : 0 ≤ sizeLine := Nat.zero_le _
  have z2 : 0 < sizeLine := by decide
  -- behind the first statements
  have loop : ∀ cs : List Int, cs ≠ [] → ∃ xs y5 y6 y7 y8 rs, forL (gN 5) B1__law_draws (rngD 0 1 many.toNat) [some (.rol (iD ns)), some (.int many), some (.lst (iD cs)), some (.lst (iD cs)), some (.lst []), none, none, none, none] =
      some (.nx [some (.rol (iD ns)), some (.int many), some (.lst (iD cs)), some (.lst rs), some (.lst (iD xs)), y5, y6, y7, y8]) := fun cs hc => by
    obtain ⟨e2, g1, g2⟩ := forL_rel (t := gN 5) (b := B1__law_draws) (ds := rngD 0 1 many.toNat) (fun j e => ∃ rs xs y5 y6 y7 y8, rs.length = cs.length ∧ xs.length = j ∧ e = [some (.rol (iD ns)), some (.int many), some (.lst (iD cs)), some (.lst (iD rs)), some (.lst (iD xs)), y5, y6, y7, y8])
      ⟨cs, [], none, none, none, none, rfl, rfl, rfl⟩ fun j d e hj ⟨rs, xs, y5, y6, y7, y8, hl, hx, he⟩ => by
        obtain ⟨hjn, rfl⟩ := rng_at hj
        subst he
        obtain ⟨rs', x, z6, z7, q1, q2⟩ := draws_turn cs rs xs (0 + (j : Int) * 1) (some (.rol (iD ns))) (some (.int many)) y5 y6 y7 y8 (by omega) hc hl (by omega)
        exact ⟨_, q2, rs', xs ++ [x], _, z6, z7, y8, q1, by rw [List.length_append, hx]; rfl, rfl⟩
    obtain ⟨rs, xs, y5, y6, y7, y8, _, _, rfl⟩ := g2
    exact ⟨xs, y5, y6, y7, y8, _, g1⟩
  by_cases he : ns = []
  · subst he
    obtain ⟨xs, y5, y6, y7, y8, rs, hx⟩ := loop [0] (by simp)
    have hx' : forL (gN 5) B1__law_draws (rngD 0 1 many.toNat) [some (.rol []), some (.int many), some (.lst [.int 0]), some (.lst [.int 0]), some (.lst []), none, none, none, none] = _ := hx
    refine ⟨xs.reverse, ?_⟩
    unfold F__law_draws G__law_draws
    simp only [rO, rS, rE, rL, rB, bs, dcT, Bool.and_true, Bool.not_true, Bool.not_false, List.map, List.replicate, List.cons_append, List.nil_append, List.append_nil, List.length_cons, List.length_nil, List.mem_singleton, reduceCtorEq, Nat.reduceAdd, Nat.reduceSub, Nat.reduceLT, iD_len, c1, z0, z2, hx', lfs_rng, lcL_nil, dtrue (show (((0 : Nat) : Int)) = 0 by rfl), Bool.and_true]
    show some (D.lst (iD xs).reverse, _) = some (D.lst (iD xs.reverse), _)
    unfold iD
    rw [List.map_reverse]
  · obtain ⟨xs, y5, y6, y7, y8, rs, hx⟩ := loop ns he
    have e0 : ¬ ((ns.length : Int) = 0) := by
      cases ns with
      | nil => exact absurd rfl he
      | cons x r => simp only [List.length_cons]; omega
    refine ⟨xs.reverse, ?_⟩
    unfold F__law_draws G__law_draws
    simp only [rO, rS, rE, rL, rB, bs, dcT, Bool.and_true, Bool.not_true, Bool.not_false, List.map, List.replicate, List.cons_append, List.nil_append, List.append_nil, List.length_cons, List.length_nil, List.mem_singleton, reduceCtorEq, Nat.reduceAdd, Nat.reduceSub, Nat.reduceLT, iD_len, c1, z0, z1, z2, hx, lfs_rng, lfs_iD, dfalse e0]
    show some (D.lst (iD xs).reverse, _) = some (D.lst (iD xs.reverse), _)
    unfold iD
    rw [List.map_reverse]
/-! ### the law's own same -/
inductive Pl : Nat → D → Prop
  | int {n : Nat} (i : Int) : Pl (n + 1) (.int i)
  | bl {n : Nat} (b : Bool) : Pl (n + 1) (.bl b)
  | str {n : Nat} (x : Str) : Pl (n + 1) (.str x)
  | non {n : Nat} : Pl (n + 1) .non
  | tup {n : Nat} {ds : List D} : (∀ d ∈ ds, Pl n d) → Pl (n + 1) (.tup ds)
theorem Pl.up : ∀ {n : Nat} {d : D}, Pl n d → ∀ m, n ≤ m → Pl m d
  | 0, _, h, _, _ => nomatch h
  | n + 1, _, h, 0, hm => by omega
  | n + 1, _, .int i, m + 1, _ => .int i
  | n + 1, _, .bl i, m + 1, _ => .bl i
  | n + 1, _, .str i, m + 1, _ => .str i
  | n + 1, _, .non, m + 1, _ => .non
  | n + 1, _, .tup h, m + 1, hm => .tup fun d hd => (h d hd).up m (by omega)
theorem Pl.iD {n : Nat} {xs : List Int} : Pl (n + 2) (.tup (iD xs)) := .tup fun d hd => by
  obtain ⟨i, _, rfl⟩ := mem_iD hd
  exact .int i
theorem isi_rules : (∀ b, isi "bool" (.bl b) = true) ∧ (∀ i, isi "bool" (.int i) = false) ∧ (∀ i, isi "bool" (.str i) = false) ∧ (∀ i, isi "bool" (.tup i) = false) ∧ (isi "bool" .non = false) ∧
    (∀ i, isi "int" (.int i) = true) ∧ (∀ i, isi "int" (.str i) = false) ∧ (∀ i, isi "int" (.tup i) = false) ∧ (isi "int" .non = false) ∧
    (∀ i, isi "str" (.str i) = true) ∧ (∀ i, isi "str" (.tup i) = false) ∧ (isi "str" .non = false) ∧ (∀ i, isi "tuple" (.tup i) = true) := by
  refine ⟨?_, ?_, ?_, ?_, ?_, ?_, ?_, ?_, ?_, ?_, ?_, ?_, ?_⟩ <;> (intros; rfl)
theorem same_go : ∀ {n : Nat} {d : D}, Pl n d → Fr__law_same n [d, d] = some (.bl true, [d, d])
  | n + 1, _, .int i => by
    show runF _ _ _ _ _ _ = _
    unfold G__law_same
    simp only [rO, rS, rE, rL, rB, bs, dcT, Bool.and_true, Bool.not_true, Bool.not_false, List.map, List.replicate, List.cons_append, List.nil_append, List.append_nil, List.length_cons, List.length_nil, List.mem_singleton, reduceCtorEq, Nat.reduceAdd, Nat.reduceSub, Nat.reduceLT, iD_len, isi_rules, Bool.not_false, dtrue rfl]
  | n + 1, _, .bl i => by
    show runF _ _ _ _ _ _ = _
    unfold G__law_same
    simp only [rO, rS, rE, rL, rB, bs, dcT, Bool.and_true, Bool.not_true, Bool.not_false, List.map, List.replicate, List.cons_append, List.nil_append, List.append_nil, List.length_cons, List.length_nil, List.mem_singleton, reduceCtorEq, Nat.reduceAdd, Nat.reduceSub, Nat.reduceLT, iD_len, isi_rules, Bool.not_false, dtrue rfl]
  | n + 1, _, .str i => by
    show runF _ _ _ _ _ _ = _
    unfold G__law_same
    simp only [rO, rS, rE, rL, rB, bs, dcT, Bool.and_true, Bool.not_true, Bool.not_false, List.map, List.replicate, List.cons_append, List.nil_append, List.append_nil, List.length_cons, List.length_nil, List.mem_singleton, reduceCtorEq, Nat.reduceAdd, Nat.reduceSub, Nat.reduceLT, iD_len, isi_rules, Bool.not_false, dtrue rfl]
  | n + 1, _, .non => by
    show runF _ _ _ _ _ _ = _
    unfold G__law_same
    simp only [rO, rS, rE, rL, rB, bs, dcT, Bool.and_true, Bool.not_true, Bool.not_false, List.map, List.replicate, List.cons_append, List.nil_append, List.append_nil, List.length_cons, List.length_nil, List.mem_singleton, reduceCtorEq, Nat.reduceAdd, Nat.reduceSub, Nat.reduceLT, iD_len, isi_rules, Bool.not_false]
  | n + 1, _, @Pl.tup _ ds h => by
    obtain ⟨e2, g1, g2⟩ := forL_rel (t := gN 2) (b := B1__law_same (Fr__law_same n)) (ds := rngD 0 1 ds.length) (e := [some (.tup ds), some (.tup ds), none]) (fun j e => ∃ y, e = [some (.tup ds), some (.tup ds), y]) ⟨none, rfl⟩ fun j d e hj ⟨y, he⟩ => by
      obtain ⟨hjn, rfl⟩ := rng_at hj
      subst he
      have hz : (0 + (j : Int) * 1) = (j : Int) := by omega
      have a1 : atI ds (j : Int) = some ds[j] := by
        unfold atI
        rw [ixN_nat hjn]
        exact List.getElem?_eq_getElem hjn
      have ih := same_go (h ds[j] (List.getElem_mem hjn))
      refine ⟨[some (.tup ds), some (.tup ds), some (.int (j : Int))], ?_, _, rfl⟩
      unfold B1__law_same
      rw [hz]
      simp only [rO, rS, rE, rL, rB, bs, dcT, Bool.and_true, Bool.not_true, Bool.not_false, List.map, List.replicate, List.cons_append, List.nil_append, List.append_nil, List.length_cons, List.length_nil, List.mem_singleton, reduceCtorEq, Nat.reduceAdd, Nat.reduceSub, Nat.reduceLT, iD_len, a1, ih, Bool.not_true]
    obtain ⟨y, rfl⟩ := g2
    show runF _ _ _ _ _ _ = _
    unfold G__law_same
    simp only [rO, rS, rE, rL, rB, bs, dcT, Bool.and_true, Bool.not_true, Bool.not_false, List.map, List.replicate, List.cons_append, List.nil_append, List.append_nil, List.length_cons, List.length_nil, List.mem_singleton, reduceCtorEq, Nat.reduceAdd, Nat.reduceSub, Nat.reduceLT, iD_len, isi_rules, Bool.not_false, Bool.not_true, lfs_rng, g1, dtrue rfl, Int.toNat_natCast]
theorem same_ok {d : D} (h : Pl 12 d) : F__law_same [d, d] = some (.bl true, [d, d]) := same_go h

/-! ### natural numbers as values -/
def nD (xs : List Nat) : List D := xs.map fun (a : Nat) => D.int (a : Int)
theorem nD_len (xs : List Nat) : (nD xs).length = xs.length := List.length_map _
theorem nD_app (xs ys : List Nat) : nD (xs ++ ys) = nD xs ++ nD ys := List.map_append
theorem nD_cons (x : Nat) (xs : List Nat) : nD (x :: xs) = D.int (x : Int) :: nD xs := rfl
theorem nD_one (x : Nat) : nD [x] = [D.int (x : Int)] := rfl
theorem lfs_nD (xs : List Nat) : lfs (nD xs) = true := lfs_iff.mpr fun d hd => by
  obtain ⟨a, _, rfl⟩ := List.mem_map.mp hd
  rfl
theorem nD_at {xs : List Nat} {j : Nat} {a : Nat} (h : xs[j]? = some a) : (nD xs)[j]? = some (.int (a : Int)) := by
  unfold nD
  rw [List.getElem?_map, h]
  rfl
theorem atI_nD {xs : List Nat} {j : Nat} {a : Nat} (h : xs[j]? = some a) : atI (nD xs) (j : Int) = some (.int (a : Int)) := by
  unfold atI
  have hj : j < xs.length := (List.getElem?_eq_some_iff.mp h).1
  rw [nD_len, ixN_nat hj]
  exact nD_at h
theorem Pl.nD {n : Nat} {xs : List Nat} : Pl (n + 2) (.tup (nD xs)) := .tup fun d hd => by
  obtain ⟨a, _, rfl⟩ := List.mem_map.mp hd
  exact .int _
/-! ### added -/
def xr (xs : List Nat) : Nat := xs.foldl (fun a b => a ^^^ b) 0
theorem xr_app (xs ys : List Nat) : xr (xs ++ ys) = xr xs ^^^ xr ys := by
  have go : ∀ (ys : List Nat) (a : Nat), ys.foldl (fun a b => a ^^^ b) a = a ^^^ ys.foldl (fun a b => a ^^^ b) 0 := fun ys => by
    induction ys with
    | nil => intro a; show a = a ^^^ 0; rw [Nat.xor_zero]
    | cons y ys ih =>
      intro a
      show ys.foldl _ (a ^^^ y) = a ^^^ ys.foldl _ (0 ^^^ y)
      rw [ih (a ^^^ y), ih (0 ^^^ y), Nat.zero_xor, Nat.xor_assoc]
  unfold xr
  rw [List.foldl_append, go]
theorem xr_nil : xr [] = 0 := rfl
theorem xr_one (x : Nat) : xr [x] = x := Nat.zero_xor x
theorem xr_cons (x : Nat) (xs : List Nat) : xr (x :: xs) = x ^^^ xr xs := by
  rw [show x :: xs = [x] ++ xs by rfl, xr_app, xr_one]
theorem bx (a b : Nat) : Builtin.bitXor (a : Int) (b : Int) = ((a ^^^ b : Nat) : Int) := by
  rw [Bits.bitXor_pp (by omega) (by omega), Int.toNat_natCast, Int.toNat_natCast]
theorem added_loop (z : D) : ∀ (xs : List Nat) (a : Nat) (y : Option D), ∃ y', forL (gN 2) B1_added (nD xs) [some z, some (.int (a : Int)), y] = some (.nx [some z, some (.int ((xs.foldl (fun a b => a ^^^ b) a : Nat) : Int)), y'])
  | [], a, y => ⟨y, rfl⟩
  | x :: xs, a, y => by
    obtain ⟨y', h⟩ := added_loop z xs (a ^^^ x) (some (.int (x : Int)))
    refine ⟨y', ?_⟩
    have h1 : ((gN 2 (.int (x : Int)) [some z, some (.int (a : Int)), y]).bind B1_added) = some (.nx [some z, some (.int ((a ^^^ x : Nat) : Int)), some (.int (x : Int))]) := by
      unfold B1_added
      simp only [rO, rS, rE, rL, rB, bs, dcT, Bool.and_true, Bool.not_true, Bool.not_false, List.map, List.replicate, List.cons_append, List.nil_append, List.append_nil, List.length_cons, List.length_nil, List.mem_singleton, reduceCtorEq, Nat.reduceAdd, Nat.reduceSub, Nat.reduceLT, iD_len, bx]
    rw [nD_cons, forL_go h1]
    exact h
theorem added_tup (xs : List Nat) : F_added [.tup (nD xs)] = some (.int (xr xs : Int), [.tup (nD xs)]) := by
  obtain ⟨y, h⟩ := added_loop (.tup (nD xs)) xs 0 none
  have h' : forL (gN 2) B1_added (nD xs) [some (.tup (nD xs)), some (.int 0), none] = _ := h
  unfold F_added G_added
  simp only [rO, rS, rE, rL, rB, bs, dcT, Bool.and_true, Bool.not_true, Bool.not_false, List.map, List.replicate, List.cons_append, List.nil_append, List.append_nil, List.length_cons, List.length_nil, List.mem_singleton, reduceCtorEq, Nat.reduceAdd, Nat.reduceSub, Nat.reduceLT, iD_len, h', lfs_nD]
  rfl
theorem added_lst (xs : List Nat) : F_added [.lst (nD xs)] = some (.int (xr xs : Int), [.lst (nD xs)]) := by
  obtain ⟨y, h⟩ := added_loop (.lst (nD xs)) xs 0 none
  have h' : forL (gN 2) B1_added (nD xs) [some (.lst (nD xs)), some (.int 0), none] = _ := h
  unfold F_added G_added
  simp only [rO, rS, rE, rL, rB, bs, dcT, Bool.and_true, Bool.not_true, Bool.not_false, List.map, List.replicate, List.cons_append, List.nil_append, List.append_nil, List.length_cons, List.length_nil, List.mem_singleton, reduceCtorEq, Nat.reduceAdd, Nat.reduceSub, Nat.reduceLT, iD_len, h', lfs_nD]
  rfl
theorem ladded_eq : F__law_added = F_added := rfl
theorem ladded_lst (xs : List Nat) : F__law_added [.lst (nD xs)] = some (.int (xr xs : Int), [.lst (nD xs)]) := added_lst xs
/-! ### values -/
theorem take_some (xs : List Int) (m : Nat) (hm : 0 < m) : ∃ (a : Nat) (ys : List Int), a < m ∧ F__law_take [.lst (iD xs), .int (m : Int)] = some (.int (a : Int), [.lst (iD ys), .int (m : Int)]) := by
  have h := take_ok xs (show (0 : Int) < (m : Int) by omega)
  have h0 := tkV_lo xs (show (0 : Int) < (m : Int) by omega)
  have h1 := tkV_hi xs (show (0 : Int) < (m : Int) by omega)
  refine ⟨(tkV xs m).toNat, xs.dropLast, by omega, ?_⟩
  rw [Int.toNat_of_nonneg h0]
  exact h
theorem size_some (xs ns : List Int) : ∃ (v : Nat) (ys : List Int), F__law_size [.lst (iD xs), .rol (iD ns)] = some (.int (v : Int), [.lst (iD ys), .rol (iD ns)]) := by
  obtain ⟨v, ys, h, h0⟩ := size_ok xs ns
  refine ⟨v.toNat, ys, ?_⟩
  rw [Int.toNat_of_nonneg h0]
  exact h
theorem values_ok (xs ns : List Int) (m : Nat) (hm : m ≤ 1000) : ∃ (vs : List Nat) (ys : List Int), vs.length = m ∧ F__law_values [.lst (iD xs), .rol (iD ns), .int (m : Int)] = some (.tup (nD vs), [.lst (iD ys), .rol (iD ns), .int (m : Int)]) := by
  obtain ⟨a, x1, ha, t1⟩ := take_some xs 3 (by decide)
  have t1' : F__law_take [.lst (iD xs), .int 3] = some (.int (a : Int), [.lst (iD x1), .int 3]) := t1
  obtain ⟨wd, hw, a1⟩ : ∃ wd : Nat, 0 < wd ∧ atI [D.int 1, D.int 4, D.int 300] (a : Int) = some (.int (wd : Int)) := by
    match a, ha with
    | 0, _ => exact ⟨1, by decide, rfl⟩
    | 1, _ => exact ⟨4, by decide, rfl⟩
    | 2, _ => exact ⟨300, by decide, rfl⟩
  obtain ⟨out, e2, c1, c2⟩ := lcL_rel (ow := [4]) (t := gN 4) (tt := tY) (fe := eOp dAdd (eCall F__law_take [(0, 0)] [some 0, none] (bNm 0 (aCons (eV 3) aNil))) (eOp dMul (eB gInt (aCons (eOp dEq (eCall F__law_take [(0, 0)] [some 0, none] (bNm 0 (aCons (eC (.int 9)) aNil))) (eC (.int 0))) aNil)) (eCall F__law_size [(0, 0)] [some 0, none] (bNm 0 (aCons (eV 1) aNil)))))
    (fun j out e => ∃ (vs : List Nat) (ys : List Int), vs.length = j ∧ out = nD vs ∧ e = [some (.lst (iD ys)), some (.rol (iD ns)), some (.int (m : Int)), some (.int (wd : Int)), none]) (rngD 0 1 m) 0 [] [some (.lst (iD x1)), some (.rol (iD ns)), some (.int (m : Int)), some (.int (wd : Int)), none]
    ⟨[], x1, rfl, rfl, rfl⟩ fun j d out e hj ⟨vs, ys, hl, ho, he⟩ => by
      subst ho he
      obtain ⟨_, rfl⟩ := rng_at hj
      obtain ⟨b, y1, _, t2⟩ := take_some ys wd hw
      obtain ⟨c, y2, _, t3⟩ := take_some y1 9 (by decide)
      have t3' : F__law_take [.lst (iD y1), .int 9] = some (.int (c : Int), [.lst (iD y2), .int 9]) := t3
      obtain ⟨v, y3, t4⟩ := size_some y2 ns
      have mm : mulOk (if decide ((c : Int) = 0) = true then 1 else 0) (v : Int) = true := mulOk_l (by split <;> decide)
      refine ⟨[.int ((b + (if c = 0 then v else 0) : Nat) : Int)], _, ?_, vs ++ [b + (if c = 0 then v else 0)], y3, by rw [List.length_append, hl]; rfl, by rw [nD_app]; rfl, rfl⟩
      rw [lcL_cons]
      show (((gN 4 (.int (0 + (j : Int) * 1)) [some (.lst (iD ys)), some (.rol (iD ns)), some (.int (m : Int)), some (.int (wd : Int)), none])).bind _) = _
      simp only [rO, rS, rE, rL, rB, bs, dcT, Bool.and_true, Bool.not_true, Bool.not_false, List.map, List.replicate, List.cons_append, List.nil_append, List.append_nil, List.length_cons, List.length_nil, List.mem_singleton, reduceCtorEq, Nat.reduceAdd, Nat.reduceSub, Nat.reduceLT, iD_len, t2, t3', t4, mm, lcL_nil]
      have ev : (b : Int) + (if decide ((c : Int) = 0) = true then 1 else 0) * (v : Int) = ((b + (if c = 0 then v else 0) : Nat) : Int) := by
        by_cases hc : c = 0
        · subst hc; simp
        · rw [if_neg hc, dfalse (show ¬ ((c : Int) = 0) by omega)]; simp
      rw [ev]
      rfl
  obtain ⟨vs, ys, hl, ho, he⟩ := c2
  rw [List.nil_append] at ho
  subst ho he
  have lr : (rngD 0 1 m).length = m := rng_len
  have z1 : m ≤ sizeLine := szl (by omega)
  have z3 : 3 ≤ sizeLine := by decide
  refine ⟨vs, ys, by rw [hl, lr]; omega, ?_⟩
  unfold F__law_values G__law_values
  simp only [rO, rS, rE, rL, rB, bs, dcT, Bool.and_true, Bool.not_true, Bool.not_false, List.map, List.replicate, List.cons_append, List.nil_append, List.append_nil, List.length_cons, List.length_nil, List.mem_singleton, reduceCtorEq, Nat.reduceAdd, Nat.reduceSub, Nat.reduceLT, iD_len, z3, t1', a1, Int.toNat_natCast, lr, z1, c1, lfs_nD]
/-! ### a range of steps -/
theorem rsize (a b c : Nat) (hc : 0 < c) : Builtin.Range.rangeSize (a : Int) (b : Int) (c : Int) = (((b - a + c - 1) / c : Nat) : Int) := by
  unfold Builtin.Range.rangeSize
  rw [if_pos (by omega)]
  by_cases h : a < b
  · rw [if_pos (by omega)]
    have e1 : ((b : Int) - a - 1) = ((b - a - 1 : Nat) : Int) := by omega
    rw [e1, ← Int.natCast_ediv]
    have e2 : (b - a + c - 1) = (b - a - 1) + c := by omega
    rw [e2, Nat.add_div_right _ hc]
    omega
  · rw [if_neg (by omega)]
    have e2 : (b - a + c - 1) = c - 1 := by omega
    rw [e2, Nat.div_eq_of_lt (by omega)]
    rfl
theorem small_ok (a b c : Nat) (ha : a ≤ 1000000) (hb : b ≤ 1000000) (hc : 0 < c) (hc2 : c ≤ 1000000) : Builtin.Range.small (a : Int) (b : Int) (c : Int) = true := by
  unfold Builtin.Range.small
  rw [rsize a b c hc]
  have : (b - a + c - 1) / c ≤ b - a + c - 1 := Nat.div_le_self _ _
  generalize (b - a + c - 1) / c = q at *
  simp only [Builtin.Range.rangeFitsLong, Bool.and_eq_true, Bool.or_eq_true, decide_eq_true_eq, beq_iff_eq, show (c : Int) > 0 by omega, if_true]
  omega
theorem rng3_ok {fs : Ev → Option (List D × Ev)} {e e' : Ev} {a b c : Nat} (h : fs e = some ([.int (a : Int), .int (b : Int), .int (c : Int)], e')) (ha : a ≤ 1000000) (hb : b ≤ 1000000) (hc : 0 < c) (hc2 : c ≤ 1000000) :
    VL.iRng3 fs e = some (rngD (a : Int) (c : Int) ((b - a + c - 1) / c), e') := by
  unfold VL.iRng3
  rw [h, bs]
  show (if _ then _ else _) = _
  rw [if_pos ⟨by omega, by omega, small_ok a b c ha hb hc hc2, by rw [rsize a b c hc]; exact Int.natCast_nonneg _⟩, rsize a b c hc, Int.toNat_natCast]
/-! ### rows -/
theorem cut_ab (ds : List D) (a b : Nat) : cutD ds (some (a : Int)) (some (b : Int)) = (ds.drop a).take (b - a) := by
  unfold cutD
  rw [HT.sIx_nat, HT.sIx_nat]
  by_cases h : a ≤ ds.length
  · rw [Nat.min_eq_left h]
    by_cases hb : b ≤ ds.length
    · rw [Nat.min_eq_left hb]
    · rw [Nat.min_eq_right (by omega), List.take_of_length_le (by simp), List.take_of_length_le (by rw [List.length_drop]; omega)]
  · rw [Nat.min_eq_right (show ds.length ≤ a by omega), List.drop_of_length_le (Nat.le_refl _), List.drop_of_length_le (by omega), List.take_nil, List.take_nil]
theorem cut_a (ds : List D) (b : Nat) : cutD ds none (some (b : Int)) = ds.take b := by
  unfold cutD
  rw [HT.sIx_nat, HT.sIx_none, List.drop_zero, Nat.sub_zero]
  by_cases hb : b ≤ ds.length
  · rw [Nat.min_eq_left hb]
  · rw [Nat.min_eq_right (by omega), List.take_of_length_le (Nat.le_refl _), List.take_of_length_le (by omega)]
theorem cut_b (ds : List D) (a : Nat) : cutD ds (some (a : Int)) none = ds.drop a := by
  unfold cutD
  rw [HT.sIx_nat, HT.sIx_none]
  by_cases h : a ≤ ds.length
  · rw [Nat.min_eq_left h, List.take_of_length_le (by simp)]
  · rw [Nat.min_eq_right (show ds.length ≤ a by omega), List.drop_of_length_le (Nat.le_refl _), List.drop_of_length_le (by omega), List.take_nil]
theorem nD_take (xs : List Nat) (k : Nat) : (nD xs).take k = nD (xs.take k) := by unfold nD; rw [List.map_take]
theorem nD_drop (xs : List Nat) (k : Nat) : (nD xs).drop k = nD (xs.drop k) := by unfold nD; rw [List.map_drop]
theorem nD_rep (k : Nat) : (List.replicate k [D.int 0]).flatten = nD (List.replicate k 0) := by
  induction k with
  | zero => rfl
  | succ k ih => rw [List.replicate_succ, List.flatten_cons, ih, List.replicate_succ]; rfl
def rD (rows : List (List Nat)) : List D := rows.map fun r => D.tup (nD r)
theorem rD_len (rows : List (List Nat)) : (rD rows).length = rows.length := List.length_map _
theorem lfs_rD (rows : List (List Nat)) : lfs (rD rows) = true := lfs_iff.mpr fun d hd => by
  obtain ⟨a, _, rfl⟩ := List.mem_map.mp hd
  exact lfs_nD a
theorem Pl.rD {n : Nat} {rows : List (List Nat)} : Pl (n + 3) (.tup (rD rows)) := .tup fun d hd => by
  obtain ⟨a, _, rfl⟩ := List.mem_map.mp hd
  exact Pl.nD
def pad (p : Nat) (r : List Nat) : List Nat := r ++ List.replicate (p - r.length) 0
def Rw (p s : Nat) (q : List Nat) : List Nat := q.take (s % (p + 1)) ++ [xr q] ++ q.drop (s % (p + 1))
def chk (p : Nat) (vs : List Nat) (s : Nat) : List Nat := (vs.drop (s * p)).take p
def nch (p : Nat) (vs : List Nat) : Nat := (vs.length + p - 1) / p
def rowsOf (p : Nat) (vs : List Nat) : List (List Nat) := (List.range (nch p vs)).map fun s => Rw p s (pad p (chk p vs s))
theorem mul_zero_row (k : Nat) (hk : k ≤ 1000) : dMul (.lst [.int 0]) (.int (k : Int)) = some (.lst (nD (List.replicate k 0))) := by
  unfold dMul
  refine (if_pos ⟨rfl, by omega, szl (by simp; omega)⟩).trans ?_
  rw [Int.toNat_natCast, nD_rep]
theorem stripes_turn (p : Nat) (hp : 1 ≤ p) (hp2 : p ≤ 100) (vs : List Nat) (s : Nat) (rows : List (List Nat)) (hs : rows.length = s) (hs2 : s < 1000) (y3 y4 y5 : Option D) :
    ∃ z4 z5, ((gN 3 (.int ((s * p : Nat) : Int)) [some (.int ((p + 1 : Nat) : Int)), some (.tup (nD vs)), some (.lst (rD rows)), y3, y4, y5]).bind B1_stripes_of) =
      some (.nx [some (.int ((p + 1 : Nat) : Int)), some (.tup (nD vs)), some (.lst (rD (rows ++ [Rw p s (pad p (chk p vs s))]))), some (.int ((s * p : Nat) : Int)), z4, z5]) := by
  have e1 : ((s * p : Nat) : Int) + ((p + 1 : Nat) : Int) - 1 = ((s * p + p : Nat) : Int) := by omega
  have cut1 : cutD (nD vs) (some ((s * p : Nat) : Int)) (some ((s * p + p : Nat) : Int)) = nD (chk p vs s) := by
    rw [cut_ab, nD_drop, nD_take, show s * p + p - s * p = p by omega]
    rfl
  have cl : (chk p vs s).length ≤ p := by unfold chk; rw [List.length_take]; omega
  generalize hc : chk p vs s = c at cl cut1
  have e2 : ((p + 1 : Nat) : Int) - 1 - (c.length : Int) = ((p - c.length : Nat) : Int) := by omega
  have m1 := mul_zero_row (p - c.length) (by omega)
  have z1 : 1 ≤ sizeLine := by decide
  have z2 : c.length + (List.replicate (p - c.length) 0).length ≤ sizeLine := szl (by rw [List.length_replicate]; omega)
  have ex : nD c ++ nD (List.replicate (p - c.length) 0) = nD (pad p c) := by unfold pad; rw [nD_app]
  have pl : (pad p c).length = p := by unfold pad; rw [List.length_append, List.length_replicate]; omega
  have em : (if 0 < ((p + 1 : Nat) : Int) then some (D.int ((s : Int) % ((p + 1 : Nat) : Int))) else none) = some (D.int ((s % (p + 1) : Nat) : Int)) := by
    rw [if_pos (by omega), Int.natCast_emod]
  have hm : s % (p + 1) < p + 1 := Nat.mod_lt _ (by omega)
  have ad := added_lst (pad p c)
  have z3 : ((nD (pad p c)).take (s % (p + 1))).length + 1 ≤ sizeLine := szl (by rw [List.length_take, nD_len]; omega)
  have z4 : ((nD (pad p c)).take (s % (p + 1)) ++ [D.int (xr (pad p c) : Int)]).length + ((nD (pad p c)).drop (s % (p + 1))).length ≤ sizeLine := szl (by rw [List.length_append, List.length_take, List.length_drop, nD_len]; simp; omega)
  have z5 : s < sizeLine := szl' (by omega)
  have f1 : ∀ k, lfs ((nD (pad p c)).take k) = true := fun k => by rw [nD_take]; exact lfs_nD _
  have f2 : ∀ k, lfs ((nD (pad p c)).drop k) = true := fun k => by rw [nD_drop]; exact lfs_nD _
  have f3 : lfs ((nD (pad p c)).take (s % (p + 1)) ++ [D.int (xr (pad p c) : Int)]) = true := lfs_append (f1 _) rfl
  have f4 : lfs ((nD (pad p c)).take (s % (p + 1)) ++ [D.int (xr (pad p c) : Int)] ++ (nD (pad p c)).drop (s % (p + 1))) = true := lfs_append f3 (f2 _)
  have fin : (nD (pad p c)).take (s % (p + 1)) ++ [D.int (xr (pad p c) : Int)] ++ (nD (pad p c)).drop (s % (p + 1)) = nD (Rw p s (pad p c)) := by
    unfold Rw
    rw [nD_app, nD_app, nD_take, nD_drop]
    rfl
  have app : ∀ r, rD rows ++ [D.tup (nD r)] = rD (rows ++ [r]) := fun r => by unfold rD; rw [List.map_append]; rfl
  refine ⟨some (.lst (nD (pad p c))), some (.int ((s % (p + 1) : Nat) : Int)), ?_⟩
  have h1 : (sAsg (eB gList (aCons (eSl (eV 1) (oS (eV 3)) (oS (eOp dSub (eOp dAdd (eV 3) (eV 0)) (eC (.int 1))))) aNil)) (gN 4)) [some (.int ((p + 1 : Nat) : Int)), some (.tup (nD vs)), some (.lst (rD rows)), some (.int ((s * p : Nat) : Int)), y4, y5] =
      some (.nx [some (.int ((p + 1 : Nat) : Int)), some (.tup (nD vs)), some (.lst (rD rows)), some (.int ((s * p : Nat) : Int)), some (.lst (nD c)), y5]) := by
    simp only [rO, rS, rE, rL, rB, bs, dcT, Bool.and_true, Bool.not_true, Bool.not_false, List.map, List.replicate, List.cons_append, List.nil_append, List.append_nil, List.length_cons, List.length_nil, List.mem_singleton, reduceCtorEq, Nat.reduceAdd, Nat.reduceSub, Nat.reduceLT, iD_len, e1, cut1, lfs_nD]
  have h2 : sExt 4 (eOp dMul (eLst (aCons (eC (.int 0)) aNil)) (eOp dSub (eOp dSub (eV 0) (eC (.int 1))) (eB gLen (aCons (eV 4) aNil)))) [some (.int ((p + 1 : Nat) : Int)), some (.tup (nD vs)), some (.lst (rD rows)), some (.int ((s * p : Nat) : Int)), some (.lst (nD c)), y5] =
      some (.nx [some (.int ((p + 1 : Nat) : Int)), some (.tup (nD vs)), some (.lst (rD rows)), some (.int ((s * p : Nat) : Int)), some (.lst (nD (pad p c))), y5]) := by
    simp only [rO, rS, rE, rL, rB, bs, dcT, Bool.and_true, Bool.not_true, Bool.not_false, List.map, List.replicate, List.cons_append, List.nil_append, List.append_nil, List.length_cons, List.length_nil, List.mem_singleton, reduceCtorEq, Nat.reduceAdd, Nat.reduceSub, Nat.reduceLT, iD_len, lfs_nD, e2, nD_len, z1, m1, z2, ex]
  have h3 : (sAsg (eOp dMod (eB gLen (aCons (eV 2) aNil)) (eV 0)) (gN 5)) [some (.int ((p + 1 : Nat) : Int)), some (.tup (nD vs)), some (.lst (rD rows)), some (.int ((s * p : Nat) : Int)), some (.lst (nD (pad p c))), y5] =
      some (.nx [some (.int ((p + 1 : Nat) : Int)), some (.tup (nD vs)), some (.lst (rD rows)), some (.int ((s * p : Nat) : Int)), some (.lst (nD (pad p c))), some (.int ((s % (p + 1) : Nat) : Int))]) := by
    simp only [rO, rS, rE, rL, rB, bs, dcT, Bool.and_true, Bool.not_true, Bool.not_false, List.map, List.replicate, List.cons_append, List.nil_append, List.append_nil, List.length_cons, List.length_nil, List.mem_singleton, reduceCtorEq, Nat.reduceAdd, Nat.reduceSub, Nat.reduceLT, iD_len, rD_len, hs, em]
  have h4 : (sDrop (eMeth 2 mApp (aCons (eB gTuple (aCons (eOp dAdd (eOp dAdd (eSl (eV 4) oN (oS (eV 5))) (eLst (aCons (eCall F_added [] [none] (aCons (eV 4) aNil)) aNil))) (eSl (eV 4) (oS (eV 5)) oN)) aNil)) aNil))) [some (.int ((p + 1 : Nat) : Int)), some (.tup (nD vs)), some (.lst (rD rows)), some (.int ((s * p : Nat) : Int)), some (.lst (nD (pad p c))), some (.int ((s % (p + 1) : Nat) : Int))] =
      some (.nx [some (.int ((p + 1 : Nat) : Int)), some (.tup (nD vs)), some (.lst (rD (rows ++ [Rw p s (pad p c)]))), some (.int ((s * p : Nat) : Int)), some (.lst (nD (pad p c))), some (.int ((s % (p + 1) : Nat) : Int))]) := by
    simp only [rO, rS, rE, rL, rB, bs, dcT, Bool.and_true, Bool.not_true, Bool.not_false, List.map, List.replicate, List.cons_append, List.nil_append, List.append_nil, List.length_cons, List.length_nil, List.mem_singleton, reduceCtorEq, Nat.reduceAdd, Nat.reduceSub, Nat.reduceLT, iD_len, lfs_nD, rD_len, hs, cut_a, cut_b, ad, f1, f2, f3, f4, z1, z3, z4, z5, fin, app]
  show (B1_stripes_of [some (.int ((p + 1 : Nat) : Int)), some (.tup (nD vs)), some (.lst (rD rows)), some (.int ((s * p : Nat) : Int)), y4, y5]) = _
  unfold B1_stripes_of
  exact seq_go h1 (seq_go h2 (seq_go h3 h4))
theorem range_snoc {α : Type} (f : Nat → α) (j : Nat) : (List.range j).map f ++ [f j] = (List.range (j + 1)).map f := by
  rw [List.range_succ, List.map_append]; rfl
theorem stripes_ok (p : Nat) (hp : 1 ≤ p) (hp2 : p ≤ 100) (vs : List Nat) (hv : vs.length ≤ 500) :
    F_stripes_of [.int ((p + 1 : Nat) : Int), .tup (nD vs)] = some (.tup (rD (rowsOf p vs)), [.int ((p + 1 : Nat) : Int), .tup (nD vs)]) := by
  have nb : nch p vs ≤ vs.length + p := Nat.le_trans (Nat.div_le_self _ _) (by omega)
  obtain ⟨e2, g1, rows, y3, y4, y5, g2, g3⟩ := forL_rel (t := gN 3) (b := B1_stripes_of) (ds := rngD ((0 : Nat) : Int) (p : Int) (nch p vs)) (e := [some (.int ((p + 1 : Nat) : Int)), some (.tup (nD vs)), some (.lst []), none, none, none])
    (fun j e => ∃ rows y3 y4 y5, rows = ((List.range j).map fun s => Rw p s (pad p (chk p vs s))) ∧ e = [some (.int ((p + 1 : Nat) : Int)), some (.tup (nD vs)), some (.lst (rD rows)), y3, y4, y5])
    ⟨[], none, none, none, rfl, rfl⟩ fun j d e hj ⟨rows, y3, y4, y5, hr, he⟩ => by
      obtain ⟨hjn, rfl⟩ := rng_at hj
      subst he
      have ez : ((0 : Nat) : Int) + (j : Int) * (p : Int) = ((j * p : Nat) : Int) := by rw [Int.natCast_mul]; omega
      rw [ez]
      obtain ⟨z4, z5, h⟩ := stripes_turn p hp hp2 vs j rows (by rw [hr, List.length_map, List.length_range]) (by omega) y3 y4 y5
      exact ⟨_, h, rows ++ [Rw p j (pad p (chk p vs j))], _, z4, z5, by rw [hr]; exact range_snoc _ j, rfl⟩
  rw [rng_len] at g2
  have hr : rows = rowsOf p vs := g2
  subst hr g3
  have e1 : ((p + 1 : Nat) : Int) - 1 = (p : Int) := by omega
  have r3 := rng3_ok (fs := aCons (eC (.int 0)) (aCons (eB gLen (aCons (eV 1) aNil)) (aCons (eOp dSub (eV 0) (eC (.int 1))) aNil))) (e := [some (.int ((p + 1 : Nat) : Int)), some (.tup (nD vs)), some (.lst []), none, none, none]) (a := 0) (b := vs.length) (c := p)
    (by simp only [rO, rS, rE, rL, rB, bs, dcT, Bool.and_true, Bool.not_true, Bool.not_false, List.map, List.replicate, List.cons_append, List.nil_append, List.append_nil, List.length_cons, List.length_nil, List.mem_singleton, reduceCtorEq, Nat.reduceAdd, Nat.reduceSub, Nat.reduceLT, iD_len, nD_len, e1]; rfl) (by omega) (by omega) (by omega) (by omega)
  have z0 : 0 ≤ sizeLine := Nat.zero_le _
  unfold F_stripes_of G_stripes_of
  refine run_go ⟨rfl, rfl⟩ (e := [some (.int ((p + 1 : Nat) : Int)), some (.tup (nD vs)), some (.lst (rD (rowsOf p vs))), y3, y4, y5]) ?_
  refine seq_go (e1 := [some (.int ((p + 1 : Nat) : Int)), some (.tup (nD vs)), some (.lst []), none, none, none]) ?_ (seq_go (for_go r3 (lfs_rng _ _ _) g1) ?_)
  · simp only [rO, rS, rE, rL, rB, bs, dcT, Bool.and_true, Bool.not_true, Bool.not_false, List.map, List.replicate, List.cons_append, List.nil_append, List.append_nil, List.length_cons, List.length_nil, List.mem_singleton, reduceCtorEq, Nat.reduceAdd, Nat.reduceSub, Nat.reduceLT, iD_len, z0]
  · simp only [rO, rS, rE, rL, rB, bs, dcT, Bool.and_true, Bool.not_true, Bool.not_false, List.map, List.replicate, List.cons_append, List.nil_append, List.append_nil, List.length_cons, List.length_nil, List.mem_singleton, reduceCtorEq, Nat.reduceAdd, Nat.reduceSub, Nat.reduceLT, iD_len, lfs_rD]
/-! ### the law's own stripes -/
def fD (cs : List (List Nat)) : List D := cs.map fun c => D.lst (nD c)
theorem fD_len (cs : List (List Nat)) : (fD cs).length = cs.length := List.length_map _
theorem fD_app (a b : List (List Nat)) : fD (a ++ b) = fD a ++ fD b := List.map_append
theorem fD_at {cs : List (List Nat)} {s : Nat} {c : List Nat} (h : cs[s]? = some c) : atI (fD cs) (s : Int) = some (.lst (nD c)) := by
  unfold atI
  rw [fD_len, ixN_nat (List.getElem?_eq_some_iff.mp h).1]
  show (fD cs)[s]? = _
  unfold fD
  rw [List.getElem?_map, h]
  rfl
theorem at_end {α : Type} (a : List α) (c : α) : ixN (a ++ [c]).length (-1) = some a.length ∧ (a ++ [c])[a.length]? = some c ∧ atI (a ++ [c]) (-1) = some c ∧ ∀ x, (a ++ [c]).set a.length x = a ++ [x] := by
  have h1 : ixN (a ++ [c]).length (-1) = some a.length := by
    unfold ixN
    rw [if_neg (by omega), if_pos (by simp; omega), List.length_append]
    simp
    omega
  have h2 : (a ++ [c])[a.length]? = some c := by simp
  refine ⟨h1, h2, ?_, fun x => by simp⟩
  unfold atI
  rw [h1]
  exact h2
def fnd (p : Nat) (vs : List Nat) (j : Nat) : List (List Nat) := (List.range (j / p)).map (chk p vs) ++ (if j % p = 0 then [] else [(vs.drop (j / p * p)).take (j % p)])
theorem fnd_step (p : Nat) (hp : 1 ≤ p) (vs : List Nat) (j : Nat) : (List.range (j / p)).map (chk p vs) ++ [(vs.drop (j / p * p)).take (j % p + 1)] = fnd p vs (j + 1) := by
  have hd : j = j / p * p + j % p := by rw [Nat.mul_comm]; exact (Nat.div_add_mod j p).symm
  have hm : j % p < p := Nat.mod_lt _ hp
  unfold fnd
  by_cases h : j % p + 1 = p
  · have e1 : j + 1 = (j / p + 1) * p := by rw [Nat.add_mul]; omega
    have e2 : (j + 1) / p = j / p + 1 := by rw [e1, Nat.mul_div_cancel _ hp]
    have e3 : (j + 1) % p = 0 := by rw [e1, Nat.mul_mod_left]
    rw [e2, e3, if_pos rfl, List.append_nil, h, ← range_snoc]
    rfl
  · have e1 : j + 1 = (j % p + 1) + j / p * p := by omega
    have e2 : (j + 1) / p = j / p := by rw [e1, Nat.add_mul_div_right _ _ hp, Nat.div_eq_of_lt (by omega), Nat.zero_add]
    have e3 : (j + 1) % p = j % p + 1 := by rw [e1, Nat.add_mul_mod_self_right, Nat.mod_eq_of_lt (by omega)]
    rw [e2, e3, if_neg (by omega)]
theorem fnd_end (p : Nat) (hp : 1 ≤ p) (vs : List Nat) : fnd p vs vs.length = (List.range (nch p vs)).map (chk p vs) := by
  have hd : vs.length = vs.length / p * p + vs.length % p := by rw [Nat.mul_comm]; exact (Nat.div_add_mod _ p).symm
  have hm : vs.length % p < p := Nat.mod_lt _ hp
  unfold fnd nch
  by_cases h : vs.length % p = 0
  · have e2 : (vs.length + p - 1) / p = vs.length / p := by
      have e1 : vs.length + p - 1 = (p - 1) + vs.length / p * p := by omega
      rw [e1, Nat.add_mul_div_right _ _ hp, Nat.div_eq_of_lt (by omega), Nat.zero_add]
    rw [if_pos h, e2, List.append_nil]
  · have e2 : (vs.length + p - 1) / p = vs.length / p + 1 := by
      have e1 : vs.length + p - 1 = (vs.length % p - 1) + (vs.length / p + 1) * p := by rw [Nat.add_mul]; omega
      rw [e1, Nat.add_mul_div_right _ _ hp, Nat.div_eq_of_lt (by omega), Nat.zero_add]
    rw [if_neg h, e2, ← range_snoc]
    congr 1
    unfold chk
    rw [List.take_of_length_le (by rw [List.length_drop]; omega), List.take_of_length_le (by rw [List.length_drop]; omega)]
theorem lturn1 (p : Nat) (hp : 1 ≤ p) (vs : List Nat) (j : Nat) (hj : j < vs.length) (hv : vs.length ≤ 500) (y3 y4 y5 y6 : Option D) :
    ((gN 3 (.int (j : Int)) [some (.int ((p + 1 : Nat) : Int)), some (.tup (nD vs)), some (.lst (fD (fnd p vs j))), y3, y4, y5, y6]).bind B1__law_stripes) =
      some (.nx [some (.int ((p + 1 : Nat) : Int)), some (.tup (nD vs)), some (.lst (fD (fnd p vs (j + 1)))), some (.int (j : Int)), y4, y5, y6]) := by
  have e1 : ((p + 1 : Nat) : Int) - 1 = (p : Int) := by omega
  have em : (if 0 < (p : Int) then some (D.int ((j : Int) % (p : Int))) else none) = some (D.int ((j % p : Nat) : Int)) := by
    rw [if_pos (by omega), Int.natCast_emod]
  have hm : j % p < p := Nat.mod_lt _ hp
  have hd : j = j / p * p + j % p := by rw [Nat.mul_comm]; exact (Nat.div_add_mod j p).symm
  have hv' : vs[j]? = some vs[j] := List.getElem?_eq_getElem hj
  have av : atI (nD vs) (j : Int) = some (.int (vs[j] : Int)) := atI_nD hv'
  -- the last one takes vs[j]
  have push : ∀ (A : List (List Nat)) (c : List Nat), c.length ≤ 500 →
      sDrop (eMethIx 2 (eUn dNeg (eC (.int 1))) mApp (aCons (eLf (eOp dIx (eV 1) (eV 3))) aNil)) [some (.int ((p + 1 : Nat) : Int)), some (.tup (nD vs)), some (.lst (fD (A ++ [c]))), some (.int (j : Int)), y4, y5, y6] =
        some (.nx [some (.int ((p + 1 : Nat) : Int)), some (.tup (nD vs)), some (.lst (fD (A ++ [c ++ [vs[j]]]))), some (.int (j : Int)), y4, y5, y6]) := fun A c hc => by
    have z : c.length < sizeLine := szl' (by omega)
    have e2 : fD (A ++ [c]) = fD A ++ [D.lst (nD c)] := fD_app A [c]
    obtain ⟨q1, q2, q3, q4⟩ := at_end (fD A) (D.lst (nD c))
    have e3 : nD c ++ [D.int (vs[j] : Int)] = nD (c ++ [vs[j]]) := by rw [nD_app]; rfl
    have e4 : fD A ++ [D.lst (nD (c ++ [vs[j]]))] = fD (A ++ [c ++ [vs[j]]]) := (fD_app A [c ++ [vs[j]]]).symm
    have q1' : ixN ((fD A).length + 1) (-1) = some (fD A).length := by
      rw [List.length_append] at q1
      exact q1
    simp only [rO, rS, rE, rL, rB, bs, dcT, Bool.and_true, Bool.not_true, Bool.not_false, List.map, List.replicate, List.cons_append, List.nil_append, List.append_nil, List.length_cons, List.length_nil, List.mem_singleton, reduceCtorEq, Nat.reduceAdd, Nat.reduceSub, Nat.reduceLT, iD_len, e2, av, q3, q2, nD_len, z, e3, q4, e4, List.length_append, q1']
  have fin : ∀ (A : List (List Nat)) (c : List Nat), A = (List.range (j / p)).map (chk p vs) → c = (vs.drop (j / p * p)).take (j % p) → A ++ [c ++ [vs[j]]] = fnd p vs (j + 1) := fun A c hA hc => by
    rw [← fnd_step p hp, hA, hc]
    congr 2
    rw [List.take_add_one, List.getElem?_drop, ← hd, hv']
    rfl
  have cl : ((vs.drop (j / p * p)).take (j % p)).length ≤ 500 := by rw [List.length_take, List.length_drop]; omega
  show B1__law_stripes [some (.int ((p + 1 : Nat) : Int)), some (.tup (nD vs)), some (.lst (fD (fnd p vs j))), some (.int (j : Int)), y4, y5, y6] = _
  unfold B1__law_stripes
  rw [← fin _ _ rfl rfl]
  by_cases h0 : j % p = 0
  · have f0 : fnd p vs j = (List.range (j / p)).map (chk p vs) := by unfold fnd; rw [if_pos h0, List.append_nil]
    have c0 : (vs.drop (j / p * p)).take (j % p) = [] := by rw [h0, List.take_zero]
    have z : ((List.range (j / p)).map (chk p vs)).length < sizeLine := szl' (by
      rw [List.length_map, List.length_range]
      have := Nat.div_le_self j p
      omega)
    rw [f0, c0]
    have p2 := push ((List.range (j / p)).map (chk p vs)) [] (by simp)
    rw [c0] at *
    refine seq_go ?_ p2
    have e5 : fD ((List.range (j / p)).map (chk p vs)) ++ [D.lst []] = fD ((List.range (j / p)).map (chk p vs) ++ [[]]) := (fD_app _ [[]]).symm
    have z0 : 0 ≤ sizeLine := Nat.zero_le _
    simp only [rO, rS, rE, rL, rB, bs, dcT, Bool.and_true, Bool.not_true, Bool.not_false, List.map, List.replicate, List.cons_append, List.nil_append, List.append_nil, List.length_cons, List.length_nil, List.mem_singleton, reduceCtorEq, Nat.reduceAdd, Nat.reduceSub, Nat.reduceLT, iD_len, e1, em, dtrue (show ((j % p : Nat) : Int) = 0 by omega), fD_len, z, z0, e5]
  · have f0 : fnd p vs j = (List.range (j / p)).map (chk p vs) ++ [(vs.drop (j / p * p)).take (j % p)] := by unfold fnd; rw [if_neg h0]
    rw [f0]
    refine seq_go ?_ (push _ _ cl)
    simp only [rO, rS, rE, rL, rB, bs, dcT, Bool.and_true, Bool.not_true, Bool.not_false, List.map, List.replicate, List.cons_append, List.nil_append, List.append_nil, List.length_cons, List.length_nil, List.mem_singleton, reduceCtorEq, Nat.reduceAdd, Nat.reduceSub, Nat.reduceLT, iD_len, e1, em, dfalse (show ¬ ((j % p : Nat) : Int) = 0 by omega)]
theorem lturn2 (p : Nat) (hp : 1 ≤ p) (hp2 : p ≤ 100) (vs : List Nat) (s : Nat) (hs : s < nch p vs) (hn : nch p vs ≤ 1000) (rows : List (List Nat)) (hr : rows.length = s) (y3 y5 y6 : Option D) :
    ∃ z6, ((gN 5 (.int (s : Int)) [some (.int ((p + 1 : Nat) : Int)), some (.tup (nD vs)), some (.lst (fD ((List.range (nch p vs)).map (chk p vs)))), y3, some (.lst (rD rows)), y5, y6]).bind B2__law_stripes) =
      some (.nx [some (.int ((p + 1 : Nat) : Int)), some (.tup (nD vs)), some (.lst (fD ((List.range (nch p vs)).map (chk p vs)))), y3, some (.lst (rD (rows ++ [Rw p s (pad p (chk p vs s))]))), some (.int (s : Int)), z6]) := by
  have g : ((List.range (nch p vs)).map (chk p vs))[s]? = some (chk p vs s) := by
    rw [List.getElem?_map, List.getElem?_range hs]
    rfl
  have ga := fD_at g
  have cl : (chk p vs s).length ≤ p := by unfold chk; rw [List.length_take]; omega
  generalize hL : fD ((List.range (nch p vs)).map (chk p vs)) = L at ga
  generalize hc : chk p vs s = c at ga cl
  have e2 : ((p + 1 : Nat) : Int) - 1 - (c.length : Int) = ((p - c.length : Nat) : Int) := by omega
  have m1 := mul_zero_row (p - c.length) (by omega)
  have z1 : 1 ≤ sizeLine := by decide
  have z2 : c.length + (List.replicate (p - c.length) 0).length ≤ sizeLine := szl (by rw [List.length_replicate]; omega)
  have ex : nD c ++ nD (List.replicate (p - c.length) 0) = nD (pad p c) := by unfold pad; rw [nD_app]
  have pl : (pad p c).length = p := by unfold pad; rw [List.length_append, List.length_replicate]; omega
  have em : (if 0 < ((p + 1 : Nat) : Int) then some (D.int ((s : Int) % ((p + 1 : Nat) : Int))) else none) = some (D.int ((s % (p + 1) : Nat) : Int)) := by
    rw [if_pos (by omega), Int.natCast_emod]
  have hm : s % (p + 1) < p + 1 := Nat.mod_lt _ (by omega)
  have ad := ladded_lst (pad p c)
  have z5 : s < sizeLine := szl' (by omega)
  have ins : mIns (.lst (nD (pad p c))) [.int ((s % (p + 1) : Nat) : Int), .int (xr (pad p c) : Int)] = some (.non, .lst (nD (Rw p s (pad p c)))) := by
    unfold mIns
    refine (if_pos ⟨szl' (by rw [nD_len]; omega), by omega, by omega⟩).trans ?_
    unfold Rw
    rw [Int.toNat_natCast, nD_app, nD_app, nD_take, nD_drop]
    rfl
  have app : ∀ r, rD rows ++ [D.tup (nD r)] = rD (rows ++ [r]) := fun r => by unfold rD; rw [List.map_append]; rfl
  refine ⟨some (.lst (nD (Rw p s (pad p c)))), ?_⟩
  show B2__law_stripes [some (.int ((p + 1 : Nat) : Int)), some (.tup (nD vs)), some (.lst L), y3, some (.lst (rD rows)), some (.int (s : Int)), y6] = _
  unfold B2__law_stripes
  refine seq_go (e1 := [some (.int ((p + 1 : Nat) : Int)), some (.tup (nD vs)), some (.lst L), y3, some (.lst (rD rows)), some (.int (s : Int)), some (.lst (nD (pad p c)))]) ?_
    (seq_go (e1 := [some (.int ((p + 1 : Nat) : Int)), some (.tup (nD vs)), some (.lst L), y3, some (.lst (rD rows)), some (.int (s : Int)), some (.lst (nD (Rw p s (pad p c))))]) ?_ ?_)
  · simp only [rO, rS, rE, rL, rB, bs, dcT, Bool.and_true, Bool.not_true, Bool.not_false, List.map, List.replicate, List.cons_append, List.nil_append, List.append_nil, List.length_cons, List.length_nil, List.mem_singleton, reduceCtorEq, Nat.reduceAdd, Nat.reduceSub, Nat.reduceLT, iD_len, ga, lfs_nD, e2, nD_len, z1, m1, z2, ex]
  · simp only [rO, rS, rE, rL, rB, bs, dcT, Bool.and_true, Bool.not_true, Bool.not_false, List.map, List.replicate, List.cons_append, List.nil_append, List.append_nil, List.length_cons, List.length_nil, List.mem_singleton, reduceCtorEq, Nat.reduceAdd, Nat.reduceSub, Nat.reduceLT, iD_len, em, ad, ins]
  · simp only [rO, rS, rE, rL, rB, bs, dcT, Bool.and_true, Bool.not_true, Bool.not_false, List.map, List.replicate, List.cons_append, List.nil_append, List.append_nil, List.length_cons, List.length_nil, List.mem_singleton, reduceCtorEq, Nat.reduceAdd, Nat.reduceSub, Nat.reduceLT, iD_len, lfs_nD, rD_len, hr, z5, app]
theorem lstripes_ok (p : Nat) (hp : 1 ≤ p) (hp2 : p ≤ 100) (vs : List Nat) (hv : vs.length ≤ 500) :
    F__law_stripes [.int ((p + 1 : Nat) : Int), .tup (nD vs)] = some (.tup (rD (rowsOf p vs)), [.int ((p + 1 : Nat) : Int), .tup (nD vs)]) := by
  have nb : nch p vs ≤ vs.length + p := Nat.le_trans (Nat.div_le_self _ _) (by omega)
  obtain ⟨e2, g1, y3, g3⟩ := forL_rel (t := gN 3) (b := B1__law_stripes) (ds := rngD 0 1 vs.length) (e := [some (.int ((p + 1 : Nat) : Int)), some (.tup (nD vs)), some (.lst []), none, none, none, none])
    (fun j e => ∃ y3, e = [some (.int ((p + 1 : Nat) : Int)), some (.tup (nD vs)), some (.lst (fD (fnd p vs j))), y3, none, none, none])
    ⟨none, by unfold fnd; rw [Nat.zero_div, Nat.zero_mod]; rfl⟩ fun j d e hj ⟨y3, he⟩ => by
      obtain ⟨hjn, rfl⟩ := rng_at hj
      subst he
      rw [show (0 : Int) + (j : Int) * 1 = (j : Int) by omega]
      exact ⟨_, lturn1 p hp vs j hjn hv y3 none none none, _, rfl⟩
  rw [rng_len, fnd_end p hp] at g3
  subst g3
  obtain ⟨e3, h1, rows, y5, y6, h2, h3⟩ := forL_rel (t := gN 5) (b := B2__law_stripes) (ds := rngD 0 1 (nch p vs)) (e := [some (.int ((p + 1 : Nat) : Int)), some (.tup (nD vs)), some (.lst (fD ((List.range (nch p vs)).map (chk p vs)))), y3, some (.lst []), none, none])
    (fun j e => ∃ rows y5 y6, rows = ((List.range j).map fun s => Rw p s (pad p (chk p vs s))) ∧ e = [some (.int ((p + 1 : Nat) : Int)), some (.tup (nD vs)), some (.lst (fD ((List.range (nch p vs)).map (chk p vs)))), y3, some (.lst (rD rows)), y5, y6])
    ⟨[], none, none, rfl, rfl⟩ fun j d e hj ⟨rows, y5, y6, hr, he⟩ => by
      obtain ⟨hjn, rfl⟩ := rng_at hj
      subst he
      rw [show (0 : Int) + (j : Int) * 1 = (j : Int) by omega]
      obtain ⟨z6, h⟩ := lturn2 p hp hp2 vs j hjn (by omega) rows (by rw [hr, List.length_map, List.length_range]) y3 y5 y6
      exact ⟨_, h, rows ++ [Rw p j (pad p (chk p vs j))], _, z6, by rw [hr]; exact range_snoc _ j, rfl⟩
  rw [rng_len] at h2
  have hr : rows = rowsOf p vs := h2
  subst hr h3
  have z0 : 0 ≤ sizeLine := Nat.zero_le _
  unfold F__law_stripes G__law_stripes
  refine run_go ⟨rfl, rfl⟩ (e := [some (.int ((p + 1 : Nat) : Int)), some (.tup (nD vs)), some (.lst (fD ((List.range (nch p vs)).map (chk p vs)))), y3, some (.lst (rD (rowsOf p vs))), y5, y6]) ?_
  refine seq_go (e1 := [some (.int ((p + 1 : Nat) : Int)), some (.tup (nD vs)), some (.lst []), none, none, none, none]) ?_
    (seq_go (for_go (ds := rngD 0 1 vs.length) ?_ (lfs_rng _ _ _) g1) (seq_go (e1 := [some (.int ((p + 1 : Nat) : Int)), some (.tup (nD vs)), some (.lst (fD ((List.range (nch p vs)).map (chk p vs)))), y3, some (.lst []), none, none]) ?_ (seq_go (for_go (ds := rngD 0 1 (nch p vs)) ?_ (lfs_rng _ _ _) h1) ?_)))
  · simp only [rO, rS, rE, rL, rB, bs, dcT, Bool.and_true, Bool.not_true, Bool.not_false, List.map, List.replicate, List.cons_append, List.nil_append, List.append_nil, List.length_cons, List.length_nil, List.mem_singleton, reduceCtorEq, Nat.reduceAdd, Nat.reduceSub, Nat.reduceLT, iD_len, z0]
  · simp only [rO, rS, rE, rL, rB, bs, dcT, Bool.and_true, Bool.not_true, Bool.not_false, List.map, List.replicate, List.cons_append, List.nil_append, List.append_nil, List.length_cons, List.length_nil, List.mem_singleton, reduceCtorEq, Nat.reduceAdd, Nat.reduceSub, Nat.reduceLT, iD_len, nD_len, Int.toNat_natCast]
  · simp only [rO, rS, rE, rL, rB, bs, dcT, Bool.and_true, Bool.not_true, Bool.not_false, List.map, List.replicate, List.cons_append, List.nil_append, List.append_nil, List.length_cons, List.length_nil, List.mem_singleton, reduceCtorEq, Nat.reduceAdd, Nat.reduceSub, Nat.reduceLT, iD_len, z0]
  · simp only [rO, rS, rE, rL, rB, bs, dcT, Bool.and_true, Bool.not_true, Bool.not_false, List.map, List.replicate, List.cons_append, List.nil_append, List.append_nil, List.length_cons, List.length_nil, List.mem_singleton, reduceCtorEq, Nat.reduceAdd, Nat.reduceSub, Nat.reduceLT, iD_len, fD_len, List.length_map, List.length_range, Int.toNat_natCast]
  · simp only [rO, rS, rE, rL, rB, bs, dcT, Bool.and_true, Bool.not_true, Bool.not_false, List.map, List.replicate, List.cons_append, List.nil_append, List.append_nil, List.length_cons, List.length_nil, List.mem_singleton, reduceCtorEq, Nat.reduceAdd, Nat.reduceSub, Nat.reduceLT, iD_len, lfs_rD]
theorem getDe {α : Type} (l : List α) (d : α) {i : Nat} (h : i < l.length) : l.getD i d = l[i] := by
  rw [List.getD_eq_getElem?_getD, List.getElem?_eq_getElem h]
  rfl
/-! ### the values again -/
theorem map_getD_take (row : List Nat) : ∀ m, m ≤ row.length → (List.range m).map (fun i => row.getD i 0) = row.take m
  | 0, _ => rfl
  | m + 1, h => by
    rw [List.range_succ, List.map_append, map_getD_take row m (by omega), List.take_add_one, List.getElem?_eq_getElem (by omega)]
    show row.take m ++ [row.getD m 0] = _
    rw [getDe _ _ (by omega)]
    rfl
theorem map_getD_drop (row : List Nat) (m : Nat) (k : Nat) (h : row.length = m + k) : (List.range k).map (fun i => row.getD (m + i) 0) = row.drop m := by
  have e := map_getD_take (row.drop m) k (by rw [List.length_drop]; omega)
  rw [List.take_of_length_le (by rw [List.length_drop]; omega)] at e
  rw [← e]
  refine List.map_congr_left fun i hi => ?_
  have hi' : i < k := List.mem_range.mp hi
  rw [getDe _ _ (by omega), getDe _ _ (by rw [List.length_drop]; omega), List.getElem_drop]
def keep (m : Nat) (row : List Nat) : List Nat := row.take m ++ row.drop (m + 1)
theorem keep_range (row : List Nat) (m : Nat) (h : m < row.length) : ((List.range row.length).filter fun i => !decide (i = m)).map (fun i => row.getD i 0) = keep m row := by
  obtain ⟨k, hk⟩ : ∃ k, row.length = (m + 1) + k := ⟨row.length - (m + 1), by omega⟩
  have e1 : List.range row.length = (List.range m ++ [m]) ++ (List.range k).map (fun i => m + 1 + i) := by
    rw [hk, List.range_add, List.range_succ]
  rw [e1, List.filter_append, List.filter_append, List.map_append, List.map_append]
  have f1 : (List.range m).filter (fun i => !decide (i = m)) = List.range m := List.filter_eq_self.mpr fun i hi => by
    have := List.mem_range.mp hi
    simp; omega
  have f2 : [m].filter (fun i => !decide (i = m)) = [] := by simp
  have f3 : ((List.range k).map (fun i => m + 1 + i)).filter (fun i => !decide (i = m)) = (List.range k).map (fun i => m + 1 + i) := List.filter_eq_self.mpr fun i hi => by
    obtain ⟨j, _, rfl⟩ := List.mem_map.mp hi
    simp; omega
  rw [f1, f2, f3, List.map_map, map_getD_take row m (by omega)]
  unfold keep
  rw [List.map_nil, List.append_nil]
  congr 1
  exact map_getD_drop row (m + 1) k hk
def pd (m : Nat) : D → Bool
  | .int i => !decide (i = (m : Int))
  | _ => false
def gd (row : List Nat) : D → D
  | .int i => .int (row.getD i.toNat 0 : Int)
  | d => d
theorem keep_rngD (row : List Nat) (m : Nat) (h : m < row.length) : ((rngD 0 1 row.length).filter (pd m)).map (gd row) = nD (keep m row) := by
  have e0 : rngD 0 1 row.length = (List.range row.length).map (fun i : Nat => D.int (i : Int)) := List.map_congr_left fun i _ => by
    show D.int _ = _
    congr 1
    omega
  rw [e0, List.filter_map, List.map_map, ← keep_range row m h]
  unfold nD
  rw [List.map_map]
  have e1 : (List.range row.length).filter (pd m ∘ fun i : Nat => D.int (i : Int)) = (List.range row.length).filter fun i => !decide (i = m) := List.filter_congr fun i _ => by
    show (!decide ((i : Int) = (m : Int))) = !decide (i = m)
    by_cases hi : i = m
    · rw [dtrue hi, dtrue (by omega)]
    · rw [dfalse hi, dfalse (by omega)]
  rw [e1]
  rfl
theorem rD_at {rows : List (List Nat)} {s : Nat} {r : List Nat} (h : rows[s]? = some r) : atI (rD rows) (s : Int) = some (.tup (nD r)) := by
  unfold atI
  rw [rD_len, ixN_nat (List.getElem?_eq_some_iff.mp h).1]
  show (rD rows)[s]? = _
  unfold rD
  rw [List.getElem?_map, h]
  rfl
theorem values_turn (p : Nat) (hp2 : p ≤ 100) (rows : List (List Nat)) (hw : ∀ r ∈ rows, r.length = p + 1) (s : Nat) (hs : s < rows.length) (hl : rows.length ≤ 1000) (xs : List Nat) (hx : xs.length = s * p) (d2 y4 : Option D) :
    ((gN 4 (.int (s : Int)) [some (.int ((p + 1 : Nat) : Int)), some (.tup (rD rows)), d2, some (.lst (nD xs)), y4, none]).bind B1_values_of) =
      some (.nx [some (.int ((p + 1 : Nat) : Int)), some (.tup (rD rows)), d2, some (.lst (nD (xs ++ keep (s % (p + 1)) rows[s]))), some (.int (s : Int)), none]) := by
  have hr : rows[s].length = p + 1 := hw _ (List.getElem_mem hs)
  have hm : s % (p + 1) < p + 1 := Nat.mod_lt _ (by omega)
  have em : (if 0 < ((p + 1 : Nat) : Int) then some (D.int ((s : Int) % ((p + 1 : Nat) : Int))) else none) = some (D.int ((s % (p + 1) : Nat) : Int)) := by
    rw [if_pos (by omega), Int.natCast_emod]
  have ra := rD_at (List.getElem?_eq_getElem hs)
  have c1 := lcL_filter (ow := [5]) (t := gN 5) (tt := tV (eOp dNe (eV 5) (eOp dMod (eV 4) (eV 0)))) (fe := eLf (eOp dIx (eOp dIx (eV 1) (eV 4)) (eV 5))) (pd (s % (p + 1))) (gd rows[s]) (rngD 0 1 (p + 1)) [some (.int ((p + 1 : Nat) : Int)), some (.tup (rD rows)), d2, some (.lst (nD xs)), some (.int (s : Int)), none]
    fun d hd => by
      obtain ⟨j, hj⟩ := List.getElem?_of_mem hd
      obtain ⟨hjn, rfl⟩ := rng_at hj
      have ez : (0 : Int) + (j : Int) * 1 = (j : Int) := by omega
      rw [ez]
      have ja : atI (nD rows[s]) (j : Int) = some (.int (rows[s].getD j 0 : Int)) := by
        rw [getDe _ _ (by omega)]
        exact atI_nD (List.getElem?_eq_getElem (by omega))
      refine ⟨[some (.int ((p + 1 : Nat) : Int)), some (.tup (rD rows)), d2, some (.lst (nD xs)), some (.int (s : Int)), some (.int (j : Int))], [some (.int ((p + 1 : Nat) : Int)), some (.tup (rD rows)), d2, some (.lst (nD xs)), some (.int (s : Int)), some (.int (j : Int))], rfl, ?_, rfl, fun _ => ⟨[some (.int ((p + 1 : Nat) : Int)), some (.tup (rD rows)), d2, some (.lst (nD xs)), some (.int (s : Int)), some (.int (j : Int))], ?_, rfl⟩⟩
      · simp only [rO, rS, rE, rL, rB, bs, dcT, Bool.and_true, Bool.not_true, Bool.not_false, List.map, List.replicate, List.cons_append, List.nil_append, List.append_nil, List.length_cons, List.length_nil, List.mem_singleton, reduceCtorEq, Nat.reduceAdd, Nat.reduceSub, Nat.reduceLT, iD_len, em]
        rfl
      · simp only [rO, rS, rE, rL, rB, bs, dcT, Bool.and_true, Bool.not_true, Bool.not_false, List.map, List.replicate, List.cons_append, List.nil_append, List.append_nil, List.length_cons, List.length_nil, List.mem_singleton, reduceCtorEq, Nat.reduceAdd, Nat.reduceSub, Nat.reduceLT, iD_len, ra, ja]
        rfl
  have hk := keep_rngD rows[s] (s % (p + 1)) (by omega)
  rw [hr] at hk
  rw [hk] at c1
  have kl : (keep (s % (p + 1)) rows[s]).length = p := by
    unfold keep
    rw [List.length_append, List.length_take, List.length_drop]
    omega
  have sp : s * p ≤ 1000 * 100 := Nat.mul_le_mul (by omega) hp2
  have z1 : p + 1 ≤ sizeLine := szl (by omega)
  have z2 : xs.length + (keep (s % (p + 1)) rows[s]).length ≤ sizeLine := szl (by omega)
  show B1_values_of [some (.int ((p + 1 : Nat) : Int)), some (.tup (rD rows)), d2, some (.lst (nD xs)), some (.int (s : Int)), none] = _
  unfold B1_values_of
  simp only [rO, rS, rE, rL, rB, bs, dcT, Bool.and_true, Bool.not_true, Bool.not_false, List.map, List.replicate, List.cons_append, List.nil_append, List.append_nil, List.length_cons, List.length_nil, List.mem_singleton, reduceCtorEq, Nat.reduceAdd, Nat.reduceSub, Nat.reduceLT, iD_len, rng_len, z1, Int.toNat_natCast, c1, lfs_nD, nD_len, z2, ← nD_app]
def flt (p : Nat) (rows : List (List Nat)) (k : Nat) : List Nat := ((List.range k).map fun s => keep (s % (p + 1)) (rows.getD s [])).flatten
theorem values_of_ok (p : Nat) (hp2 : p ≤ 100) (rows : List (List Nat)) (hw : ∀ r ∈ rows, r.length = p + 1) (hl : rows.length ≤ 1000) (many : Nat) :
    F_values_of [.int ((p + 1 : Nat) : Int), .tup (rD rows), .int (many : Int)] = some (.tup (nD ((flt p rows rows.length).take many)), [.int ((p + 1 : Nat) : Int), .tup (rD rows), .int (many : Int)]) := by
  obtain ⟨e2, g1, xs, y4, g2, g3, g4⟩ := forL_rel (t := gN 4) (b := B1_values_of) (ds := rngD 0 1 rows.length) (e := [some (.int ((p + 1 : Nat) : Int)), some (.tup (rD rows)), some (.int (many : Int)), some (.lst []), none, none])
    (fun j e => ∃ xs y4, (xs = flt p rows j) ∧ (j ≤ rows.length → xs.length = j * p) ∧ e = [some (.int ((p + 1 : Nat) : Int)), some (.tup (rD rows)), some (.int (many : Int)), some (.lst (nD xs)), y4, none])
    ⟨[], none, rfl, fun _ => by simp, rfl⟩ fun j d e hj ⟨xs, y4, h1, h2, he⟩ => by
      obtain ⟨hjn, rfl⟩ := rng_at hj
      subst he
      rw [show (0 : Int) + (j : Int) * 1 = (j : Int) by omega]
      have hr : rows[j].length = p + 1 := hw _ (List.getElem_mem hjn)
      have hm : j % (p + 1) < p + 1 := Nat.mod_lt _ (by omega)
      refine ⟨_, values_turn p hp2 rows hw j hjn hl xs (h2 (by omega)) _ y4, _, _, ?_, fun _ => ?_, rfl⟩
      · unfold flt
        rw [← range_snoc, List.flatten_append, List.flatten_singleton, h1, getDe _ _ hjn]
        rfl
      · rw [List.length_append, h2 (by omega)]
        unfold keep
        rw [List.length_append, List.length_take, List.length_drop, hr, Nat.add_mul]
        omega
  rw [rng_len] at g2 g3
  subst g2 g4
  have z0 : 0 ≤ sizeLine := Nat.zero_le _
  unfold F_values_of G_values_of
  refine run_go ⟨rfl, rfl⟩ (e := [some (.int ((p + 1 : Nat) : Int)), some (.tup (rD rows)), some (.int (many : Int)), some (.lst (nD (flt p rows rows.length))), y4, none]) ?_
  refine seq_go (e1 := [some (.int ((p + 1 : Nat) : Int)), some (.tup (rD rows)), some (.int (many : Int)), some (.lst []), none, none]) ?_ (seq_go (for_go (ds := rngD 0 1 rows.length) ?_ (lfs_rng _ _ _) g1) ?_)
  · simp only [rO, rS, rE, rL, rB, bs, dcT, Bool.and_true, Bool.not_true, Bool.not_false, List.map, List.replicate, List.cons_append, List.nil_append, List.append_nil, List.length_cons, List.length_nil, List.mem_singleton, reduceCtorEq, Nat.reduceAdd, Nat.reduceSub, Nat.reduceLT, iD_len, z0]
  · simp only [rO, rS, rE, rL, rB, bs, dcT, Bool.and_true, Bool.not_true, Bool.not_false, List.map, List.replicate, List.cons_append, List.nil_append, List.append_nil, List.length_cons, List.length_nil, List.mem_singleton, reduceCtorEq, Nat.reduceAdd, Nat.reduceSub, Nat.reduceLT, iD_len, rD_len, Int.toNat_natCast]
  · simp only [rO, rS, rE, rL, rB, bs, dcT, Bool.and_true, Bool.not_true, Bool.not_false, List.map, List.replicate, List.cons_append, List.nil_append, List.append_nil, List.length_cons, List.length_nil, List.mem_singleton, reduceCtorEq, Nat.reduceAdd, Nat.reduceSub, Nat.reduceLT, iD_len, lfs_nD, cut_a, nD_take]
/-! ### what the rows are like -/
theorem pad_len {p : Nat} {c : List Nat} (h : c.length ≤ p) : (pad p c).length = p := by unfold pad; rw [List.length_append, List.length_replicate]; omega
theorem chk_len (p : Nat) (vs : List Nat) (s : Nat) : (chk p vs s).length ≤ p := by unfold chk; rw [List.length_take]; omega
theorem Rw_len (p s : Nat) (q : List Nat) (h : q.length = p) : (Rw p s q).length = p + 1 := by
  unfold Rw
  rw [List.length_append, List.length_append, List.length_take, List.length_drop]
  simp
  have : s % (p + 1) < p + 1 := Nat.mod_lt _ (by omega)
  omega
theorem rows_wide (p : Nat) (vs : List Nat) : ∀ r ∈ rowsOf p vs, r.length = p + 1 := fun r hr => by
  obtain ⟨s, _, rfl⟩ := List.mem_map.mp hr
  exact Rw_len p s _ (pad_len (chk_len p vs s))
theorem rows_len (p : Nat) (vs : List Nat) : (rowsOf p vs).length = nch p vs := by unfold rowsOf; rw [List.length_map, List.length_range]
theorem keep_Rw (p s : Nat) (q : List Nat) (h : q.length = p) : keep (s % (p + 1)) (Rw p s q) = q := by
  have hm : s % (p + 1) < p + 1 := Nat.mod_lt _ (by omega)
  have hl : (q.take (s % (p + 1))).length = s % (p + 1) := by rw [List.length_take]; omega
  unfold keep Rw
  rw [List.append_assoc, List.take_append_of_le_length (by omega), List.take_of_length_le (by omega), List.drop_append, hl]
  rw [List.drop_of_length_le (by omega), show s % (p + 1) + 1 - s % (p + 1) = 1 by omega]
  show q.take (s % (p + 1)) ++ ([] ++ q.drop (s % (p + 1))) = q
  rw [List.nil_append, List.take_append_drop]
theorem xr_Rw (p s : Nat) (q : List Nat) : xr (Rw p s q) = 0 := by
  unfold Rw
  rw [xr_app, xr_app, xr_one]
  have e : xr q = xr (q.take (s % (p + 1))) ^^^ xr (q.drop (s % (p + 1))) := by rw [← xr_app, List.take_append_drop]
  rw [e, Nat.xor_assoc, Nat.xor_assoc, Nat.xor_self, Nat.xor_zero, Nat.xor_self]
theorem rows_at (p : Nat) (vs : List Nat) {s : Nat} (h : s < nch p vs) : (rowsOf p vs)[s]? = some (Rw p s (pad p (chk p vs s))) := by
  unfold rowsOf
  rw [List.getElem?_map, List.getElem?_range h]
  rfl
theorem flat_pad (p : Nat) (vs : List Nat) : ∀ k, ((List.range k).map fun s => pad p (chk p vs s)).flatten = pad (k * p) (vs.take (k * p))
  | 0 => by rw [Nat.zero_mul]; rfl
  | k + 1 => by
    rw [← range_snoc (fun s => pad p (chk p vs s)), List.flatten_append, List.flatten_singleton, flat_pad p vs k, Nat.add_mul, Nat.one_mul]
    unfold pad chk
    by_cases h : k * p ≤ vs.length
    · have e1 : (vs.take (k * p)).length = k * p := by rw [List.length_take]; omega
      have e2 : vs.take (k * p + p) = vs.take (k * p) ++ (vs.drop (k * p)).take p := List.take_add
      rw [e1, Nat.sub_self, e2, List.length_append, e1, show k * p + p - (k * p + ((vs.drop (k * p)).take p).length) = p - ((vs.drop (k * p)).take p).length by omega]
      simp
    · rw [List.take_of_length_le (show vs.length ≤ k * p by omega), List.take_of_length_le (show vs.length ≤ k * p + p by omega), List.drop_of_length_le (by omega), List.take_nil, List.nil_append, List.length_nil, Nat.sub_zero, List.append_assoc, List.replicate_append_replicate, show k * p - vs.length + p = k * p + p - vs.length by omega]
theorem nch_big (p : Nat) (hp : 1 ≤ p) (vs : List Nat) : vs.length ≤ nch p vs * p := by
  unfold nch
  have h1 := Nat.div_add_mod (vs.length + p - 1) p
  have h2 := Nat.mod_lt (vs.length + p - 1) hp
  rw [Nat.mul_comm] at h1
  omega
theorem flt_rows (p : Nat) (hp : 1 ≤ p) (vs : List Nat) (many : Nat) (hm : many ≤ vs.length) : (flt p (rowsOf p vs) (rowsOf p vs).length).take many = vs.take many := by
  have e : flt p (rowsOf p vs) (rowsOf p vs).length = ((List.range (nch p vs)).map fun s => pad p (chk p vs s)).flatten := by
    unfold flt
    rw [rows_len]
    congr 1
    refine List.map_congr_left fun s hs => ?_
    have hs' : s < nch p vs := List.mem_range.mp hs
    rw [List.getD_eq_getElem?_getD, rows_at p vs hs']
    exact keep_Rw p s _ (pad_len (chk_len p vs s))
  rw [e, flat_pad]
  have hb := nch_big p hp vs
  unfold pad
  rw [List.take_of_length_le hb, List.take_append_of_le_length hm]
/-! ### which rows are bad -/
def badL (rows : List (List Nat)) : List Nat := (List.range rows.length).filter fun s => !decide (xr (rows.getD s []) = 0)
def pb (rows : List (List Nat)) : D → Bool
  | .int i => !decide (xr (rows.getD i.toNat []) = 0)
  | _ => false
theorem bad_rngD (rows : List (List Nat)) : ((rngD 0 1 rows.length).filter (pb rows)).map (fun d => d) = nD (badL rows) := by
  have e0 : rngD 0 1 rows.length = (List.range rows.length).map (fun i : Nat => D.int (i : Int)) := List.map_congr_left fun i _ => by
    show D.int _ = _
    congr 1
    omega
  rw [List.map_id', e0, List.filter_map]
  rfl
theorem bad_ok (rows : List (List Nat)) (hl : rows.length ≤ 1000) : F_bad_stripes [.tup (rD rows)] = some (.tup (nD (badL rows)), [.tup (rD rows)]) := by
  have c1 := lcL_filter (ow := [1]) (t := gN 1) (tt := tV (eOp dNe (eCall F_added [] [none] (aCons (eOp dIx (eV 0) (eV 1)) aNil)) (eC (.int 0)))) (fe := eLf (eV 1)) (pb rows) (fun d => d) (rngD 0 1 rows.length) [some (.tup (rD rows)), none]
    fun d hd => by
      obtain ⟨j, hj⟩ := List.getElem?_of_mem hd
      obtain ⟨hjn, rfl⟩ := rng_at hj
      rw [show (0 : Int) + (j : Int) * 1 = (j : Int) by omega]
      have ra := rD_at (List.getElem?_eq_getElem hjn)
      have ad := added_tup rows[j]
      have e1 : pb rows (.int (j : Int)) = !decide ((xr rows[j] : Int) = 0) := by
        show (!decide (xr (rows.getD j []) = 0)) = _
        rw [getDe _ _ hjn]
        by_cases h : xr rows[j] = 0
        · rw [dtrue h, dtrue (by omega)]
        · rw [dfalse h, dfalse (by omega)]
      rw [e1]
      refine ⟨[some (.tup (rD rows)), some (.int (j : Int))], [some (.tup (rD rows)), some (.int (j : Int))], rfl, ?_, rfl, fun _ => ⟨[some (.tup (rD rows)), some (.int (j : Int))], ?_, rfl⟩⟩
      · simp only [rO, rS, rE, rL, rB, bs, dcT, Bool.and_true, Bool.not_true, Bool.not_false, List.map, List.replicate, List.cons_append, List.nil_append, List.append_nil, List.length_cons, List.length_nil, List.mem_singleton, reduceCtorEq, Nat.reduceAdd, Nat.reduceSub, Nat.reduceLT, iD_len, ra, ad]
      · simp only [rO, rS, rE, rL, rB, bs, dcT, Bool.and_true, Bool.not_true, Bool.not_false, List.map, List.replicate, List.cons_append, List.nil_append, List.append_nil, List.length_cons, List.length_nil, List.mem_singleton, reduceCtorEq, Nat.reduceAdd, Nat.reduceSub, Nat.reduceLT, iD_len, ]
  rw [bad_rngD] at c1
  have z1 : rows.length ≤ sizeLine := szl (by omega)
  unfold F_bad_stripes G_bad_stripes
  refine run_go ⟨rfl, rfl⟩ (e := [some (.tup (rD rows)), none]) (ret_go ?_)
  simp only [rO, rS, rE, rL, rB, bs, dcT, Bool.and_true, Bool.not_true, Bool.not_false, List.map, List.replicate, List.cons_append, List.nil_append, List.append_nil, List.length_cons, List.length_nil, List.mem_singleton, reduceCtorEq, Nat.reduceAdd, Nat.reduceSub, Nat.reduceLT, iD_len, rD_len, rng_len, Int.toNat_natCast, z1, c1, lfs_nD]
theorem whole_ok (rows : List (List Nat)) (hl : rows.length ≤ 1000) : F_is_whole_row [.tup (rD rows)] = some (.bl (decide (((badL rows).length : Int) = 0)), [.tup (rD rows)]) := by
  have b := bad_ok rows hl
  unfold F_is_whole_row G_is_whole_row
  refine run_go ⟨rfl, rfl⟩ (e := [some (.tup (rD rows))]) (ret_go ?_)
  simp only [rO, rS, rE, rL, rB, bs, dcT, Bool.and_true, Bool.not_true, Bool.not_false, List.map, List.replicate, List.cons_append, List.nil_append, List.append_nil, List.length_cons, List.length_nil, List.mem_singleton, reduceCtorEq, Nat.reduceAdd, Nat.reduceSub, Nat.reduceLT, iD_len, b, nD_len]
theorem bad_none (p : Nat) (vs : List Nat) : badL (rowsOf p vs) = [] := by
  unfold badL
  refine List.filter_eq_nil_iff.mpr fun s hs => ?_
  rw [rows_len] at hs
  have hs' : s < nch p vs := List.mem_range.mp hs
  rw [List.getD_eq_getElem?_getD, rows_at p vs hs']
  show ¬ (!decide (xr (Rw p s _) = 0)) = true
  rw [xr_Rw]
  decide
/-! ### where a value lies -/
def dsk (p at' : Nat) : Nat × Nat := (at' / p, at' % p + (if at' / p % (p + 1) ≤ at' % p then 1 else 0))
def dkD (p at' : Nat) : D := .tup [.int ((dsk p at').1 : Int), .int ((dsk p at').2 : Int)]
theorem disk_ok (p : Nat) (hp : 1 ≤ p) (hp2 : p ≤ 100) (a : Nat) : F_disk_of_value [.int ((p + 1 : Nat) : Int), .int (a : Int)] = some (dkD p a, [.int ((p + 1 : Nat) : Int), .int (a : Int)]) := by
  have e1 : ((p + 1 : Nat) : Int) - 1 = (p : Int) := by omega
  have e2 : (if 0 < (p : Int) then some (D.int ((a : Int) % (p : Int))) else none) = some (D.int ((a % p : Nat) : Int)) := by rw [if_pos (by omega), Int.natCast_emod]
  have lg : p.log2 < 9000 := Nat.lt_of_le_of_lt (Nat.log2_le_self p) (by omega)
  have e3 : (if 0 < (p : Int) ∧ (p : Int).natAbs.log2 < 9000 then some (D.int ((a : Int) / (p : Int))) else none) = some (D.int ((a / p : Nat) : Int)) := by
    rw [if_pos ⟨by omega, by rw [Int.natAbs_natCast]; exact lg⟩, Int.natCast_ediv]
  have e4 : (if 0 < ((p + 1 : Nat) : Int) then some (D.int (((a / p : Nat) : Int) % ((p + 1 : Nat) : Int))) else none) = some (D.int ((a / p % (p + 1) : Nat) : Int)) := by
    rw [if_pos (by omega), Int.natCast_emod]
  have z2 : 2 ≤ sizeLine := by decide
  unfold F_disk_of_value G_disk_of_value
  refine run_go ⟨rfl, rfl⟩ (e := [some (.int ((p + 1 : Nat) : Int)), some (.int (a : Int)), some (.int ((a / p : Nat) : Int)), some (.int ((a % p : Nat) : Int))]) ?_
  refine seq_go (e1 := [some (.int ((p + 1 : Nat) : Int)), some (.int (a : Int)), some (.int ((a / p : Nat) : Int)), some (.int ((a % p : Nat) : Int))]) ?_ (ret_go ?_)
  · simp only [rO, rS, rE, rL, rB, bs, dcT, Bool.and_true, Bool.not_true, Bool.not_false, List.map, List.replicate, List.cons_append, List.nil_append, List.append_nil, List.length_cons, List.length_nil, List.mem_singleton, reduceCtorEq, Nat.reduceAdd, Nat.reduceSub, Nat.reduceLT, iD_len, e1, e2, e3]
  · unfold dkD dsk
    by_cases h : a / p % (p + 1) ≤ a % p
    · simp only [rO, rS, rE, rL, rB, bs, dcT, Bool.and_true, Bool.not_true, Bool.not_false, List.map, List.replicate, List.cons_append, List.nil_append, List.append_nil, List.length_cons, List.length_nil, List.mem_singleton, reduceCtorEq, Nat.reduceAdd, Nat.reduceSub, Nat.reduceLT, iD_len, e4, dfalse (show ¬ ((a % p : Nat) : Int) < ((a / p % (p + 1) : Nat) : Int) by omega), if_pos h, z2]
      rfl
    · simp only [rO, rS, rE, rL, rB, bs, dcT, Bool.and_true, Bool.not_true, Bool.not_false, List.map, List.replicate, List.cons_append, List.nil_append, List.append_nil, List.length_cons, List.length_nil, List.mem_singleton, reduceCtorEq, Nat.reduceAdd, Nat.reduceSub, Nat.reduceLT, iD_len, e4, dtrue (show ((a % p : Nat) : Int) < ((a / p % (p + 1) : Nat) : Int) by omega), if_neg h, z2]
      rfl
/-! ### rows with holes -/
def oo : Option Nat → D
  | some a => .int (a : Int)
  | none => .non
def oD (r : List (Option Nat)) : List D := r.map oo
theorem oD_len (r : List (Option Nat)) : (oD r).length = r.length := List.length_map _
theorem lfs_oD (r : List (Option Nat)) : lfs (oD r) = true := lfs_iff.mpr fun d hd => by
  obtain ⟨a, _, rfl⟩ := List.mem_map.mp hd
  cases a <;> rfl
theorem oD_some (q : List Nat) : oD (q.map some) = nD q := by
  unfold oD nD
  rw [List.map_map]
  rfl
def noN (r : List (Option Nat)) : Nat := r.countP fun o => o.isNone
def ful (r : List (Option Nat)) : List Nat := r.map fun o => o.getD (xr (r.filterMap id))
def mnd (r : List (Option Nat)) : D := if noN r = 1 then .tup (nD (ful r)) else .tup (oD r)
theorem f_non (r : List (Option Nat)) : (((oD r).filter VL.isNon).map fun d => d).length = noN r := by
  rw [List.map_id']
  unfold noN
  induction r with
  | nil => rfl
  | cons o r ih =>
    rw [List.countP_cons, ← ih]
    cases o with
    | none => show ((D.non :: oD r).filter VL.isNon).length = _; rw [List.filter_cons_of_pos rfl]; rfl
    | some a => show ((D.int (a : Int) :: oD r).filter VL.isNon).length = _; rw [List.filter_cons_of_neg (show ¬ false = true from Bool.false_ne_true)]; rfl
theorem f_int (r : List (Option Nat)) : ((oD r).filter (fun d => !VL.isNon d)).map (fun d => d) = nD (r.filterMap id) := by
  rw [List.map_id']
  induction r with
  | nil => rfl
  | cons o r ih =>
    cases o with
    | none => show (D.non :: oD r).filter _ = _; rw [List.filter_cons_of_neg (by decide), ih]; rfl
    | some a => show (D.int (a : Int) :: oD r).filter _ = _; rw [List.filter_cons_of_pos rfl, ih]; rfl
def gl (l : Nat) (d : D) : D := if VL.isNon d = true then .int (l : Int) else d
theorem f_ful (l : Nat) (r : List (Option Nat)) : (oD r).map (gl l) = nD (r.map fun o => o.getD l) := by
  induction r with
  | nil => rfl
  | cons o r ih =>
    cases o with
    | none => show gl l D.non :: (oD r).map (gl l) = _; rw [ih]; rfl
    | some a => show gl l (D.int (a : Int)) :: (oD r).map (gl l) = _; rw [ih]; rfl
theorem oD_mem {r : List (Option Nat)} {d : D} (h : d ∈ oD r) : d = .non ∨ ∃ a : Nat, d = .int (a : Int) := by
  obtain ⟨o, _, rfl⟩ := List.mem_map.mp h
  cases o with
  | none => exact .inl rfl
  | some a => exact .inr ⟨a, rfl⟩
theorem mended_turn (n : D) (z : D) (r : List (Option Nat)) (hr : r.length ≤ 1000) (out : List D) (ho : out.length ≤ 1000) (y3 y4 : Option D) :
    ∃ z4, ((gN 3 (.tup (oD r)) [some n, some z, some (.lst out), y3, y4, none]).bind B1_mended_stripes) = some (.nx [some n, some z, some (.lst (out ++ [mnd r])), some (.tup (oD r)), z4, none]) := by
  have c1 : ∀ y4, lcL [5] (gN 5) (tV (eOp dIsN (eV 5) (eC .non))) (eLf (eV 5)) (oD r) [some n, some z, some (.lst out), some (.tup (oD r)), y4, none] = _ := fun y4 => lcL_filter VL.isNon (fun d => d) (oD r) [some n, some z, some (.lst out), some (.tup (oD r)), y4, none]
    fun d hd => by
      refine ⟨[some n, some z, some (.lst out), some (.tup (oD r)), y4, some d], [some n, some z, some (.lst out), some (.tup (oD r)), y4, some d], rfl, rfl, rfl, fun _ => ⟨[some n, some z, some (.lst out), some (.tup (oD r)), y4, some d], ?_, rfl⟩⟩
      rcases oD_mem hd with rfl | ⟨a, rfl⟩ <;> simp only [rO, rS, rE, rL, rB, bs, dcT, Bool.and_true, Bool.not_true, Bool.not_false, List.map, List.replicate, List.cons_append, List.nil_append, List.append_nil, List.length_cons, List.length_nil, List.mem_singleton, reduceCtorEq, Nat.reduceAdd, Nat.reduceSub, Nat.reduceLT, iD_len, ]
  have c2 : ∀ y4, lcL [5] (gN 5) (tV (eOp dNotN (eV 5) (eC .non))) (eLf (eV 5)) (oD r) [some n, some z, some (.lst out), some (.tup (oD r)), y4, none] = _ := fun y4 => lcL_filter (fun d => !VL.isNon d) (fun d => d) (oD r) [some n, some z, some (.lst out), some (.tup (oD r)), y4, none]
    fun d hd => by
      refine ⟨[some n, some z, some (.lst out), some (.tup (oD r)), y4, some d], [some n, some z, some (.lst out), some (.tup (oD r)), y4, some d], rfl, rfl, rfl, fun _ => ⟨[some n, some z, some (.lst out), some (.tup (oD r)), y4, some d], ?_, rfl⟩⟩
      rcases oD_mem hd with rfl | ⟨a, rfl⟩ <;> simp only [rO, rS, rE, rL, rB, bs, dcT, Bool.and_true, Bool.not_true, Bool.not_false, List.map, List.replicate, List.cons_append, List.nil_append, List.append_nil, List.length_cons, List.length_nil, List.mem_singleton, reduceCtorEq, Nat.reduceAdd, Nat.reduceSub, Nat.reduceLT, iD_len, ]
  have c3 : ∀ l : Nat, lcL [5] (gN 5) tY (eIf (tV (eOp dIsN (eV 5) (eC .non))) (eLf (eV 4)) (eLf (eV 5))) (oD r) [some n, some z, some (.lst out), some (.tup (oD r)), some (.int (l : Int)), none] = _ := fun l => lcL_map (gl l) (oD r) [some n, some z, some (.lst out), some (.tup (oD r)), some (.int (l : Int)), none]
    fun d hd => by
      refine ⟨[some n, some z, some (.lst out), some (.tup (oD r)), some (.int (l : Int)), some d], [some n, some z, some (.lst out), some (.tup (oD r)), some (.int (l : Int)), some d], rfl, ?_, rfl⟩
      rcases oD_mem hd with rfl | ⟨a, rfl⟩ <;> simp only [rO, rS, rE, rL, rB, bs, dcT, Bool.and_true, Bool.not_true, Bool.not_false, List.map, List.replicate, List.cons_append, List.nil_append, List.append_nil, List.length_cons, List.length_nil, List.mem_singleton, reduceCtorEq, Nat.reduceAdd, Nat.reduceSub, Nat.reduceLT, iD_len, gl]
  have ad := added_lst (r.filterMap id)
  have z1 : (oD r).length ≤ sizeLine := szl (by rw [oD_len]; omega)
  have z2 : out.length < sizeLine := szl' (by omega)
  show ∃ z4, B1_mended_stripes [some n, some z, some (.lst out), some (.tup (oD r)), y4, none] = _
  unfold B1_mended_stripes mnd
  by_cases h : noN r = 1
  · refine ⟨some (.int (xr (r.filterMap id) : Int)), if_go (b := true) (e1 := [some n, some z, some (.lst out), some (.tup (oD r)), y4, none]) ?_ ?_⟩
    · simp only [rO, rS, rE, rL, rB, bs, dcT, Bool.and_true, Bool.not_true, Bool.not_false, List.map, List.replicate, List.cons_append, List.nil_append, List.append_nil, List.length_cons, List.length_nil, List.mem_singleton, reduceCtorEq, Nat.reduceAdd, Nat.reduceSub, Nat.reduceLT, iD_len, z1, c1, f_non, h]
      rfl
    · rw [if_pos rfl, if_pos h]
      refine seq_go (e1 := [some n, some z, some (.lst out), some (.tup (oD r)), some (.int (xr (r.filterMap id) : Int)), none]) ?_ ?_
      · simp only [rO, rS, rE, rL, rB, bs, dcT, Bool.and_true, Bool.not_true, Bool.not_false, List.map, List.replicate, List.cons_append, List.nil_append, List.append_nil, List.length_cons, List.length_nil, List.mem_singleton, reduceCtorEq, Nat.reduceAdd, Nat.reduceSub, Nat.reduceLT, iD_len, z1, c2, f_int, ad]
      · simp only [rO, rS, rE, rL, rB, bs, dcT, Bool.and_true, Bool.not_true, Bool.not_false, List.map, List.replicate, List.cons_append, List.nil_append, List.append_nil, List.length_cons, List.length_nil, List.mem_singleton, reduceCtorEq, Nat.reduceAdd, Nat.reduceSub, Nat.reduceLT, iD_len, z1, c3, f_ful, lfs_nD, z2]
        rfl
  · refine ⟨y4, if_go (b := false) (e1 := [some n, some z, some (.lst out), some (.tup (oD r)), y4, none]) ?_ ?_⟩
    · simp only [rO, rS, rE, rL, rB, bs, dcT, Bool.and_true, Bool.not_true, Bool.not_false, List.map, List.replicate, List.cons_append, List.nil_append, List.append_nil, List.length_cons, List.length_nil, List.mem_singleton, reduceCtorEq, Nat.reduceAdd, Nat.reduceSub, Nat.reduceLT, iD_len, z1, c1, f_non, dfalse (show ¬ ((noN r : Int) = 1) by omega)]
    · rw [if_neg Bool.false_ne_true, if_neg h]
      simp only [rO, rS, rE, rL, rB, bs, dcT, Bool.and_true, Bool.not_true, Bool.not_false, List.map, List.replicate, List.cons_append, List.nil_append, List.append_nil, List.length_cons, List.length_nil, List.mem_singleton, reduceCtorEq, Nat.reduceAdd, Nat.reduceSub, Nat.reduceLT, iD_len, lfs_oD, z2]
def tD (lk : List (List (Option Nat))) : List D := lk.map fun r => D.tup (oD r)
theorem tD_len (lk : List (List (Option Nat))) : (tD lk).length = lk.length := List.length_map _
theorem lfs_tD (lk : List (List (Option Nat))) : lfs (tD lk) = true := lfs_iff.mpr fun d hd => by
  obtain ⟨a, _, rfl⟩ := List.mem_map.mp hd
  exact lfs_oD a
theorem lf_mnd (r : List (Option Nat)) : lf (mnd r) = true := by
  unfold mnd
  split
  · exact lfs_nD _
  · exact lfs_oD _
theorem lfs_mnd (lk : List (List (Option Nat))) : lfs (lk.map mnd) = true := lfs_iff.mpr fun d hd => by
  obtain ⟨a, _, rfl⟩ := List.mem_map.mp hd
  exact lf_mnd a
theorem mended_ok (n : D) (lk : List (List (Option Nat))) (hl : lk.length ≤ 1000) (hw : ∀ r ∈ lk, r.length ≤ 1000) : F_mended_stripes [n, .tup (tD lk)] = some (.tup (lk.map mnd), [n, .tup (tD lk)]) := by
  obtain ⟨e2, g1, y3, y4, g2⟩ := forL_rel (t := gN 3) (b := B1_mended_stripes) (ds := tD lk) (e := [some n, some (.tup (tD lk)), some (.lst []), none, none, none])
    (fun j e => ∃ y3 y4, e = [some n, some (.tup (tD lk)), some (.lst ((lk.take j).map mnd)), y3, y4, none]) ⟨none, none, rfl⟩ fun j d e hj ⟨y3, y4, he⟩ => by
      subst he
      unfold tD at hj
      rw [List.getElem?_map] at hj
      cases hr : lk[j]? with
      | none => rw [hr] at hj; cases hj
      | some r =>
        rw [hr] at hj
        cases hj
        have hm := List.mem_of_getElem? hr
        obtain ⟨z4, h⟩ := mended_turn n (.tup (tD lk)) r (hw r hm) ((lk.take j).map mnd) (by rw [List.length_map, List.length_take]; omega) y3 y4
        refine ⟨_, h, some (.tup (oD r)), z4, ?_⟩
        rw [List.take_add_one, hr, List.map_append]
        rfl
  rw [tD_len, List.take_of_length_le (Nat.le_refl _)] at g2
  subst g2
  have z0 : 0 ≤ sizeLine := Nat.zero_le _
  unfold F_mended_stripes G_mended_stripes
  refine run_go ⟨rfl, rfl⟩ (e := [some n, some (.tup (tD lk)), some (.lst (lk.map mnd)), y3, y4, none]) ?_
  refine seq_go (e1 := [some n, some (.tup (tD lk)), some (.lst []), none, none, none]) ?_ (seq_go (for_go (ds := tD lk) ?_ (lfs_tD _) g1) ?_)
  · simp only [rO, rS, rE, rL, rB, bs, dcT, Bool.and_true, Bool.not_true, Bool.not_false, List.map, List.replicate, List.cons_append, List.nil_append, List.append_nil, List.length_cons, List.length_nil, List.mem_singleton, reduceCtorEq, Nat.reduceAdd, Nat.reduceSub, Nat.reduceLT, iD_len, z0]
  · simp only [rO, rS, rE, rL, rB, bs, dcT, Bool.and_true, Bool.not_true, Bool.not_false, List.map, List.replicate, List.cons_append, List.nil_append, List.append_nil, List.length_cons, List.length_nil, List.mem_singleton, reduceCtorEq, Nat.reduceAdd, Nat.reduceSub, Nat.reduceLT, iD_len, ]
  · simp only [rO, rS, rE, rL, rB, bs, dcT, Bool.and_true, Bool.not_true, Bool.not_false, List.map, List.replicate, List.cons_append, List.nil_append, List.append_nil, List.length_cons, List.length_nil, List.mem_singleton, reduceCtorEq, Nat.reduceAdd, Nat.reduceSub, Nat.reduceLT, iD_len, lfs_mnd]
/-! ### what the holes hide -/
inductive Lk : List (Option Nat) → List Nat → Prop
  | nil : Lk [] []
  | hole {r : List (Option Nat)} {q : List Nat} (a : Nat) : Lk r q → Lk (none :: r) (a :: q)
  | held {r : List (Option Nat)} {q : List Nat} (a : Nat) : Lk r q → Lk (some a :: r) (a :: q)
theorem Lk.all : ∀ (q : List Nat), Lk (q.map some) q
  | [] => .nil
  | a :: q => .held a (Lk.all q)
theorem Lk.len {r : List (Option Nat)} {q : List Nat} (h : Lk r q) : r.length = q.length := by
  induction h with
  | nil => rfl
  | hole a _ ih => rw [List.length_cons, List.length_cons, ih]
  | held a _ ih => rw [List.length_cons, List.length_cons, ih]
theorem Lk.set {r : List (Option Nat)} {q : List Nat} (h : Lk r q) : ∀ j, Lk (r.set j none) q := by
  induction h with
  | nil => exact fun j => .nil
  | hole a h ih =>
    intro j
    cases j with
    | zero => exact .hole a h
    | succ j => exact .hole a (ih j)
  | held a h ih =>
    intro j
    cases j with
    | zero => exact .hole a h
    | succ j => exact .held a (ih j)
theorem Lk.none0 {r : List (Option Nat)} {q : List Nat} (h : Lk r q) : noN r = 0 → r = q.map some := by
  induction h with
  | nil => exact fun _ => rfl
  | hole a h ih =>
    intro z
    unfold noN at z
    rw [List.countP_cons] at z
    simp at z
  | held a h ih =>
    intro z
    unfold noN at z ih
    rw [List.countP_cons] at z
    rw [List.map_cons, ih (by simpa using z)]
theorem Lk.one {r : List (Option Nat)} {q : List Nat} (h : Lk r q) : noN r = 1 → ∃ A a B, q = A ++ a :: B ∧ r = A.map some ++ none :: B.map some := by
  induction h with
  | nil => exact fun z => by cases z
  | @hole r q a h ih =>
    intro z
    have z0 : noN r = 0 := by
      unfold noN at z ⊢
      rw [List.countP_cons] at z
      simpa using z
    exact ⟨[], a, _, rfl, by rw [h.none0 z0]; rfl⟩
  | @held r q a h ih =>
    intro z
    have z0 : noN r = 1 := by
      unfold noN at z ⊢
      rw [List.countP_cons] at z
      simpa using z
    obtain ⟨A, b, B, e1, e2⟩ := ih z0
    exact ⟨a :: A, b, B, by rw [e1]; rfl, by rw [e2]; rfl⟩
theorem fm_some (q : List Nat) : (q.map some).filterMap id = q := by
  induction q with
  | nil => rfl
  | cons a q ih => rw [List.map_cons, List.filterMap_cons]; simp only [id]; rw [ih]
theorem Lk.ful {r : List (Option Nat)} {q : List Nat} (h : Lk r q) (h1 : noN r = 1) (hx : xr q = 0) : ful r = q := by
  obtain ⟨A, a, B, e1, e2⟩ := h.one h1
  have ef : r.filterMap id = A ++ B := by
    rw [e2, List.filterMap_append, fm_some, List.filterMap_cons]
    simp only [id]
    rw [fm_some]
  have ex : xr (A ++ B) = a := by
    rw [e1, xr_app, xr_cons] at hx
    rw [xr_app]
    have e : (xr A ^^^ (a ^^^ xr B)) ^^^ a = a := by rw [hx, Nat.zero_xor]
    rw [Nat.xor_comm a, ← Nat.xor_assoc, Nat.xor_assoc, Nat.xor_self, Nat.xor_zero] at e
    exact e
  unfold Law.ful
  rw [ef, ex, e2, e1, List.map_append, List.map_cons, List.map_map, List.map_map]
  have e0 : ((fun o : Option Nat => o.getD a) ∘ some) = fun x => x := rfl
  rw [e0, List.map_id', List.map_id']
  rfl
/-! ### a dict of counts -/
def kD (l : List (Nat × Nat)) : List (Key × D) := l.map fun kc => (.inl (kc.1 : Int), .int (kc.2 : Int))
theorem kD_len (l : List (Nat × Nat)) : (kD l).length = l.length := List.length_map _
theorem kD_app (a b : List (Nat × Nat)) : kD (a ++ b) = kD a ++ kD b := List.map_append
theorem inl_ne {a b : Nat} (h : a ≠ b) : (Sum.inl (a : Int) : Key) ≠ Sum.inl (b : Int) := fun e => h (by have := Sum.inl.inj e; omega)
theorem val_skip {k : Nat} {b : List (Key × D)} : ∀ {a : List (Nat × Nat)}, (∀ kc ∈ a, kc.1 ≠ k) → valD (kD a ++ b) (.inl (k : Int)) = valD b (.inl (k : Int))
  | [], _ => rfl
  | kc :: a, h => by
    have ih := val_skip (b := b) (a := a) fun x hx => h x (List.mem_cons_of_mem _ hx)
    unfold valD at ih ⊢
    show Option.map _ (List.find? _ ((Sum.inl (kc.1 : Int), D.int (kc.2 : Int)) :: (kD a ++ b))) = _
    rw [List.find?_cons_of_neg (by
      rw [decide_eq_true_eq]
      exact inl_ne (h kc List.mem_cons_self))]
    exact ih
theorem val_none {k : Nat} {a : List (Nat × Nat)} (h : ∀ kc ∈ a, kc.1 ≠ k) : valD (kD a) (.inl (k : Int)) = none := by
  have := val_skip (b := []) h
  rw [List.append_nil] at this
  exact this
theorem val_here {k c : Nat} {a b : List (Nat × Nat)} (h : ∀ kc ∈ a, kc.1 ≠ k) : valD (kD (a ++ (k, c) :: b)) (.inl (k : Int)) = some (.int (c : Int)) := by
  rw [kD_app, val_skip h]
  unfold valD
  show Option.map _ (List.find? _ ((Sum.inl (k : Int), D.int (c : Int)) :: kD b)) = _
  rw [List.find?_cons_of_pos (by rw [decide_eq_true_eq])]
  rfl
theorem any_no {k : Nat} {a : List (Nat × Nat)} (h : ∀ kc ∈ a, kc.1 ≠ k) : (kD a).any (fun kv => decide (kv.1 = .inl (k : Int))) = false := by
  refine List.any_eq_false.mpr fun kv hkv => ?_
  obtain ⟨kc, h1, rfl⟩ := List.mem_map.mp hkv
  rw [decide_eq_true_eq]
  exact inl_ne (h kc h1)
theorem put_new {k c : Nat} {a : List (Nat × Nat)} (h : ∀ kc ∈ a, kc.1 ≠ k) : putD (kD a) (.inl (k : Int)) (.int (c : Int)) = kD (a ++ [(k, c)]) := by
  unfold putD
  rw [any_no h, if_neg Bool.false_ne_true, kD_app]
  rfl
theorem put_last {k c c' : Nat} {a : List (Nat × Nat)} (h : ∀ kc ∈ a, kc.1 ≠ k) : putD (kD (a ++ [(k, c)])) (.inl (k : Int)) (.int (c' : Int)) = kD (a ++ [(k, c')]) := by
  unfold putD
  rw [kD_app, if_pos (by
    rw [List.any_append]
    show (_ || (decide (Sum.inl (k : Int) = (Sum.inl (k : Int) : Key)) || false)) = true
    rw [dtrue rfl]
    simp), kD_app, List.map_append]
  congr 1
  · refine (List.map_congr_left fun kv hkv => ?_).trans (List.map_id' _)
    obtain ⟨kc, h1, rfl⟩ := List.mem_map.mp hkv
    exact if_neg (inl_ne (h kc h1))
  · show [if (Sum.inl (k : Int) : Key) = Sum.inl (k : Int) then _ else _] = _
    rw [if_pos rfl]
    rfl
/-! ### what is written -/
def ff (p a : Nat) : Nat := (p - a % p) % p
def rd (p c : Nat) : Nat := if c = 0 ∨ c = p then 0 else min (c + 1) (p - c)
def w1 (p a m : Nat) : Nat := min m (ff p a)
def wq (p a m : Nat) : Nat := (m - w1 p a m) / p
def wr (p a m : Nat) : Nat := (m - w1 p a m) % p
def WR (p a m : Nat) : Nat × Nat := (rd p (w1 p a m) + rd p (wr p a m), m + wq p a m + (if 0 < w1 p a m then 1 else 0) + (if 0 < wr p a m then 1 else 0))
def WD (p a m : Nat) : D := .tup [.int ((WR p a m).1 : Int), .int ((WR p a m).2 : Int)]
theorem ff_lt (p a : Nat) (hp : 1 ≤ p) : ff p a < p := Nat.mod_lt _ hp
theorem ff_sum (p a : Nat) (hp : 1 ≤ p) : ∃ b, a + ff p a = b * p ∧ (0 < ff p a → b = a / p + 1) ∧ (ff p a = 0 → b = a / p) := by
  have hm : a % p < p := Nat.mod_lt _ hp
  have hd : a = a / p * p + a % p := by rw [Nat.mul_comm]; exact (Nat.div_add_mod a p).symm
  unfold ff
  by_cases h : a % p = 0
  · refine ⟨a / p, ?_, fun z => ?_, fun _ => rfl⟩
    · rw [h, Nat.sub_zero, Nat.mod_self]; omega
    · rw [h, Nat.sub_zero, Nat.mod_self] at z; omega
  · have e : (p - a % p) % p = p - a % p := Nat.mod_eq_of_lt (by omega)
    refine ⟨a / p + 1, ?_, fun _ => rfl, fun z => by omega⟩
    rw [e, Nat.add_mul]
    omega
theorem WR_shift (p a m k : Nat) (hp : 1 ≤ p) : WR p (a + p * k) m = WR p a m := by
  have e : ff p (a + p * k) = ff p a := by unfold ff; rw [Nat.add_mul_mod_self_left]
  unfold WR wq wr w1
  rw [e]
theorem WR_more (p a m w : Nat) (hp : 1 ≤ p) : WR p a (m + p * (1 + w)) = ((WR p a (m + p)).1, (WR p a (m + p)).2 + w * (p + 1)) := by
  have hf := ff_lt p a hp
  have pw : p * (1 + w) = p + p * w := by rw [Nat.mul_add, Nat.mul_one]
  have e1 : w1 p a (m + p * (1 + w)) = ff p a := by unfold w1; omega
  have e2 : w1 p a (m + p) = ff p a := by unfold w1; omega
  have e3 : m + p * (1 + w) - ff p a = (m + p - ff p a) + p * w := by omega
  have e4 : wq p a (m + p * (1 + w)) = wq p a (m + p) + w := by unfold wq; rw [e1, e2, e3, Nat.add_mul_div_left _ _ hp]
  have e5 : wr p a (m + p * (1 + w)) = wr p a (m + p) := by unfold wr; rw [e1, e2, e3, Nat.add_mul_mod_self_left]
  have e6 : w * (p + 1) = p * w + w := by rw [Nat.mul_add, Nat.mul_one, Nat.mul_comm]
  unfold WR
  rw [e1, e2, e4, e5]
  show (_, _) = (_, _)
  congr 1
  show _ = m + p + wq p a (m + p) + _ + _ + w * (p + 1)
  omega
def pre (p a m : Nat) : List (Nat × Nat) := if 0 < w1 p a m then [(a / p, w1 p a m)] else []
def kd (p a m : Nat) : List (Nat × Nat) := (pre p a m ++ (List.range (wq p a m)).map fun i => ((a + ff p a) / p + i, p)) ++ (if 0 < wr p a m then [((a + ff p a) / p + wq p a m, wr p a m)] else [])
theorem kd_keys (p a m : Nat) (hp : 1 ≤ p) (hm : ff p a ≤ m) : ∀ kc ∈ pre p a m ++ (List.range (wq p a m)).map (fun i => ((a + ff p a) / p + i, p)), kc.1 ≠ (a + ff p a) / p + wq p a m := fun kc h => by
  obtain ⟨b, h1, h2, h3⟩ := ff_sum p a hp
  have hb : (a + ff p a) / p = b := by rw [h1, Nat.mul_div_cancel _ hp]
  have e1 : w1 p a m = ff p a := by unfold w1; omega
  rw [hb] at h ⊢
  rcases List.mem_append.mp h with h | h
  · unfold pre at h
    rw [e1] at h
    split at h
    · rename_i hf
      have := h2 hf
      rw [List.mem_singleton] at h
      subst h
      show a / p ≠ _
      omega
    · cases h
  · obtain ⟨i, hi, rfl⟩ := List.mem_map.mp h
    have := List.mem_range.mp hi
    show b + i ≠ _
    omega
/-- one more: where it goes, what is told there, what comes of it -/
theorem kd_step (p a j : Nat) (hp : 1 ≤ p) : (valD (kD (kd p a j)) (.inl (((a + j) / p : Nat) : Int))).getD (.int 0) = .int ((if j < ff p a then j else wr p a j : Nat) : Int) ∧
    putD (kD (kd p a j)) (.inl (((a + j) / p : Nat) : Int)) (.int ((if j < ff p a then j else wr p a j : Nat) + 1 : Int)) = kD (kd p a (j + 1)) := by
  have hf := ff_lt p a hp
  obtain ⟨b, h1, h2, h3⟩ := ff_sum p a hp
  have hb : (a + ff p a) / p = b := by rw [h1, Nat.mul_div_cancel _ hp]
  by_cases h : j < ff p a
  · rw [if_pos h]
    have e1 : w1 p a j = j := by unfold w1; omega
    have e2 : w1 p a (j + 1) = j + 1 := by unfold w1; omega
    have q1 : wq p a j = 0 := by unfold wq; rw [e1, Nat.sub_self, Nat.zero_div]
    have q2 : wq p a (j + 1) = 0 := by unfold wq; rw [e2, Nat.sub_self, Nat.zero_div]
    have r1 : wr p a j = 0 := by unfold wr; rw [e1, Nat.sub_self, Nat.zero_mod]
    have r2 : wr p a (j + 1) = 0 := by unfold wr; rw [e2, Nat.sub_self, Nat.zero_mod]
    have hk : (a + j) / p = a / p := by
      have hb1 := h2 (by omega)
      have hd : a = a / p * p + a % p := by rw [Nat.mul_comm]; exact (Nat.div_add_mod a p).symm
      have hbp : b * p = a / p * p + p := by rw [hb1, Nat.add_mul, Nat.one_mul]
      have e : a + j = (a % p + j) + a / p * p := by omega
      rw [e, Nat.add_mul_div_right _ _ hp, Nat.div_eq_of_lt (by omega), Nat.zero_add]
    have k2 : kd p a (j + 1) = [(a / p, j + 1)] := by
      unfold kd pre
      rw [e2, q2, r2, if_pos (by omega), if_neg (by omega)]
      rfl
    rw [hk, k2]
    by_cases h0 : 0 < j
    · have k1 : kd p a j = [] ++ [(a / p, j)] := by
        unfold kd pre
        rw [e1, q1, r1, if_pos h0, if_neg (by omega)]
        rfl
      rw [k1]
      refine ⟨?_, ?_⟩
      · rw [val_here (a := []) (b := []) (fun _ z => nomatch z)]
        rfl
      · exact put_last (a := []) (c' := j + 1) (fun _ z => nomatch z)
    · have k1 : kd p a j = [] := by
        unfold kd pre
        rw [e1, q1, r1, if_neg h0, if_neg (by omega)]
        rfl
      have j0 : j = 0 := by omega
      subst j0
      rw [k1]
      exact ⟨rfl, put_new (a := []) (c := 1) (fun _ z => nomatch z)⟩
  · rw [if_neg h]
    have hm : ff p a ≤ j := by omega
    have keys := kd_keys p a j hp hm
    have e1 : w1 p a j = ff p a := by unfold w1; omega
    have e2 : w1 p a (j + 1) = ff p a := by unfold w1; omega
    have hd : j - ff p a = wq p a j * p + wr p a j := by
      unfold wq wr
      rw [e1, Nat.mul_comm]
      exact (Nat.div_add_mod _ p).symm
    have hr : wr p a j < p := Nat.mod_lt _ hp
    have hk : (a + j) / p = (a + ff p a) / p + wq p a j := by
      have e : a + j = wr p a j + (b + wq p a j) * p := by rw [Nat.add_mul]; omega
      rw [e, Nat.add_mul_div_right _ _ hp, Nat.div_eq_of_lt hr, Nat.zero_add, hb]
    have pe : pre p a (j + 1) = pre p a j := by unfold pre; rw [e1, e2]
    have nx : kd p a (j + 1) = (pre p a j ++ (List.range (wq p a j)).map fun i => ((a + ff p a) / p + i, p)) ++ [((a + ff p a) / p + wq p a j, wr p a j + 1)] := by
      by_cases hp1 : wr p a j + 1 = p
      · have e : j + 1 - ff p a = (wq p a j + 1) * p := by rw [Nat.add_mul]; omega
        have q2 : wq p a (j + 1) = wq p a j + 1 := by
          have : wq p a (j + 1) = (j + 1 - ff p a) / p := by unfold wq; rw [e2]
          rw [this, e, Nat.mul_div_cancel _ hp]
        have r2 : wr p a (j + 1) = 0 := by
          have : wr p a (j + 1) = (j + 1 - ff p a) % p := by unfold wr; rw [e2]
          rw [this, e, Nat.mul_mod_left]
        unfold kd
        rw [pe, q2, r2, if_neg (by omega), List.append_nil, ← range_snoc, List.append_assoc, hp1]
      · have e : j + 1 - ff p a = (wr p a j + 1) + wq p a j * p := by omega
        have q2 : wq p a (j + 1) = wq p a j := by
          have : wq p a (j + 1) = (j + 1 - ff p a) / p := by unfold wq; rw [e2]
          rw [this, e, Nat.add_mul_div_right _ _ hp, Nat.div_eq_of_lt (by omega), Nat.zero_add]
        have r2 : wr p a (j + 1) = wr p a j + 1 := by
          have : wr p a (j + 1) = (j + 1 - ff p a) % p := by unfold wr; rw [e2]
          rw [this, e, Nat.add_mul_mod_self_right, Nat.mod_eq_of_lt (by omega)]
        unfold kd
        rw [pe, q2, r2, if_pos (by omega)]
    rw [hk, nx]
    by_cases h0 : 0 < wr p a j
    · have k1 : kd p a j = (pre p a j ++ (List.range (wq p a j)).map fun i => ((a + ff p a) / p + i, p)) ++ [((a + ff p a) / p + wq p a j, wr p a j)] := by
        unfold kd
        rw [if_pos h0]
      rw [k1]
      refine ⟨?_, put_last (c' := wr p a j + 1) keys⟩
      rw [val_here (b := []) keys]
      rfl
    · have k1 : kd p a j = pre p a j ++ (List.range (wq p a j)).map fun i => ((a + ff p a) / p + i, p) := by
        unfold kd
        rw [if_neg h0, List.append_nil]
      have r0 : wr p a j = 0 := by omega
      rw [k1, r0]
      refine ⟨?_, put_new (c := 1) keys⟩
      rw [val_none keys]
      rfl
/-! ### the two ways to count -/
theorem neg_mod (p a : Nat) (hp : 1 ≤ p) : (-(a : Int)) % (p : Int) = (ff p a : Int) := by
  have hm : a % p < p := Nat.mod_lt _ hp
  have hd : (a : Int) = (p : Int) * ((a / p : Nat) : Int) + ((a % p : Nat) : Int) := by
    rw [← Int.natCast_mul, ← Int.natCast_add, Nat.div_add_mod]
  have e : -(a : Int) = ((p - a % p : Nat) : Int) + (p : Int) * (-((a / p : Nat) : Int) - 1) := by
    rw [Int.mul_sub, Int.mul_neg, Int.mul_one]
    omega
  rw [e, Int.add_mul_emod_self_left, ← Int.natCast_emod]
  rfl
theorem in_two (c p : Nat) : dInA (.int (c : Int)) (.tup [.int 0, .int (p : Int)]) = some (.bl (decide (c = 0 ∨ c = p))) := by
  show ((inB (.int (c : Int)) (.tup [.int 0, .int (p : Int)])).bind fun b => some (D.bl b)) = _
  have e : inB (.int (c : Int)) (.tup [.int 0, .int (p : Int)]) = some (((0 : Int) == (c : Int)) || (((p : Int) == (c : Int)) || false)) := by
    have f : flatD (.int (c : Int)) = true ∧ ([D.int 0, D.int (p : Int)]).all flatD = true := ⟨rfl, rfl⟩
    unfold inB
    show Option.bind (some [D.int 0, D.int (p : Int)]) _ = _
    rw [bs, if_pos f]
    rfl
  rw [e]
  show some (D.bl _) = some (D.bl _)
  congr 2
  by_cases h1 : c = 0
  · subst h1; simp
  · by_cases h2 : c = p
    · subst h2; simp
    · rw [dfalse (show ¬ (c = 0 ∨ c = p) by omega)]
      simp
      omega
theorem reads_ok (p c : Nat) (hc : c ≤ p) : F_reads_for [.int ((p + 1 : Nat) : Int), .int (c : Int)] = some (.int (rd p c : Int), [.int ((p + 1 : Nat) : Int), .int (c : Int)]) := by
  have e1 : ((p + 1 : Nat) : Int) - 1 = (p : Int) := by omega
  have i2 := in_two c p
  have z2 : 2 ≤ sizeLine := by decide
  unfold F_reads_for G_reads_for rd
  by_cases h : c = 0 ∨ c = p
  · refine run_go ⟨rfl, rfl⟩ (e := [some (.int ((p + 1 : Nat) : Int)), some (.int (c : Int))]) ?_
    simp only [rO, rS, rE, rL, rB, bs, dcT, Bool.and_true, Bool.not_true, Bool.not_false, List.map, List.replicate, List.cons_append, List.nil_append, List.append_nil, List.length_cons, List.length_nil, List.mem_singleton, reduceCtorEq, Nat.reduceAdd, Nat.reduceSub, Nat.reduceLT, iD_len, e1, z2, i2, dtrue h]
    rw [if_pos h]
    rfl
  · refine run_go ⟨rfl, rfl⟩ (e := [some (.int ((p + 1 : Nat) : Int)), some (.int (c : Int))]) ?_
    simp only [rO, rS, rE, rL, rB, bs, dcT, Bool.and_true, Bool.not_true, Bool.not_false, List.map, List.replicate, List.cons_append, List.nil_append, List.append_nil, List.length_cons, List.length_nil, List.mem_singleton, reduceCtorEq, Nat.reduceAdd, Nat.reduceSub, Nat.reduceLT, iD_len, e1, z2, i2, dfalse h]
    rw [if_neg h]
    congr 2
    congr 1
    split <;> omega
theorem log_small {p : Nat} (h : p ≤ 1000) : (p : Int).natAbs.log2 < 9000 := by
  rw [Int.natAbs_natCast]
  exact Nat.lt_of_le_of_lt (Nat.log2_le_self p) (by omega)
theorem b01 (P : Prop) [Decidable P] : (if decide P = true then (1 : Int) else 0) = ((if P then 1 else 0 : Nat) : Int) := by
  by_cases h : P
  · rw [if_pos h, dtrue h]; rfl
  · rw [if_neg h, dfalse h]; rfl
theorem writes_ok (p a m : Nat) (hp : 1 ≤ p) (hp2 : p ≤ 100) : F_writes_for [.int ((p + 1 : Nat) : Int), .int (a : Int), .int (m : Int)] = some (WD p a m, [.int ((p + 1 : Nat) : Int), .int (a : Int), .int (m : Int)]) := by
  have e1 : ((p + 1 : Nat) : Int) - 1 = (p : Int) := by omega
  have hf := ff_lt p a hp
  have e2 : (if 0 < (p : Int) then some (D.int (-(a : Int) % (p : Int))) else none) = some (D.int (ff p a : Int)) := by rw [if_pos (by omega), neg_mod p a hp]
  have e3 : (if (ff p a : Int) < (m : Int) then (ff p a : Int) else (m : Int)) = (w1 p a m : Int) := by unfold w1; split <;> omega
  have hw : w1 p a m ≤ m := by unfold w1; omega
  have hw2 : w1 p a m ≤ p := by unfold w1; omega
  have e4 : (m : Int) - (w1 p a m : Int) = ((m - w1 p a m : Nat) : Int) := by omega
  have e5 : (if 0 < (p : Int) ∧ (p : Int).natAbs.log2 < 9000 then some (D.int (((m - w1 p a m : Nat) : Int) / (p : Int))) else none) = some (D.int (wq p a m : Int)) := by
    rw [if_pos ⟨by omega, log_small (by omega)⟩, ← Int.natCast_ediv]; rfl
  have e6 : (if 0 < (p : Int) then some (D.int (((m - w1 p a m : Nat) : Int) % (p : Int))) else none) = some (D.int (wr p a m : Int)) := by
    rw [if_pos (by omega), ← Int.natCast_emod]; rfl
  have hr : wr p a m < p := Nat.mod_lt _ hp
  have r1 := reads_ok p (w1 p a m) hw2
  have r2 := reads_ok p (wr p a m) (by omega)
  have z2 : 2 ≤ sizeLine := by decide
  have c1 : decide ((0 : Int) < (w1 p a m : Int)) = decide (0 < w1 p a m) := by
    by_cases h : 0 < w1 p a m
    · rw [dtrue h, dtrue (by omega)]
    · rw [dfalse h, dfalse (by omega)]
  have c2 : decide ((0 : Int) < (wr p a m : Int)) = decide (0 < wr p a m) := by
    by_cases h : 0 < wr p a m
    · rw [dtrue h, dtrue (by omega)]
    · rw [dfalse h, dfalse (by omega)]
  have tot : (m : Int) + (wq p a m : Int) + ((if 0 < w1 p a m then 1 else 0 : Nat) : Int) + ((if 0 < wr p a m then 1 else 0 : Nat) : Int) = ((WR p a m).2 : Int) := by
    show _ = ((m + wq p a m + _ + _ : Nat) : Int)
    rw [Int.natCast_add, Int.natCast_add, Int.natCast_add]
  have tr : (rd p (w1 p a m) : Int) + (rd p (wr p a m) : Int) = ((WR p a m).1 : Int) := by
    show _ = ((rd p (w1 p a m) + rd p (wr p a m) : Nat) : Int)
    rw [Int.natCast_add]
  unfold F_writes_for G_writes_for WD
  refine run_go ⟨rfl, rfl⟩ (e := [some (.int ((p + 1 : Nat) : Int)), some (.int (a : Int)), some (.int (m : Int)), some (.int (w1 p a m : Int)), some (.int (wq p a m : Int)), some (.int (wr p a m : Int)), some (.int ((WR p a m).2 : Int))]) ?_
  refine seq_go (e1 := [some (.int ((p + 1 : Nat) : Int)), some (.int (a : Int)), some (.int (m : Int)), some (.int (w1 p a m : Int)), none, none, none]) ?_ (seq_go (e1 := [some (.int ((p + 1 : Nat) : Int)), some (.int (a : Int)), some (.int (m : Int)), some (.int (w1 p a m : Int)), some (.int (wq p a m : Int)), some (.int (wr p a m : Int)), none]) ?_ (seq_go (e1 := [some (.int ((p + 1 : Nat) : Int)), some (.int (a : Int)), some (.int (m : Int)), some (.int (w1 p a m : Int)), some (.int (wq p a m : Int)), some (.int (wr p a m : Int)), some (.int ((WR p a m).2 : Int))]) ?_ ?_))
  · simp only [rO, rS, rE, rL, rB, bs, dcT, Bool.and_true, Bool.not_true, Bool.not_false, List.map, List.replicate, List.cons_append, List.nil_append, List.append_nil, List.length_cons, List.length_nil, List.mem_singleton, reduceCtorEq, Nat.reduceAdd, Nat.reduceSub, Nat.reduceLT, iD_len, e1, e2, e3]
  · simp only [rO, rS, rE, rL, rB, bs, dcT, Bool.and_true, Bool.not_true, Bool.not_false, List.map, List.replicate, List.cons_append, List.nil_append, List.append_nil, List.length_cons, List.length_nil, List.mem_singleton, reduceCtorEq, Nat.reduceAdd, Nat.reduceSub, Nat.reduceLT, iD_len, e1, e4, e5, e6]
  · simp only [rO, rS, rE, rL, rB, bs, dcT, Bool.and_true, Bool.not_true, Bool.not_false, List.map, List.replicate, List.cons_append, List.nil_append, List.append_nil, List.length_cons, List.length_nil, List.mem_singleton, reduceCtorEq, Nat.reduceAdd, Nat.reduceSub, Nat.reduceLT, iD_len, c1, c2, b01, tot]
  · simp only [rO, rS, rE, rL, rB, bs, dcT, Bool.and_true, Bool.not_true, Bool.not_false, List.map, List.replicate, List.cons_append, List.nil_append, List.append_nil, List.length_cons, List.length_nil, List.mem_singleton, reduceCtorEq, Nat.reduceAdd, Nat.reduceSub, Nat.reduceLT, iD_len, r1, r2, z2, tr]
/-! the law's own -/
def rl (p c : Nat) : Nat := if c < p then min (c + 1) (p - c) else 0
theorem kd_len (p a m : Nat) (hp : 1 ≤ p) : (kd p a m).length = wq p a m + (if 0 < w1 p a m then 1 else 0) + (if 0 < wr p a m then 1 else 0) ∧ wq p a m ≤ m := by
  refine ⟨?_, Nat.le_trans (Nat.div_le_self _ _) (Nat.sub_le _ _)⟩
  unfold kd pre
  rw [List.length_append, List.length_append, List.length_map, List.length_range]
  split <;> split <;> simp <;> omega
theorem kd_sum (p a m : Nat) (hp : 1 ≤ p) : ((kd p a m).map fun kc => rl p kc.2).sum = rd p (w1 p a m) + rd p (wr p a m) := by
  have hf := ff_lt p a hp
  have hw : w1 p a m ≤ ff p a := by unfold w1; omega
  have hr : wr p a m < p := Nat.mod_lt _ hp
  have mid : (((List.range (wq p a m)).map fun i => ((a + ff p a) / p + i, p)).map fun kc => rl p kc.2).sum = 0 := by
    rw [List.map_map]
    have : ((fun kc : Nat × Nat => rl p kc.2) ∘ fun i => ((a + ff p a) / p + i, p)) = fun _ => 0 := funext fun i => by
      show rl p p = 0
      unfold rl
      rw [if_neg (by omega)]
    rw [this]
    generalize wq p a m = k
    induction k with
    | zero => rfl
    | succ k ih => rw [List.range_succ, List.map_append, List.sum_append, ih]; rfl
  have one : ∀ c, c < p → 0 < c → rl p c = rd p c := fun c h1 h2 => by
    unfold rl rd
    rw [if_pos h1, if_neg (by omega)]
  have z : rd p 0 = 0 := by unfold rd; rw [if_pos (.inl rfl)]
  unfold kd pre
  rw [List.map_append, List.map_append, List.sum_append, List.sum_append, mid, Nat.add_zero]
  congr 1
  · by_cases h : 0 < w1 p a m
    · rw [if_pos h]
      show rl p (w1 p a m) + 0 = _
      rw [one _ (by omega) h]; rfl
    · rw [if_neg h, show w1 p a m = 0 by omega, z]; rfl
  · by_cases h : 0 < wr p a m
    · rw [if_pos h]
      show rl p (wr p a m) + 0 = _
      rw [one _ hr h]; rfl
    · rw [if_neg h, show wr p a m = 0 by omega, z]; rfl
theorem kd_apart (p a m : Nat) (hp : 1 ≤ p) : (kd p a m).Pairwise fun x y => x.1 ≠ y.1 := by
  obtain ⟨b, h1, h2, h3⟩ := ff_sum p a hp
  have hb : (a + ff p a) / p = b := by rw [h1, Nat.mul_div_cancel _ hp]
  have tail : 0 < wr p a m ∨ 0 < wq p a m → ff p a ≤ m := fun h => by
    by_cases hm : ff p a ≤ m
    · exact hm
    · have e : w1 p a m = m := by unfold w1; omega
      unfold wr wq at h
      rw [e, Nat.sub_self, Nat.zero_mod, Nat.zero_div] at h
      omega
  unfold kd
  refine List.pairwise_append.mpr ⟨List.pairwise_append.mpr ⟨?_, ?_, fun x hx y hy => ?_⟩, ?_, fun x hx y hy => ?_⟩
  · unfold pre
    split
    · exact List.pairwise_singleton _ _
    · exact .nil
  · refine List.pairwise_map.mpr (List.pairwise_lt_range.imp fun {i j} hij => ?_)
    show (a + ff p a) / p + i ≠ (a + ff p a) / p + j
    omega
  · obtain ⟨i, hi, rfl⟩ := List.mem_map.mp hy
    have hi' := List.mem_range.mp hi
    have hm := tail (.inr (by omega))
    unfold pre at hx
    split at hx
    · rename_i hw
      have : 0 < ff p a := by unfold w1 at hw; omega
      have := h2 this
      rw [List.mem_singleton] at hx
      subst hx
      show a / p ≠ (a + ff p a) / p + i
      omega
    · cases hx
  · split
    · exact List.pairwise_singleton _ _
    · exact .nil
  · split at hy
    · rename_i hw
      rw [List.mem_singleton] at hy
      subst hy
      exact kd_keys p a m hp (tail (.inl hw)) x hx
    · cases hy
theorem keys_kD (l : List (Nat × Nat)) : keysD (kD l) = l.map fun kc => D.int (kc.1 : Int) := by
  unfold keysD kD
  rw [List.map_map]
  rfl
theorem val_at {l : List (Nat × Nat)} (h : l.Pairwise fun x y => x.1 ≠ y.1) {i : Nat} {kc : Nat × Nat} (hi : l[i]? = some kc) : valD (kD l) (.inl (kc.1 : Int)) = some (.int (kc.2 : Int)) := by
  have hl : i < l.length := (List.getElem?_eq_some_iff.mp hi).1
  have he : l[i] = kc := (List.getElem?_eq_some_iff.mp hi).2
  have e : l = l.take i ++ (kc.1, kc.2) :: l.drop (i + 1) := by
    have := List.drop_eq_getElem_cons hl
    rw [he] at this
    show l = l.take i ++ kc :: l.drop (i + 1)
    rw [← this, List.take_append_drop]
  rw [e]
  refine val_here fun x hx => ?_
  rw [e] at h
  exact (List.pairwise_append.mp h).2.2 x hx (kc.1, kc.2) List.mem_cons_self
theorem getD_nat {kds : List (Key × D)} {i : Int} {c : Int} (h : (valD kds (.inl i)).getD (.int 0) = .int c) : getD (.dct kds) (.int i) (.int 0) = some (.int c) := by
  show (if lf ((valD kds (.inl i)).getD (.int 0)) = true then some ((valD kds (.inl i)).getD (.int 0)) else none) = _
  rw [h]
  rfl
/-! ### what is lost -/
theorem in_nD (v : Nat) (g : List Nat) : dInA (.int (v : Int)) (.tup (nD g)) = some (.bl (decide (v ∈ g))) := by
  show ((inB (.int (v : Int)) (.tup (nD g))).bind fun b => some (D.bl b)) = _
  have f : flatD (.int (v : Int)) = true ∧ (nD g).all flatD = true := ⟨rfl, List.all_eq_true.mpr fun d hd => by
    obtain ⟨a, _, rfl⟩ := List.mem_map.mp hd
    rfl⟩
  have e : inB (.int (v : Int)) (.tup (nD g)) = some ((nD g).any fun z => eqF z (.int (v : Int))) := by
    unfold inB
    show Option.bind (some (nD g)) _ = _
    rw [bs, if_pos f]
  rw [e]
  show some (D.bl _) = some (D.bl _)
  congr 2
  unfold nD
  rw [List.any_map]
  by_cases h : v ∈ g
  · rw [dtrue h]
    exact List.any_eq_true.mpr ⟨v, h, by show ((v : Int) == (v : Int)) = true; simp⟩
  · rw [dfalse h]
    refine List.any_eq_false.mpr fun a ha => ?_
    show ¬ ((a : Int) == (v : Int)) = true
    have : a ≠ v := fun e => h (e ▸ ha)
    simp
    omega
def LA (p : Nat) (g : List Nat) (m : Nat) : Nat := (List.range m).countP fun a => decide ((dsk p a).2 ∈ g)
def pl (p : Nat) (g : List Nat) : D → Bool
  | .int a => decide ((dsk p a.toNat).2 ∈ g)
  | _ => false
theorem LA_rng (p : Nat) (g : List Nat) (m : Nat) : (((rngD 0 1 m).filter (pl p g)).map fun d => d).length = LA p g m := by
  have e0 : rngD 0 1 m = (List.range m).map (fun i : Nat => D.int (i : Int)) := List.map_congr_left fun i _ => by
    show D.int _ = _
    congr 1
    omega
  rw [List.map_id', e0, ← List.countP_eq_length_filter, List.countP_map]
  rfl
theorem among_ok (p : Nat) (hp : 1 ≤ p) (hp2 : p ≤ 100) (g : List Nat) (m : Nat) (hm : m ≤ 1000) : F_lost_among [.int ((p + 1 : Nat) : Int), .tup (nD g), .int (m : Int)] = some (.int (LA p g m : Int), [.int ((p + 1 : Nat) : Int), .tup (nD g), .int (m : Int)]) := by
  have c1 := lcL_filter (ow := [3]) (t := gN 3) (tt := tV (eOp dInA (eOp dIx (eCall F_disk_of_value [] [none, none] (aCons (eV 0) (aCons (eV 3) aNil))) (eC (.int 1))) (eV 1))) (fe := eLf (eV 3)) (pl p g) (fun d => d) (rngD 0 1 m) [some (.int ((p + 1 : Nat) : Int)), some (.tup (nD g)), some (.int (m : Int)), none]
    fun d hd => by
      obtain ⟨j, hj⟩ := List.getElem?_of_mem hd
      obtain ⟨hjn, rfl⟩ := rng_at hj
      rw [show (0 : Int) + (j : Int) * 1 = (j : Int) by omega]
      have dk := disk_ok p hp hp2 j
      have a1 : atI [D.int ((dsk p j).1 : Int), D.int ((dsk p j).2 : Int)] 1 = some (.int ((dsk p j).2 : Int)) := rfl
      have i1 := in_nD (dsk p j).2 g
      unfold dkD at dk
      refine ⟨[some (.int ((p + 1 : Nat) : Int)), some (.tup (nD g)), some (.int (m : Int)), some (.int (j : Int))], [some (.int ((p + 1 : Nat) : Int)), some (.tup (nD g)), some (.int (m : Int)), some (.int (j : Int))], rfl, ?_, rfl, fun _ => ⟨[some (.int ((p + 1 : Nat) : Int)), some (.tup (nD g)), some (.int (m : Int)), some (.int (j : Int))], ?_, rfl⟩⟩
      · simp only [rO, rS, rE, rL, rB, bs, dcT, Bool.and_true, Bool.not_true, Bool.not_false, List.map, List.replicate, List.cons_append, List.nil_append, List.append_nil, List.length_cons, List.length_nil, List.mem_singleton, reduceCtorEq, Nat.reduceAdd, Nat.reduceSub, Nat.reduceLT, iD_len, dk, a1, i1]
        rfl
      · simp only [rO, rS, rE, rL, rB, bs, dcT, Bool.and_true, Bool.not_true, Bool.not_false, List.map, List.replicate, List.cons_append, List.nil_append, List.append_nil, List.length_cons, List.length_nil, List.mem_singleton, reduceCtorEq, Nat.reduceAdd, Nat.reduceSub, Nat.reduceLT, iD_len, ]
  have z1 : m ≤ sizeLine := szl (by omega)
  unfold F_lost_among G_lost_among
  refine run_go ⟨rfl, rfl⟩ (e := [some (.int ((p + 1 : Nat) : Int)), some (.tup (nD g)), some (.int (m : Int)), none]) (ret_go ?_)
  simp only [rO, rS, rE, rL, rB, bs, dcT, Bool.and_true, Bool.not_true, Bool.not_false, List.map, List.replicate, List.cons_append, List.nil_append, List.append_nil, List.length_cons, List.length_nil, List.mem_singleton, reduceCtorEq, Nat.reduceAdd, Nat.reduceSub, Nat.reduceLT, iD_len, rng_len, Int.toNat_natCast, z1, c1, LA_rng]
def CL (p : Nat) (g : List Nat) (m : Nat) : Nat := if g.length < 2 then 0 else m / ((p + 1) * p) * LA p g ((p + 1) * p) + LA p g (m % ((p + 1) * p))
theorem lost_ok (p : Nat) (hp : 1 ≤ p) (hp2 : p ≤ 8) (g : List Nat) (m : Nat) : F_count_lost [.int ((p + 1 : Nat) : Int), .tup (nD g), .int (m : Int)] = some (.int (CL p g m : Int), [.int ((p + 1 : Nat) : Int), .tup (nD g), .int (m : Int)]) := by
  unfold F_count_lost G_count_lost CL
  by_cases h : g.length < 2
  · refine run_go ⟨rfl, rfl⟩ (e := [some (.int ((p + 1 : Nat) : Int)), some (.tup (nD g)), some (.int (m : Int)), none]) ?_
    rw [if_pos h]
    simp only [rO, rS, rE, rL, rB, bs, dcT, Bool.and_true, Bool.not_true, Bool.not_false, List.map, List.replicate, List.cons_append, List.nil_append, List.append_nil, List.length_cons, List.length_nil, List.mem_singleton, reduceCtorEq, Nat.reduceAdd, Nat.reduceSub, Nat.reduceLT, iD_len, nD_len, dtrue (show (g.length : Int) < 2 by omega)]
    rfl
  · have wb : (p + 1) * p ≤ 9 * 8 := Nat.mul_le_mul (by omega) hp2
    have wp : 0 < (p + 1) * p := Nat.mul_pos (by omega) hp
    have e1 : ((p + 1 : Nat) : Int) - 1 = (p : Int) := by omega
    have e2 : ((p + 1 : Nat) : Int) * (p : Int) = (((p + 1) * p : Nat) : Int) := by rw [Int.natCast_mul]
    have mo : mulOk ((p + 1 : Nat) : Int) (p : Int) = true := mulOk_r (by omega)
    generalize hW : (p + 1) * p = W at *
    have ml : m % W < W := Nat.mod_lt _ wp
    have l1 := among_ok p hp (by omega) g W (by omega)
    have l2 := among_ok p hp (by omega) g (m % W) (by omega)
    have lb : LA p g W ≤ W := Nat.le_trans List.countP_le_length (by rw [List.length_range]; exact Nat.le_refl _)
    have mo2 : ∀ i : Int, mulOk i (LA p g W : Int) = true := fun i => mulOk_r (by omega)
    have e5 : (if 0 < (W : Int) ∧ (W : Int).natAbs.log2 < 9000 then some (D.int ((m : Int) / (W : Int))) else none) = some (D.int ((m / W : Nat) : Int)) := by
      rw [if_pos ⟨by omega, log_small (by omega)⟩, ← Int.natCast_ediv]
    have e6 : (if 0 < (W : Int) then some (D.int ((m : Int) % (W : Int))) else none) = some (D.int ((m % W : Nat) : Int)) := by
      rw [if_pos (by omega), ← Int.natCast_emod]
    have tot : ((m / W : Nat) : Int) * (LA p g W : Int) + (LA p g (m % W) : Int) = ((m / W * LA p g W + LA p g (m % W) : Nat) : Int) := by
      rw [Int.natCast_add, Int.natCast_mul]
    refine run_go ⟨rfl, rfl⟩ (e := [some (.int ((p + 1 : Nat) : Int)), some (.tup (nD g)), some (.int (m : Int)), some (.int (W : Int))]) ?_
    rw [if_neg h]
    refine seq_go (e1 := [some (.int ((p + 1 : Nat) : Int)), some (.tup (nD g)), some (.int (m : Int)), none]) ?_ (seq_go (e1 := [some (.int ((p + 1 : Nat) : Int)), some (.tup (nD g)), some (.int (m : Int)), some (.int (W : Int))]) ?_ ?_)
    · simp only [rO, rS, rE, rL, rB, bs, dcT, Bool.and_true, Bool.not_true, Bool.not_false, List.map, List.replicate, List.cons_append, List.nil_append, List.append_nil, List.length_cons, List.length_nil, List.mem_singleton, reduceCtorEq, Nat.reduceAdd, Nat.reduceSub, Nat.reduceLT, iD_len, nD_len, dfalse (show ¬ (g.length : Int) < 2 by omega)]
    · simp only [rO, rS, rE, rL, rB, bs, dcT, Bool.and_true, Bool.not_true, Bool.not_false, List.map, List.replicate, List.cons_append, List.nil_append, List.append_nil, List.length_cons, List.length_nil, List.mem_singleton, reduceCtorEq, Nat.reduceAdd, Nat.reduceSub, Nat.reduceLT, iD_len, e1, mo, e2]
    · simp only [rO, rS, rE, rL, rB, bs, dcT, Bool.and_true, Bool.not_true, Bool.not_false, List.map, List.replicate, List.cons_append, List.nil_append, List.append_nil, List.length_cons, List.length_nil, List.mem_singleton, reduceCtorEq, Nat.reduceAdd, Nat.reduceSub, Nat.reduceLT, iD_len, e5, l1, mo2, e6, l2, tot]
/-! turns of all disks -/
theorem dsk_turn (p : Nat) (hp : 1 ≤ p) (a : Nat) : (dsk p ((p + 1) * p + a)).2 = (dsk p a).2 := by
  unfold dsk
  have e1 : ((p + 1) * p + a) / p = (p + 1) + a / p := by rw [Nat.add_comm, Nat.add_mul_div_right _ _ hp, Nat.add_comm]
  have e2 : ((p + 1) * p + a) % p = a % p := by rw [Nat.add_comm, Nat.add_mul_mod_self_right]
  rw [e1, e2, Nat.add_mod_left]
theorem LA_turn (p : Nat) (hp : 1 ≤ p) (g : List Nat) (r : Nat) : LA p g ((p + 1) * p + r) = LA p g ((p + 1) * p) + LA p g r := by
  unfold LA
  rw [List.range_add, List.countP_append, List.countP_map]
  congr 1
  refine List.countP_congr fun a _ => ?_
  show decide ((dsk p ((p + 1) * p + a)).2 ∈ g) = true ↔ _
  rw [dsk_turn p hp]
theorem LA_all (p : Nat) (hp : 1 ≤ p) (g : List Nat) (r : Nat) : ∀ k, LA p g (k * ((p + 1) * p) + r) = k * LA p g ((p + 1) * p) + LA p g r
  | 0 => by rw [Nat.zero_mul, Nat.zero_mul, Nat.zero_add, Nat.zero_add]
  | k + 1 => by
    have ih := LA_all p hp g r k
    have tn := LA_turn p hp g (k * ((p + 1) * p) + r)
    generalize (p + 1) * p = W at *
    have e : (k + 1) * W + r = W + (k * W + r) := by rw [Nat.add_mul, Nat.one_mul]; omega
    rw [e, tn, ih, Nat.add_mul, Nat.one_mul]
    omega
theorem CL_eq (p : Nat) (hp : 1 ≤ p) (g : List Nat) (m : Nat) (h : ¬ g.length < 2) : CL p g m = LA p g m := by
  unfold CL
  rw [if_neg h, ← LA_all p hp g (m % ((p + 1) * p)) (m / ((p + 1) * p)), Nat.mul_comm, Nat.div_add_mod]
theorem each_disk : ∀ p : Fin 9, 1 ≤ p.val → ∀ d : Fin 9, d.val ≤ p.val → ((List.range ((p.val + 1) * p.val)).countP fun a => decide ((dsk p.val a).2 = d.val)) = p.val := by decide +kernel
theorem cnt_sum (f : Nat → Nat) (l : List Nat) (c : Nat) : ∀ g : List Nat, g.Nodup → (∀ d ∈ g, (l.countP fun a => decide (f a = d)) = c) → (l.countP fun a => decide (f a ∈ g)) = g.length * c
  | [], _, _ => by
    rw [List.length_nil, Nat.zero_mul]
    exact List.countP_eq_zero.mpr fun a _ => by simp
  | d :: g, hn, hc => by
    obtain ⟨n1, n2⟩ := List.nodup_cons.mp hn
    have ih := cnt_sum f l c g n2 fun x hx => hc x (List.mem_cons_of_mem _ hx)
    have h1 := hc d List.mem_cons_self
    have : ∀ l : List Nat, (l.countP fun a => decide (f a ∈ d :: g)) = (l.countP fun a => decide (f a = d)) + l.countP fun a => decide (f a ∈ g) := fun l => by
      induction l with
      | nil => rfl
      | cons a l ih =>
        rw [List.countP_cons, List.countP_cons, List.countP_cons, ih]
        by_cases e : f a = d
        · have : f a ∉ g := by rw [e]; exact n1
          simp [e, n1]
          omega
        · simp [e]
          omega
    rw [this, h1, ih, List.length_cons, Nat.add_mul, Nat.one_mul, Nat.add_comm]
theorem LA_whole (p : Nat) (hp : 1 ≤ p) (hp2 : p ≤ 8) (g : List Nat) (hn : g.Nodup) (hg : ∀ d ∈ g, d ≤ p) : LA p g ((p + 1) * p) = g.length * p :=
  cnt_sum (fun a => (dsk p a).2) _ p g hn fun d hd => each_disk ⟨p, by omega⟩ hp ⟨d, by have := hg d hd; omega⟩ (hg d hd)
theorem CL_more (p : Nat) (hp : 1 ≤ p) (hp2 : p ≤ 8) (g : List Nat) (hn : g.Nodup) (hg : ∀ d ∈ g, d ≤ p) (m w : Nat) : CL p g (m + (p + 1) * p * w) = CL p g m + (if g.length < 2 then 0 else g.length * p) * w := by
  have wp : 0 < (p + 1) * p := Nat.mul_pos (by omega) hp
  unfold CL
  by_cases h : g.length < 2
  · rw [if_pos h, if_pos h, if_pos h, Nat.zero_mul]
  · rw [if_neg h, if_neg h, if_neg h, Nat.add_mul_div_left _ _ wp, Nat.add_mul_mod_self_left, LA_whole p hp hp2 g hn hg, Nat.add_mul, Nat.mul_comm w]
    omega

/-! ### rows without some disks -/
def woR (g : List Nat) (r : List Nat) : List (Option Nat) := (List.range r.length).map fun d => if d ∈ g then none else some (r.getD d 0)
def woD (g : List Nat) (r : List Nat) : D → D
  | .int i => if i.toNat ∈ g then .non else .int (r.getD i.toNat 0 : Int)
  | d => d
theorem woR_len (g r : List Nat) : (woR g r).length = r.length := by unfold woR; rw [List.length_map, List.length_range]
theorem wo_rng (g r : List Nat) : (rngD 0 1 r.length).map (woD g r) = oD (woR g r) := by
  have e0 : rngD 0 1 r.length = (List.range r.length).map (fun i : Nat => D.int (i : Int)) := List.map_congr_left fun i _ => by
    show D.int _ = _
    congr 1
    omega
  rw [e0]
  unfold oD woR
  rw [List.map_map, List.map_map]
  refine List.map_congr_left fun i _ => ?_
  show (if (i : Int).toNat ∈ g then D.non else .int (r.getD (i : Int).toNat 0 : Int)) = oo (if i ∈ g then none else some (r.getD i 0))
  rw [Int.toNat_natCast]
  split <;> rfl
theorem Lk.of_fun (g : List Nat) : ∀ (r : List Nat) (k : Nat), Lk ((List.range r.length).map fun d => if d + k ∈ g then none else some (r.getD d 0)) r
  | [], _ => .nil
  | a :: r, k => by
    rw [List.length_cons, List.range_succ_eq_map, List.map_cons, List.map_map]
    have ih := Lk.of_fun g r (k + 1)
    have e : (List.range r.length).map ((fun d => if d + k ∈ g then none else some ((a :: r).getD d 0)) ∘ Nat.succ) = (List.range r.length).map fun d => if d + (k + 1) ∈ g then none else some (r.getD d 0) := List.map_congr_left fun d _ => by
      show (if d + 1 + k ∈ g then none else some ((a :: r).getD (d + 1) 0)) = _
      rw [show d + 1 + k = d + (k + 1) by omega]
      rfl
    rw [e]
    by_cases h : 0 + k ∈ g
    · rw [if_pos h]; exact .hole a ih
    · rw [if_neg h]; exact .held a ih
theorem Lk.wo (g r : List Nat) : Lk (woR g r) r := by
  have := Lk.of_fun g r 0
  unfold woR
  exact this
theorem noN_wo (g r : List Nat) : noN (woR g r) = (List.range r.length).countP fun d => decide (d ∈ g) := by
  unfold noN woR
  rw [List.countP_map]
  refine List.countP_congr fun d _ => ?_
  show (if d ∈ g then none else some (r.getD d 0) : Option Nat).isNone = true ↔ decide (d ∈ g) = true
  by_cases h : d ∈ g
  · rw [if_pos h, dtrue h]; exact Iff.rfl
  · rw [if_neg h, dfalse h]; exact Iff.rfl
theorem cnt_one (k : Nat) : ∀ n, k < n → ((List.range n).countP fun d => decide (d ∈ [k])) = 1 := fun n hn => by
  have : ∀ n, ((List.range n).countP fun d => decide (d ∈ [k])) = if k < n then 1 else 0 := fun n => by
    induction n with
    | zero => rfl
    | succ n ih =>
      rw [List.range_succ, List.countP_append, ih]
      by_cases h : n = k
      · subst h; simp
      · have : ¬ k = n := fun e => h e.symm
        by_cases h2 : k < n
        · rw [if_pos h2, if_pos (by omega)]; simp [h]
        · rw [if_neg h2, if_neg (by omega)]; simp [h]
  rw [this, if_pos hn]
theorem cnt_two (j k : Nat) (hjk : j ≠ k) (n : Nat) (hj : j < n) (hk : k < n) : ((List.range n).countP fun d => decide (d ∈ [j, k])) = 2 := by
  have h1 := cnt_one j n hj
  have h2 := cnt_one k n hk
  have : ∀ l : List Nat, (l.countP fun d => decide (d ∈ [j, k])) = (l.countP fun d => decide (d ∈ [j])) + l.countP fun d => decide (d ∈ [k]) := fun l => by
    induction l with
    | nil => rfl
    | cons a l ih =>
      rw [List.countP_cons, List.countP_cons, List.countP_cons, ih]
      by_cases e : a = j
      · subst e; simp [hjk]; omega
      · by_cases e2 : a = k
        · subst e2; simp [e]; omega
        · simp [e, e2]
  rw [this, h1, h2]
theorem without_turn (g : List Nat) (z w : D) (r : List Nat) (hr : r.length ≤ 1000) (out : List D) (ho : out.length ≤ 1000) (y : Option D) (hw : w = .tup (nD g)) :
    ((gN 3 (.tup (nD r)) [some z, some w, some (.lst out), y, none]).bind B1__law_without) = some (.nx [some z, some w, some (.lst (out ++ [.tup (oD (woR g r))])), some (.tup (nD r)), none]) := by
  subst hw
  have c1 := lcL_map (ow := [4]) (t := gN 4) (fe := eOp dIx (eLst (aCons (eLf (eOp dIx (eV 3) (eV 4))) (aCons (eC .non) aNil))) (eB gInt (aCons (eOp dInA (eV 4) (eV 1)) aNil))) (woD g r) (rngD 0 1 r.length) [some z, some (.tup (nD g)), some (.lst out), some (.tup (nD r)), none]
    fun d hd => by
      obtain ⟨j, hj⟩ := List.getElem?_of_mem hd
      obtain ⟨hjn, rfl⟩ := rng_at hj
      rw [show (0 : Int) + (j : Int) * 1 = (j : Int) by omega]
      have ja : atI (nD r) (j : Int) = some (.int (r.getD j 0 : Int)) := by
        rw [getDe _ _ (by omega)]
        exact atI_nD (List.getElem?_eq_getElem (by omega))
      have i1 := in_nD j g
      have z2 : 2 ≤ sizeLine := by decide
      refine ⟨[some z, some (.tup (nD g)), some (.lst out), some (.tup (nD r)), some (.int (j : Int))], [some z, some (.tup (nD g)), some (.lst out), some (.tup (nD r)), some (.int (j : Int))], rfl, ?_, rfl⟩
      show _ = some ((if (j : Int).toNat ∈ g then D.non else .int (r.getD (j : Int).toNat 0 : Int)), _)
      rw [Int.toNat_natCast]
      by_cases h : j ∈ g
      · rw [if_pos h]
        simp only [rO, rS, rE, rL, rB, bs, dcT, Bool.and_true, Bool.not_true, Bool.not_false, List.map, List.replicate, List.cons_append, List.nil_append, List.append_nil, List.length_cons, List.length_nil, List.mem_singleton, reduceCtorEq, Nat.reduceAdd, Nat.reduceSub, Nat.reduceLT, iD_len, ja, i1, z2, dtrue h]
        rfl
      · rw [if_neg h]
        simp only [rO, rS, rE, rL, rB, bs, dcT, Bool.and_true, Bool.not_true, Bool.not_false, List.map, List.replicate, List.cons_append, List.nil_append, List.append_nil, List.length_cons, List.length_nil, List.mem_singleton, reduceCtorEq, Nat.reduceAdd, Nat.reduceSub, Nat.reduceLT, iD_len, ja, i1, z2, dfalse h]
        rfl
  rw [wo_rng] at c1
  have z1 : r.length ≤ sizeLine := szl (by omega)
  have z2 : out.length < sizeLine := szl' (by omega)
  show B1__law_without [some z, some (.tup (nD g)), some (.lst out), some (.tup (nD r)), none] = _
  unfold B1__law_without
  simp only [rO, rS, rE, rL, rB, bs, dcT, Bool.and_true, Bool.not_true, Bool.not_false, List.map, List.replicate, List.cons_append, List.nil_append, List.append_nil, List.length_cons, List.length_nil, List.mem_singleton, reduceCtorEq, Nat.reduceAdd, Nat.reduceSub, Nat.reduceLT, iD_len, nD_len, Int.toNat_natCast, rng_len, z1, c1, lfs_oD, z2]
theorem without_ok (g : List Nat) (rows : List (List Nat)) (hl : rows.length ≤ 1000) (hw : ∀ r ∈ rows, r.length ≤ 1000) : F__law_without [.tup (rD rows), .tup (nD g)] = some (.tup (tD (rows.map (woR g))), [.tup (rD rows), .tup (nD g)]) := by
  obtain ⟨e2, g1, y, g2⟩ := forL_rel (t := gN 3) (b := B1__law_without) (ds := rD rows) (e := [some (.tup (rD rows)), some (.tup (nD g)), some (.lst []), none, none])
    (fun j e => ∃ y, e = [some (.tup (rD rows)), some (.tup (nD g)), some (.lst (tD ((rows.take j).map (woR g)))), y, none]) ⟨none, rfl⟩ fun j d e hj ⟨y, he⟩ => by
      subst he
      unfold rD at hj
      rw [List.getElem?_map] at hj
      cases hr : rows[j]? with
      | none => rw [hr] at hj; cases hj
      | some r =>
        rw [hr] at hj
        cases hj
        have hm := List.mem_of_getElem? hr
        refine ⟨_, without_turn g (.tup (rD rows)) _ r (hw r hm) (tD ((rows.take j).map (woR g))) (by rw [tD_len, List.length_map, List.length_take]; omega) y rfl, some (.tup (nD r)), ?_⟩
        rw [List.take_add_one, hr, List.map_append]
        unfold tD
        rw [List.map_append]
        rfl
  rw [rD_len, List.take_of_length_le (Nat.le_refl _)] at g2
  subst g2
  have z0 : 0 ≤ sizeLine := Nat.zero_le _
  unfold F__law_without G__law_without
  refine run_go ⟨rfl, rfl⟩ (e := [some (.tup (rD rows)), some (.tup (nD g)), some (.lst (tD (rows.map (woR g)))), y, none]) ?_
  refine seq_go (e1 := [some (.tup (rD rows)), some (.tup (nD g)), some (.lst []), none, none]) ?_ (seq_go (for_go (ds := rD rows) ?_ (lfs_rD _) g1) ?_)
  · simp only [rO, rS, rE, rL, rB, bs, dcT, Bool.and_true, Bool.not_true, Bool.not_false, List.map, List.replicate, List.cons_append, List.nil_append, List.append_nil, List.length_cons, List.length_nil, List.mem_singleton, reduceCtorEq, Nat.reduceAdd, Nat.reduceSub, Nat.reduceLT, iD_len, z0]
  · simp only [rO, rS, rE, rL, rB, bs, dcT, Bool.and_true, Bool.not_true, Bool.not_false, List.map, List.replicate, List.cons_append, List.nil_append, List.append_nil, List.length_cons, List.length_nil, List.mem_singleton, reduceCtorEq, Nat.reduceAdd, Nat.reduceSub, Nat.reduceLT, iD_len, ]
  · simp only [rO, rS, rE, rL, rB, bs, dcT, Bool.and_true, Bool.not_true, Bool.not_false, List.map, List.replicate, List.cons_append, List.nil_append, List.append_nil, List.length_cons, List.length_nil, List.mem_singleton, reduceCtorEq, Nat.reduceAdd, Nat.reduceSub, Nat.reduceLT, iD_len, lfs_tD]

/-! ### a plain value is itself -/
/-- plain, no text within -/
inductive Pi : Nat → D → Prop
  | int {n : Nat} (i : Int) : Pi (n + 1) (.int i)
  | bl {n : Nat} (b : Bool) : Pi (n + 1) (.bl b)
  | non {n : Nat} : Pi (n + 1) .non
  | tup {n : Nat} {ds : List D} : (∀ d ∈ ds, Pi n d) → Pi (n + 1) (.tup ds)
theorem Pi.pl : ∀ {n : Nat} {d : D}, Pi n d → Pl n d
  | n + 1, _, .int i => .int i
  | n + 1, _, .bl i => .bl i
  | n + 1, _, .non => .non
  | n + 1, _, .tup h => .tup fun d hd => (h d hd).pl
mutual
theorem py_of : ∀ (n : Nat) (d : D), Pi n d → ∃ q, toPy d = some q ∧ q.canLay0 = true ∧ q.depth ≤ n
  | n + 1, _, .int i => ⟨.int i, rfl, rfl, Nat.zero_le _⟩
  | n + 1, _, .bl i => ⟨.bool i, rfl, rfl, Nat.zero_le _⟩
  | n + 1, _, .non => ⟨.none, rfl, rfl, Nat.zero_le _⟩
  | n + 1, .tup ds, .tup h => by
    obtain ⟨q, h1, h2, h3⟩ := pys_of n ds h
    refine ⟨.tuple q, ?_, ?_, ?_⟩
    · show ((toPys ds).bind fun r => some (PyData.tuple r)) = _
      rw [h1]; rfl
    · simpa [PyData.canLay0] using h2
    · show PyData.depthAll q + 1 ≤ n + 1
      omega
theorem pys_of : ∀ (n : Nat) (ds : List D), (∀ d ∈ ds, Pi n d) → ∃ q, toPys ds = some q ∧ PyData.canLayAll0 q = true ∧ PyData.depthAll q ≤ n
  | n, [], _ => ⟨[], rfl, rfl, Nat.zero_le _⟩
  | n, d :: ds, h => by
    obtain ⟨q, h1, h2, h3⟩ := py_of n d (h d List.mem_cons_self)
    obtain ⟨qs, g1, g2, g3⟩ := pys_of n ds fun d hd => h d (List.mem_cons_of_mem _ hd)
    refine ⟨q :: qs, ?_, ?_, ?_⟩
    · show ((toPy d).bind fun p => (toPys ds).bind fun r => some (p :: r)) = _
      rw [h1, g1]; rfl
    · simp [PyData.canLayAll0, h2, g2]
    · show max (PyData.depth q) (PyData.depthAll qs) ≤ n
      omega
end
theorem eqG_refl {n : Nat} {d : D} (h : Pi n d) (hn : n ≤ 64) : dEqG d d = some true := by
  obtain ⟨q, h1, h2, h3⟩ := py_of n d h
  unfold dEqG
  rw [h1]
  have s : SeqAt.shaped q = true := by
    unfold SeqAt.shaped
    rw [h2, dtrue (show q.depth ≤ 64 by omega)]
    rfl
  show (if SeqAt.shaped q = true ∧ SeqAt.shaped q = true then some (PyData.eqv q q) else none) = _
  rw [if_pos ⟨s, s⟩, SeqAt.eqv_refl q h2]
theorem eqB_refl {n : Nat} {d : D} (h : Pi n d) (hn : n ≤ 64) : eqB d d = some true := by
  have g := eqG_refl h hn
  cases d with
  | non => rfl
  | bl b => simp [eqB]
  | int i => simp [eqB]
  | str x => simp [eqB]
  | tup ds => simpa [eqB] using g
  | lst _ => cases h
  | rol _ => cases h
  | dct _ => cases h
  | dtt _ => cases h
  | rod _ => cases h
theorem ne_refl {n : Nat} {d : D} (h : Pi n d) (hn : n ≤ 64) : dNe d d = some (.bl false) := by
  unfold dNe
  rw [eqB_refl h hn]
  rfl
theorem eq_refl {n : Nat} {d : D} (h : Pi n d) (hn : n ≤ 64) : dEq d d = some (.bl true) := by
  unfold dEq
  rw [eqB_refl h hn]
  rfl

/-! ### what may go -/
def srt (a b : Nat) : List Nat := if a ≤ b then [a, b] else [b, a]
theorem srt_ok (a b : Nat) : gSorted [.lst [.int (a : Int), .int (b : Int)]] = some (.lst (nD (srt a b))) := by
  show ((ints? [.int (a : Int), .int (b : Int)]).bind fun ns => some (D.lst ((sortI ns).map D.int))) = _
  have e : ints? [.int (a : Int), .int (b : Int)] = some [(a : Int), (b : Int)] := rfl
  rw [e, bs]
  show some (D.lst (List.map D.int (if (a : Int) ≤ (b : Int) then [(a : Int), (b : Int)] else [(b : Int), (a : Int)]))) = _
  unfold srt
  by_cases h : a ≤ b
  · rw [if_pos h, if_pos (by omega)]; rfl
  · rw [if_neg h, if_neg (by omega)]; rfl
theorem srt_two {a b : Nat} (h : a ≠ b) : ∃ j k, srt a b = [j, k] ∧ j ≠ k ∧ (j = a ∨ j = b) ∧ (k = a ∨ k = b) := by
  unfold srt
  by_cases h1 : a ≤ b
  · rw [if_pos h1]; exact ⟨a, b, rfl, h, .inl rfl, .inr rfl⟩
  · rw [if_neg h1]; exact ⟨b, a, rfl, fun e => h e.symm, .inr rfl, .inl rfl⟩
theorem mnd_one (p d : Nat) (hd : d ≤ p) (r : List Nat) (hr : r.length = p + 1) (hx : xr r = 0) : mnd (woR [d] r) = .tup (nD r) := by
  have h1 : noN (woR [d] r) = 1 := by rw [noN_wo, hr]; exact cnt_one d (p + 1) (by omega)
  unfold mnd
  rw [if_pos h1, (Lk.wo [d] r).ful h1 hx]
theorem mnd_two (p j k : Nat) (hjk : j ≠ k) (hj : j ≤ p) (hk : k ≤ p) (r : List Nat) (hr : r.length = p + 1) : mnd (woR [j, k] r) = .tup (oD (woR [j, k] r)) := by
  have h1 : noN (woR [j, k] r) = 2 := by rw [noN_wo, hr]; exact cnt_two j k hjk (p + 1) (by omega) (by omega)
  unfold mnd
  rw [if_neg (by omega)]
theorem noN_all (q : List Nat) : noN (q.map some) = 0 := by
  unfold noN
  rw [List.countP_map]
  exact List.countP_eq_zero.mpr fun a _ => by simp
theorem noN_set (q : List Nat) : ∀ a, a < q.length → noN ((q.map some).set a none) = 1 := by
  induction q with
  | nil => intro a h; cases h
  | cons x q ih =>
    intro a h
    cases a with
    | zero =>
      show noN (none :: q.map some) = 1
      have := noN_all q
      unfold noN at *
      rw [List.countP_cons, this]
      rfl
    | succ a =>
      show noN (some x :: (q.map some).set a none) = 1
      have := ih a (by rw [List.length_cons] at h; omega)
      unfold noN at *
      rw [List.countP_cons, this]
      rfl
theorem mnd_hole (p a : Nat) (ha : a ≤ p) (r : List Nat) (hr : r.length = p + 1) (hx : xr r = 0) : mnd ((r.map some).set a none) = .tup (nD r) := by
  have h1 := noN_set r a (by omega)
  unfold mnd
  rw [if_pos h1, ((Lk.all r).set a).ful h1 hx]
theorem hole_row (r : List Nat) (a : Nat) (h : a < r.length) : (nD r).take a ++ [D.non] ++ (nD r).drop (a + 1) = oD ((r.map some).set a none) := by
  have e : oD ((r.map some).set a none) = (nD r).set a D.non := by
    rw [← oD_some]
    unfold oD
    rw [List.map_set]
    rfl
  rw [e, List.set_eq_take_append_cons_drop, if_pos (by rw [nD_len]; exact h), List.append_assoc]
  rfl
/-! a row with some disks altered alike -/
def bxR (g : List Nat) (p : Nat) (r : List Nat) : List Nat := (List.range (p + 1)).map fun d => r.getD d 0 ^^^ (if d ∈ g then 7 else 0)
theorem xr_two (f h : Nat → Nat) : ∀ l : List Nat, xr (l.map fun d => f d ^^^ h d) = xr (l.map f) ^^^ xr (l.map h)
  | [] => by show 0 = 0 ^^^ 0; rw [Nat.xor_zero]
  | a :: l => by
    rw [List.map_cons, List.map_cons, List.map_cons, xr_cons, xr_cons, xr_cons, xr_two f h l]
    rw [Nat.xor_assoc, Nat.xor_assoc]
    congr 1
    rw [← Nat.xor_assoc, Nat.xor_comm (h a), Nat.xor_assoc]
theorem xr_ind (k : Nat) : ∀ n, xr ((List.range n).map fun d => if d = k then 7 else 0) = if k < n then 7 else 0
  | 0 => rfl
  | n + 1 => by
    rw [List.range_succ, List.map_append, xr_app, xr_ind k n]
    show _ ^^^ xr [if n = k then 7 else 0] = _
    rw [xr_one]
    by_cases h : n = k
    · subst h
      rw [if_pos rfl, if_neg (by omega), if_pos (by omega)]
      rfl
    · rw [if_neg h, Nat.xor_zero]
      by_cases h2 : k < n
      · rw [if_pos h2, if_pos (by omega)]
      · rw [if_neg h2, if_neg (by omega)]
theorem xr_bx (p j k : Nat) (hjk : j ≠ k) (hj : j ≤ p) (hk : k ≤ p) (r : List Nat) (hr : r.length = p + 1) (hx : xr r = 0) : xr (bxR [j, k] p r) = 0 := by
  unfold bxR
  rw [xr_two (fun d => r.getD d 0) (fun d => if d ∈ [j, k] then 7 else 0)]
  have e1 : (List.range (p + 1)).map (fun d => r.getD d 0) = r := by
    rw [← hr, map_getD_take r r.length (Nat.le_refl _), List.take_of_length_le (Nat.le_refl _)]
  have e2 : (List.range (p + 1)).map (fun d => if d ∈ [j, k] then 7 else 0) = (List.range (p + 1)).map (fun d => (if d = j then 7 else 0) ^^^ (if d = k then 7 else 0)) := List.map_congr_left fun d _ => by
    by_cases h1 : d = j
    · subst h1
      simp [hjk]
    · by_cases h2 : d = k
      · subst h2; simp [h1]
      · simp [h1, h2]
  rw [e1, e2, xr_two (fun d => if d = j then 7 else 0) (fun d => if d = k then 7 else 0), xr_ind, xr_ind, if_pos (by omega), if_pos (by omega), hx]
  decide
theorem wo_bx (g : List Nat) (p : Nat) (r : List Nat) (hr : r.length = p + 1) : woR g (bxR g p r) = woR g r := by
  have hl : (bxR g p r).length = p + 1 := by unfold bxR; rw [List.length_map, List.length_range]
  unfold woR
  rw [hl, hr]
  refine List.map_congr_left fun d hd => ?_
  have hd' : d < p + 1 := List.mem_range.mp hd
  by_cases h : d ∈ g
  · rw [if_pos h, if_pos h]
  · rw [if_neg h, if_neg h]
    congr 1
    rw [getDe _ _ (by omega)]
    unfold bxR
    rw [List.getElem_map, List.getElem_range, if_neg h, Nat.xor_zero]

structure Rows (p : Nat) (vs : List Nat) (rows : List (List Nat)) : Prop where
  len : rows.length ≤ 1000
  wide : ∀ r ∈ rows, r.length = p + 1
  zero : ∀ r ∈ rows, xr r = 0
  vals : (flt p rows rows.length).take vs.length = vs
theorem rows_ok (p : Nat) (hp : 1 ≤ p) (hp2 : p ≤ 100) (vs : List Nat) (hv : vs.length ≤ 500) : Rows p vs (rowsOf p vs) where
  len := by
    rw [rows_len]
    have : nch p vs ≤ vs.length + p := Nat.le_trans (Nat.div_le_self _ _) (by omega)
    omega
  wide := rows_wide p vs
  zero := fun r hr => by
    obtain ⟨s, _, rfl⟩ := List.mem_map.mp hr
    exact xr_Rw p s _
  vals := by rw [flt_rows p hp vs vs.length (Nat.le_refl _), List.take_of_length_le (Nat.le_refl _)]
theorem mnd_map (lk : List (List (Option Nat))) (rows : List (List Nat)) (f : List Nat → List (Option Nat)) (h : lk = rows.map f) (hm : ∀ r ∈ rows, mnd (f r) = .tup (nD r)) : lk.map mnd = rD rows := by
  subst h
  unfold rD
  rw [List.map_map]
  exact List.map_congr_left fun r hr => hm r hr
theorem disk_gone (p : Nat) (hp : 1 ≤ p) (hp2 : p ≤ 8) (vs : List Nat) (rows : List (List Nat)) (R : Rows p vs rows) (d : Nat) (hd : d ≤ p) (xs : List Int) (y4 y5 : Option D) :
    ∃ z5, ((gN 4 (.int (d : Int)) [some (.lst (iD xs)), some (.int ((p + 1 : Nat) : Int)), some (.tup (nD vs)), some (.tup (rD rows)), y4, y5, none, none, none, none, none, none, none, none, none]).bind B1__law_gone_right) = some (.nx [some (.lst (iD xs)), some (.int ((p + 1 : Nat) : Int)), some (.tup (nD vs)), some (.tup (rD rows)), some (.int (d : Int)), z5, none, none, none, none, none, none, none, none, none]) := by
  have wd : ∀ r ∈ rows, r.length ≤ 1000 := fun r hr => by rw [R.wide r hr]; omega
  have w1 : F__law_without [.tup (rD rows), .tup [.int (d : Int)]] = some (.tup (tD (rows.map (woR [d]))), [.tup (rD rows), .tup [.int (d : Int)]]) := without_ok [d] rows R.len wd
  have m1 := mended_ok (.int ((p + 1 : Nat) : Int)) (rows.map (woR [d])) (by rw [List.length_map]; exact R.len) fun r hr => by
    obtain ⟨q, hq, rfl⟩ := List.mem_map.mp hr
    rw [woR_len]
    exact wd q hq
  rw [mnd_map _ rows (woR [d]) rfl fun r hr => mnd_one p d hd r (R.wide r hr) (R.zero r hr)] at m1
  have s1 := same_ok (d := .tup (rD rows)) Pl.rD
  have v1 := values_of_ok p (by omega) rows R.wide R.len vs.length
  rw [R.vals] at v1
  have s2 := same_ok (d := .tup (nD vs)) Pl.nD
  have l1 : F_count_lost [.int ((p + 1 : Nat) : Int), .tup [.int (d : Int)], .int (vs.length : Int)] = some (.int 0, [.int ((p + 1 : Nat) : Int), .tup [.int (d : Int)], .int (vs.length : Int)]) := lost_ok p hp hp2 [d] vs.length
  have s3 := same_ok (d := .int 0) (.int 0)
  have z1 : 1 ≤ sizeLine := by decide
  refine ⟨some (.tup (rD rows)), ?_⟩
  show B1__law_gone_right [some (.lst (iD xs)), some (.int ((p + 1 : Nat) : Int)), some (.tup (nD vs)), some (.tup (rD rows)), some (.int (d : Int)), y5, none, none, none, none, none, none, none, none, none] = _
  unfold B1__law_gone_right
  refine seq_go (e1 := [some (.lst (iD xs)), some (.int ((p + 1 : Nat) : Int)), some (.tup (nD vs)), some (.tup (rD rows)), some (.int (d : Int)), some (.tup (rD rows)), none, none, none, none, none, none, none, none, none]) ?_ (seq_go (e1 := [some (.lst (iD xs)), some (.int ((p + 1 : Nat) : Int)), some (.tup (nD vs)), some (.tup (rD rows)), some (.int (d : Int)), some (.tup (rD rows)), none, none, none, none, none, none, none, none, none]) ?_ ?_)
  · simp only [rO, rS, rE, rL, rB, bs, dcT, Bool.and_true, Bool.not_true, Bool.not_false, List.map, List.replicate, List.cons_append, List.nil_append, List.append_nil, List.length_cons, List.length_nil, List.mem_singleton, reduceCtorEq, Nat.reduceAdd, Nat.reduceSub, Nat.reduceLT, iD_len, z1, w1, m1]
  · simp only [rO, rS, rE, rL, rB, bs, dcT, Bool.and_true, Bool.not_true, Bool.not_false, List.map, List.replicate, List.cons_append, List.nil_append, List.append_nil, List.length_cons, List.length_nil, List.mem_singleton, reduceCtorEq, Nat.reduceAdd, Nat.reduceSub, Nat.reduceLT, iD_len, s1, nD_len, v1, s2]
  · simp only [rO, rS, rE, rL, rB, bs, dcT, Bool.and_true, Bool.not_true, Bool.not_false, List.map, List.replicate, List.cons_append, List.nil_append, List.append_nil, List.length_cons, List.length_nil, List.mem_singleton, reduceCtorEq, Nat.reduceAdd, Nat.reduceSub, Nat.reduceLT, iD_len, z1, nD_len, l1, s3]
theorem hole_turn (p : Nat) (hp2 : p ≤ 8) (vs : List Nat) (rows : List (List Nat)) (r : List Nat) (hr : r.length = p + 1) (hx : xr r = 0) (xs : List Int) (lk : List (List (Option Nat))) (hl : lk.length ≤ 1000) (y4 y5 y7 y8 : Option D) :
    ∃ xs' h z8, h.length = p + 1 ∧ mnd h = .tup (nD r) ∧ ((gN 7 (.tup (nD r)) [some (.lst (iD xs)), some (.int ((p + 1 : Nat) : Int)), some (.tup (nD vs)), some (.tup (rD rows)), y4, y5, some (.lst (tD lk)), y7, y8, none, none, none, none, none, none]).bind B2__law_gone_right) = some (.nx [some (.lst (iD xs')), some (.int ((p + 1 : Nat) : Int)), some (.tup (nD vs)), some (.tup (rD rows)), y4, y5, some (.lst (tD (lk ++ [h]))), some (.tup (nD r)), z8, none, none, none, none, none, none]) := by
  obtain ⟨a, x1, ha, t1⟩ := take_some xs (p + 1) (by omega)
  have h1 := hole_row r a (by omega)
  have e1 : (a : Int) + 1 = ((a + 1 : Nat) : Int) := by omega
  have f1 : lfs ((nD r).take a) = true := by rw [nD_take]; exact lfs_nD _
  have f2 : lfs ((nD r).drop (a + 1)) = true := by rw [nD_drop]; exact lfs_nD _
  have f3 : lfs ((nD r).take a ++ [D.non]) = true := lfs_append f1 rfl
  have z1 : 1 ≤ sizeLine := by decide
  have z2 : ((nD r).take a).length + 1 ≤ sizeLine := szl (by rw [List.length_take, nD_len]; omega)
  have z3 : ((nD r).take a ++ [D.non]).length + ((nD r).drop (a + 1)).length ≤ sizeLine := szl (by rw [List.length_append, List.length_take, List.length_drop, nD_len]; simp; omega)
  have z4 : lk.length < sizeLine := szl' (by omega)
  have app : ∀ h, tD lk ++ [D.tup (oD h)] = tD (lk ++ [h]) := fun h => by unfold tD; rw [List.map_append]; rfl
  refine ⟨x1, (r.map some).set a none, some (.int (a : Int)), by rw [List.length_set, List.length_map]; exact hr, mnd_hole p a (by omega) r hr hx, ?_⟩
  show B2__law_gone_right [some (.lst (iD xs)), some (.int ((p + 1 : Nat) : Int)), some (.tup (nD vs)), some (.tup (rD rows)), y4, y5, some (.lst (tD lk)), some (.tup (nD r)), y8, none, none, none, none, none, none] = _
  unfold B2__law_gone_right
  refine seq_go (e1 := [some (.lst (iD x1)), some (.int ((p + 1 : Nat) : Int)), some (.tup (nD vs)), some (.tup (rD rows)), y4, y5, some (.lst (tD lk)), some (.tup (nD r)), some (.int (a : Int)), none, none, none, none, none, none]) ?_ ?_
  · simp only [rO, rS, rE, rL, rB, bs, dcT, Bool.and_true, Bool.not_true, Bool.not_false, List.map, List.replicate, List.cons_append, List.nil_append, List.append_nil, List.length_cons, List.length_nil, List.mem_singleton, reduceCtorEq, Nat.reduceAdd, Nat.reduceSub, Nat.reduceLT, iD_len, t1]
  · simp only [rO, rS, rE, rL, rB, bs, dcT, Bool.and_true, Bool.not_true, Bool.not_false, List.map, List.replicate, List.cons_append, List.nil_append, List.append_nil, List.length_cons, List.length_nil, List.mem_singleton, reduceCtorEq, Nat.reduceAdd, Nat.reduceSub, Nat.reduceLT, iD_len, lfs_nD, cut_a, cut_b, e1, f1, f2, f3, z1, z2, z3, h1, tD_len, z4, app]


theorem bent_inner (p : Nat) (hp2 : p ≤ 8) (vs : List Nat) (rows : List (List Nat)) (g r : List Nat) (hr : r.length = p + 1) (xs : List Int) (y4 y5 y6 y8 y9 y10 y12 : Option D) :
    lcL [4] (gN 4) tY (eOp dXor (eOp dIx (eV 7) (eV 4)) (eOp dMul (eC (.int 7)) (eB gInt (aCons (eOp dInA (eV 4) (eV 11)) aNil)))) (rngD 0 1 (p + 1)) [some (.lst (iD xs)), some (.int ((p + 1 : Nat) : Int)), some (.tup (nD vs)), some (.tup (rD rows)), y4, y5, y6, some (.tup (nD r)), y8, y9, y10, some (.tup (nD g)), y12, none, none] = some (nD (bxR g p r), [some (.lst (iD xs)), some (.int ((p + 1 : Nat) : Int)), some (.tup (nD vs)), some (.tup (rD rows)), y4, y5, y6, some (.tup (nD r)), y8, y9, y10, some (.tup (nD g)), y12, none, none]) := by
  have e0 : nD (bxR g p r) = (rngD 0 1 (p + 1)).map fun d => match d with | .int i => .int ((r.getD i.toNat 0 ^^^ (if i.toNat ∈ g then 7 else 0) : Nat) : Int) | d => d := by
    have e1 : rngD 0 1 (p + 1) = (List.range (p + 1)).map (fun i : Nat => D.int (i : Int)) := List.map_congr_left fun i _ => by
      show D.int _ = _
      congr 1
      omega
    rw [e1, List.map_map]
    unfold nD bxR
    rw [List.map_map]
    rfl
  rw [e0]
  refine lcL_map _ _ _ fun d hd => ?_
  obtain ⟨j, hj⟩ := List.getElem?_of_mem hd
  obtain ⟨hjn, rfl⟩ := rng_at hj
  rw [show (0 : Int) + (j : Int) * 1 = (j : Int) by omega]
  have ja : atI (nD r) (j : Int) = some (.int (r.getD j 0 : Int)) := by
    rw [getDe _ _ (by omega)]
    exact atI_nD (List.getElem?_eq_getElem (by omega))
  have i1 := in_nD j g
  have mo : ∀ i : Int, mulOk 7 i = true := fun i => mulOk_l (by decide)
  refine ⟨[some (.lst (iD xs)), some (.int ((p + 1 : Nat) : Int)), some (.tup (nD vs)), some (.tup (rD rows)), some (.int (j : Int)), y5, y6, some (.tup (nD r)), y8, y9, y10, some (.tup (nD g)), y12, none, none], [some (.lst (iD xs)), some (.int ((p + 1 : Nat) : Int)), some (.tup (nD vs)), some (.tup (rD rows)), some (.int (j : Int)), y5, y6, some (.tup (nD r)), y8, y9, y10, some (.tup (nD g)), y12, none, none], rfl, ?_, rfl⟩
  show _ = some (D.int ((r.getD (j : Int).toNat 0 ^^^ (if (j : Int).toNat ∈ g then 7 else 0) : Nat) : Int), _)
  rw [Int.toNat_natCast]
  by_cases h : j ∈ g
  · have e : (7 : Int) * (if true = true then 1 else 0) = ((7 : Nat) : Int) := rfl
    rw [if_pos h]
    simp only [rO, rS, rE, rL, rB, bs, dcT, Bool.and_true, Bool.not_true, Bool.not_false, List.map, List.replicate, List.cons_append, List.nil_append, List.append_nil, List.length_cons, List.length_nil, List.mem_singleton, reduceCtorEq, Nat.reduceAdd, Nat.reduceSub, Nat.reduceLT, iD_len, ja, i1, dtrue h, mo]
    show some (D.int (Builtin.bitXor (r.getD j 0 : Int) ((7 : Nat) : Int)), _) = _
    rw [bx]
  · rw [if_neg h]
    simp only [rO, rS, rE, rL, rB, bs, dcT, Bool.and_true, Bool.not_true, Bool.not_false, List.map, List.replicate, List.cons_append, List.nil_append, List.append_nil, List.length_cons, List.length_nil, List.mem_singleton, reduceCtorEq, Nat.reduceAdd, Nat.reduceSub, Nat.reduceLT, iD_len, ja, i1, dfalse h, mo]
    show some (D.int (Builtin.bitXor (r.getD j 0 : Int) ((0 : Nat) : Int)), _) = _
    rw [bx]
theorem bent_all (p : Nat) (hp2 : p ≤ 8) (vs : List Nat) (rows : List (List Nat)) (hw : ∀ r ∈ rows, r.length = p + 1) (g : List Nat) (xs : List Int) (y4 y5 y6 y7 y8 y9 y10 y12 : Option D) :
    lcL [7] (gN 7) tY (eB gTuple (aCons (eLc [4] (iRng1 (aCons (eV 1) aNil)) (gN 4) tY (eOp dXor (eOp dIx (eV 7) (eV 4)) (eOp dMul (eC (.int 7)) (eB gInt (aCons (eOp dInA (eV 4) (eV 11)) aNil))))) aNil)) (rD rows) [some (.lst (iD xs)), some (.int ((p + 1 : Nat) : Int)), some (.tup (nD vs)), some (.tup (rD rows)), y4, y5, y6, y7, y8, y9, y10, some (.tup (nD g)), y12, none, none] = some (rD (rows.map (bxR g p)), [some (.lst (iD xs)), some (.int ((p + 1 : Nat) : Int)), some (.tup (nD vs)), some (.tup (rD rows)), y4, y5, y6, y7, y8, y9, y10, some (.tup (nD g)), y12, none, none]) := by
  have e0 : rD (rows.map (bxR g p)) = (rD rows).map fun d => match d with | .tup r => .tup (nD (bxR g p (r.map fun d => match d with | .int i => i.toNat | _ => 0))) | d => d := by
    unfold rD
    rw [List.map_map, List.map_map]
    refine List.map_congr_left fun r _ => ?_
    show D.tup (nD (bxR g p r)) = D.tup (nD (bxR g p ((nD r).map _)))
    congr 3
    unfold nD
    rw [List.map_map]
    exact (List.map_id' r).symm
  rw [e0]
  refine lcL_map _ _ _ fun d hd => ?_
  obtain ⟨r, hrr, rfl⟩ := List.mem_map.mp hd
  have er : (nD r).map (fun d => match d with | .int i => i.toNat | _ => 0) = r := by
    unfold nD
    rw [List.map_map]
    exact List.map_id' r
  show ∃ e1 e3, _ ∧ _ = some (D.tup (nD (bxR g p ((nD r).map (fun d => match d with | .int i => i.toNat | _ => 0)))), e3) ∧ _
  rw [er]
  have c1 := bent_inner p hp2 vs rows g r (hw r hrr) xs y4 y5 y6 y8 y9 y10 y12
  have z1 : p + 1 ≤ sizeLine := szl (by omega)
  refine ⟨[some (.lst (iD xs)), some (.int ((p + 1 : Nat) : Int)), some (.tup (nD vs)), some (.tup (rD rows)), y4, y5, y6, some (.tup (nD r)), y8, y9, y10, some (.tup (nD g)), y12, none, none], [some (.lst (iD xs)), some (.int ((p + 1 : Nat) : Int)), some (.tup (nD vs)), some (.tup (rD rows)), y4, y5, y6, some (.tup (nD r)), y8, y9, y10, some (.tup (nD g)), y12, none, none], rfl, ?_, rfl⟩
  simp only [rO, rS, rE, rL, rB, bs, dcT, Bool.and_true, Bool.not_true, Bool.not_false, List.map, List.replicate, List.cons_append, List.nil_append, List.append_nil, List.length_cons, List.length_nil, List.mem_singleton, reduceCtorEq, Nat.reduceAdd, Nat.reduceSub, Nat.reduceLT, iD_len, Int.toNat_natCast, rng_len, z1, c1, lfs_nD]
theorem pair_lost (p : Nat) (hp : 1 ≤ p) (hp2 : p ≤ 100) (g : List Nat) (m : Nat) (e0 e2 e3 e4 e5 e6 e7 e8 e9 e10 e12 e13 e14 : Option D) :
    lcL [8] (gN 8) (tV (eOp dInA (eOp dIx (eCall F_disk_of_value [] [none, none] (aCons (eV 1) (aCons (eV 8) aNil))) (eC (.int 1))) (eV 11))) (eLf (eV 8)) (rngD 0 1 m) [e0, some (.int ((p + 1 : Nat) : Int)), e2, e3, e4, e5, e6, e7, e8, e9, e10, some (.tup (nD g)), e12, e13, e14] = some (((rngD 0 1 m).filter (pl p g)).map fun d => d, [e0, some (.int ((p + 1 : Nat) : Int)), e2, e3, e4, e5, e6, e7, e8, e9, e10, some (.tup (nD g)), e12, e13, e14]) := by
  refine lcL_filter (pl p g) (fun d => d) (rngD 0 1 m) _ fun d hd => ?_
  obtain ⟨j, hj⟩ := List.getElem?_of_mem hd
  obtain ⟨hjn, rfl⟩ := rng_at hj
  rw [show (0 : Int) + (j : Int) * 1 = (j : Int) by omega]
  have dk := disk_ok p hp hp2 j
  have a1 : atI [D.int ((dsk p j).1 : Int), D.int ((dsk p j).2 : Int)] 1 = some (.int ((dsk p j).2 : Int)) := rfl
  have i1 := in_nD (dsk p j).2 g
  unfold dkD at dk
  refine ⟨[e0, some (.int ((p + 1 : Nat) : Int)), e2, e3, e4, e5, e6, e7, some (.int (j : Int)), e9, e10, some (.tup (nD g)), e12, e13, e14], [e0, some (.int ((p + 1 : Nat) : Int)), e2, e3, e4, e5, e6, e7, some (.int (j : Int)), e9, e10, some (.tup (nD g)), e12, e13, e14], rfl, ?_, rfl, fun _ => ⟨[e0, some (.int ((p + 1 : Nat) : Int)), e2, e3, e4, e5, e6, e7, some (.int (j : Int)), e9, e10, some (.tup (nD g)), e12, e13, e14], ?_, rfl⟩⟩
  · simp only [rO, rS, rE, rL, rB, bs, dcT, Bool.and_true, Bool.not_true, Bool.not_false, List.map, List.replicate, List.cons_append, List.nil_append, List.append_nil, List.length_cons, List.length_nil, List.mem_singleton, reduceCtorEq, Nat.reduceAdd, Nat.reduceSub, Nat.reduceLT, iD_len, dk, a1, i1]
    rfl
  · simp only [rO, rS, rE, rL, rB, bs, dcT, Bool.and_true, Bool.not_true, Bool.not_false, List.map, List.replicate, List.cons_append, List.nil_append, List.append_nil, List.length_cons, List.length_nil, List.mem_singleton, reduceCtorEq, Nat.reduceAdd, Nat.reduceSub, Nat.reduceLT, iD_len, ]


theorem gone_ok (p : Nat) (hp : 1 ≤ p) (hp2 : p ≤ 8) (vs : List Nat) (hv : vs.length ≤ 500) (rows : List (List Nat)) (R : Rows p vs rows) (xs : List Int) : ∃ xs', F__law_gone_right [.lst (iD xs), .int ((p + 1 : Nat) : Int), .tup (nD vs), .tup (rD rows)] = some (.bl true, [.lst (iD xs'), .int ((p + 1 : Nat) : Int), .tup (nD vs), .tup (rD rows)]) := by
  have e1' : ((p + 1 : Nat) : Int) - 1 = (p : Int) := by omega
  -- each disk
  obtain ⟨ea, a1, y4, y5, a2⟩ := forL_rel (t := gN 4) (b := B1__law_gone_right) (ds := rngD 0 1 (p + 1)) (e := [some (.lst (iD xs)), some (.int ((p + 1 : Nat) : Int)), some (.tup (nD vs)), some (.tup (rD rows)), none, none, none, none, none, none, none, none, none, none, none]) (fun j e => ∃ y4 y5, e = [some (.lst (iD xs)), some (.int ((p + 1 : Nat) : Int)), some (.tup (nD vs)), some (.tup (rD rows)), y4, y5, none, none, none, none, none, none, none, none, none]) ⟨none, none, rfl⟩ fun j d e hj ⟨y4, y5, he⟩ => by
    obtain ⟨hjn, rfl⟩ := rng_at hj
    subst he
    rw [show (0 : Int) + (j : Int) * 1 = (j : Int) by omega]
    obtain ⟨z5, h⟩ := disk_gone p hp hp2 vs rows R j (by omega) xs y4 y5
    exact ⟨_, h, some (.int (j : Int)), z5, rfl⟩
  subst a2
  -- one of each row
  obtain ⟨eb, b1, x1, lk, y7, y8, l1, l2, l3, b2⟩ := forL_rel (t := gN 7) (b := B2__law_gone_right) (ds := rD rows) (e := [some (.lst (iD xs)), some (.int ((p + 1 : Nat) : Int)), some (.tup (nD vs)), some (.tup (rD rows)), y4, y5, some (.lst []), none, none, none, none, none, none, none, none]) (fun j e => ∃ xs' lk y7 y8, lk.length = min j rows.length ∧ lk.map mnd = rD (rows.take j) ∧ (∀ h ∈ lk, h.length = p + 1) ∧ e = [some (.lst (iD xs')), some (.int ((p + 1 : Nat) : Int)), some (.tup (nD vs)), some (.tup (rD rows)), y4, y5, some (.lst (tD lk)), y7, y8, none, none, none, none, none, none])
    ⟨xs, [], none, none, by rw [Nat.zero_min]; rfl, rfl, fun _ z => (nomatch z), rfl⟩ fun j d e hj ⟨xs', lk, y7, y8, l1, l2, l3, he⟩ => by
    subst he
    unfold rD at hj
    rw [List.getElem?_map] at hj
    cases hr : rows[j]? with
    | none => rw [hr] at hj; cases hj
    | some r =>
      rw [hr] at hj
      cases hj
      have hm := List.mem_of_getElem? hr
      have hjl := (List.getElem?_eq_some_iff.mp hr).1
      have rl := R.len
      obtain ⟨x2, h, z8, h1, h2, h3⟩ := hole_turn p hp2 vs rows r (R.wide r hm) (R.zero r hm) xs' lk (by omega) y4 y5 y7 y8
      refine ⟨_, h3, x2, lk ++ [h], some (.tup (nD r)), z8, by rw [List.length_append]; simp; omega, ?_, fun q hq => ?_, rfl⟩
      · rw [List.map_append, l2, List.take_add_one, hr]
        unfold rD
        rw [List.map_append]
        show _ ++ [mnd h] = _
        rw [h2]
        rfl
      · rcases List.mem_append.mp hq with z | z
        · exact l3 q z
        · rw [List.mem_singleton] at z; subst z; exact h1
  subst b2
  rw [rD_len] at l1 l2
  rw [List.take_of_length_le (Nat.le_refl _)] at l2
  have rl := R.len
  have m1 := mended_ok (.int ((p + 1 : Nat) : Int)) lk (by omega) fun r hr => by rw [l3 r hr]; omega
  rw [l2] at m1
  have s1 := same_ok (d := .tup (rD rows)) Pl.rD
  -- two disks
  obtain ⟨a, x2, ha, t1⟩ := take_some x1 (p + 1) (by omega)
  obtain ⟨c, x3, hc, t2⟩ := take_some x2 p (by omega)
  obtain ⟨b, hb⟩ : ∃ b, b = (a + 1 + c) % (p + 1) := ⟨_, rfl⟩
  have hbp : b ≤ p := by have := Nat.mod_lt (a + 1 + c) (show 0 < p + 1 by omega); omega
  have hab : a ≠ b := by
    intro e
    by_cases h : a + 1 + c < p + 1
    · rw [Nat.mod_eq_of_lt h] at hb; omega
    · have e2 : a + 1 + c = (a + c - p) + (p + 1) := by omega
      rw [e2, Nat.add_mod_right, Nat.mod_eq_of_lt (by omega)] at hb
      omega
  have em : (if 0 < ((p + 1 : Nat) : Int) then some (D.int (((a : Int) + 1 + (c : Int)) % ((p + 1 : Nat) : Int))) else none) = some (D.int (b : Int)) := by
    rw [if_pos (by omega), hb, Int.natCast_emod]
    congr 2
  obtain ⟨j, k, hjk, hne, hj, hk⟩ := srt_two hab
  have so := srt_ok a b
  rw [hjk] at so
  have hjp : j ≤ p := by omega
  have hkp : k ≤ p := by omega
  have wd : ∀ r ∈ rows, r.length ≤ 1000 := fun r hr => by rw [R.wide r hr]; omega
  have w1 := without_ok [j, k] rows R.len wd
  have m2 := mended_ok (.int ((p + 1 : Nat) : Int)) (rows.map (woR [j, k])) (by rw [List.length_map]; exact R.len) fun r hr => by
    obtain ⟨q, hq, rfl⟩ := List.mem_map.mp hr
    rw [woR_len]
    exact wd q hq
  have mm : (rows.map (woR [j, k])).map mnd = tD (rows.map (woR [j, k])) := by
    unfold tD
    rw [List.map_map, List.map_map]
    exact List.map_congr_left fun r hr => mnd_two p j k hne hjp hkp r (R.wide r hr)
  rw [mm] at m2
  have pi : Pi 12 (.tup (tD (rows.map (woR [j, k])))) := .tup fun d hd => by
    obtain ⟨q, _, rfl⟩ := List.mem_map.mp hd
    refine .tup fun d hd => ?_
    rcases oD_mem hd with rfl | ⟨i, rfl⟩
    · exact .non
    · exact .int _
  have s2 := same_ok pi.pl
  have n1 := ne_refl pi (by decide)
  -- both altered alike
  have c1 := bent_all p hp2 vs rows R.wide [j, k] x3 y4 y5 (some (.lst (tD lk))) y7 y8 (some (.int (a : Int))) (some (.int (b : Int))) (some (.tup (tD (rows.map (woR [j, k])))))
  have bw : ∀ r ∈ rows.map (bxR [j, k] p), r.length ≤ 1000 := fun r hr => by
    obtain ⟨q, _, rfl⟩ := List.mem_map.mp hr
    unfold bxR
    rw [List.length_map, List.length_range]
    omega
  have w2 := without_ok [j, k] (rows.map (bxR [j, k] p)) (by rw [List.length_map]; exact R.len) bw
  have wb : (rows.map (bxR [j, k] p)).map (woR [j, k]) = rows.map (woR [j, k]) := by
    rw [List.map_map]
    exact List.map_congr_left fun r hr => wo_bx [j, k] p r (R.wide r hr)
  rw [wb] at w2
  have wh := whole_ok (rows.map (bxR [j, k] p)) (by rw [List.length_map]; exact R.len)
  have bn : badL (rows.map (bxR [j, k] p)) = [] := by
    unfold badL
    refine List.filter_eq_nil_iff.mpr fun s hs => ?_
    have hs' : s < (rows.map (bxR [j, k] p)).length := List.mem_range.mp hs
    rw [getDe _ _ hs', List.getElem_map]
    rw [List.length_map] at hs'
    rw [xr_bx p j k hne hjp hkp _ (R.wide _ (List.getElem_mem hs')) (R.zero _ (List.getElem_mem hs'))]
    decide
  rw [bn] at wh
  have wh' : F_is_whole_row [.tup (rD (rows.map (bxR [j, k] p)))] = some (.bl true, [.tup (rD (rows.map (bxR [j, k] p)))]) := wh
  have s3 := same_ok (d := .bl true) (.bl true)
  -- what the two lose
  have c2 := pair_lost p hp (by omega) [j, k] vs.length (some (.lst (iD x3))) (some (.tup (nD vs))) (some (.tup (rD rows))) y4 y5 (some (.lst (tD lk))) y7 y8 (some (.int (a : Int))) (some (.int (b : Int))) (some (.tup (tD (rows.map (woR [j, k]))))) (some (.tup (rD (rows.map (bxR [j, k] p))))) none
  have k1 := lost_ok p hp hp2 [j, k] vs.length
  rw [CL_eq p hp [j, k] vs.length (by simp)] at k1
  have s4 := same_ok (d := .int (LA p [j, k] vs.length : Int)) (.int _)
  have z0 : 0 ≤ sizeLine := Nat.zero_le _
  have z2 : 2 ≤ sizeLine := by decide
  have zr : rows.length ≤ sizeLine := szl (by omega)
  have zv : vs.length ≤ sizeLine := szl (by omega)
  refine ⟨x3, ?_⟩
  unfold F__law_gone_right
  refine run_mu ⟨rfl, rfl⟩ (e := [some (.lst (iD x3)), some (.int ((p + 1 : Nat) : Int)), some (.tup (nD vs)), some (.tup (rD rows)), y4, y5, some (.lst (tD lk)), y7, y8, some (.int (a : Int)), some (.int (b : Int)), some (.tup (nD [j, k])), some (.tup (tD (rows.map (woR [j, k])))), some (.tup (rD (rows.map (bxR [j, k] p)))), some (.int (LA p [j, k] vs.length : Int))]) ?_ (by decide) rfl
  unfold G__law_gone_right
  refine seq_go (for_go (ds := rngD 0 1 (p + 1)) (e1 := [some (.lst (iD xs)), some (.int ((p + 1 : Nat) : Int)), some (.tup (nD vs)), some (.tup (rD rows)), none, none, none, none, none, none, none, none, none, none, none]) ?_ (lfs_rng _ _ _) a1) (seq_go (e1 := [some (.lst (iD xs)), some (.int ((p + 1 : Nat) : Int)), some (.tup (nD vs)), some (.tup (rD rows)), y4, y5, some (.lst []), none, none, none, none, none, none, none, none]) ?_ (seq_go (for_go (ds := rD rows) (e1 := [some (.lst (iD xs)), some (.int ((p + 1 : Nat) : Int)), some (.tup (nD vs)), some (.tup (rD rows)), y4, y5, some (.lst []), none, none, none, none, none, none, none, none]) ?_ (lfs_rD _) b1) (seq_go (e1 := [some (.lst (iD x1)), some (.int ((p + 1 : Nat) : Int)), some (.tup (nD vs)), some (.tup (rD rows)), y4, y5, some (.lst (tD lk)), y7, y8, none, none, none, none, none, none]) ?_ (seq_go (e1 := [some (.lst (iD x2)), some (.int ((p + 1 : Nat) : Int)), some (.tup (nD vs)), some (.tup (rD rows)), y4, y5, some (.lst (tD lk)), y7, y8, some (.int (a : Int)), none, none, none, none, none]) ?_ (seq_go (e1 := [some (.lst (iD x3)), some (.int ((p + 1 : Nat) : Int)), some (.tup (nD vs)), some (.tup (rD rows)), y4, y5, some (.lst (tD lk)), y7, y8, some (.int (a : Int)), some (.int (b : Int)), none, none, none, none]) ?_ (seq_go (e1 := [some (.lst (iD x3)), some (.int ((p + 1 : Nat) : Int)), some (.tup (nD vs)), some (.tup (rD rows)), y4, y5, some (.lst (tD lk)), y7, y8, some (.int (a : Int)), some (.int (b : Int)), some (.tup (nD [j, k])), none, none, none]) ?_ (seq_go (e1 := [some (.lst (iD x3)), some (.int ((p + 1 : Nat) : Int)), some (.tup (nD vs)), some (.tup (rD rows)), y4, y5, some (.lst (tD lk)), y7, y8, some (.int (a : Int)), some (.int (b : Int)), some (.tup (nD [j, k])), some (.tup (tD (rows.map (woR [j, k])))), none, none]) ?_ (seq_go (e1 := [some (.lst (iD x3)), some (.int ((p + 1 : Nat) : Int)), some (.tup (nD vs)), some (.tup (rD rows)), y4, y5, some (.lst (tD lk)), y7, y8, some (.int (a : Int)), some (.int (b : Int)), some (.tup (nD [j, k])), some (.tup (tD (rows.map (woR [j, k])))), none, none]) ?_ (seq_go (e1 := [some (.lst (iD x3)), some (.int ((p + 1 : Nat) : Int)), some (.tup (nD vs)), some (.tup (rD rows)), y4, y5, some (.lst (tD lk)), y7, y8, some (.int (a : Int)), some (.int (b : Int)), some (.tup (nD [j, k])), some (.tup (tD (rows.map (woR [j, k])))), some (.tup (rD (rows.map (bxR [j, k] p)))), none]) ?_ (seq_go (e1 := [some (.lst (iD x3)), some (.int ((p + 1 : Nat) : Int)), some (.tup (nD vs)), some (.tup (rD rows)), y4, y5, some (.lst (tD lk)), y7, y8, some (.int (a : Int)), some (.int (b : Int)), some (.tup (nD [j, k])), some (.tup (tD (rows.map (woR [j, k])))), some (.tup (rD (rows.map (bxR [j, k] p)))), none]) ?_ (seq_go (e1 := [some (.lst (iD x3)), some (.int ((p + 1 : Nat) : Int)), some (.tup (nD vs)), some (.tup (rD rows)), y4, y5, some (.lst (tD lk)), y7, y8, some (.int (a : Int)), some (.int (b : Int)), some (.tup (nD [j, k])), some (.tup (tD (rows.map (woR [j, k])))), some (.tup (rD (rows.map (bxR [j, k] p)))), some (.int (LA p [j, k] vs.length : Int))]) ?_ ?_)))))))))))
  · simp only [rO, rS, rE, rL, rB, bs, dcT, Bool.and_true, Bool.not_true, Bool.not_false, List.map, List.replicate, List.cons_append, List.nil_append, List.append_nil, List.length_cons, List.length_nil, List.mem_singleton, reduceCtorEq, Nat.reduceAdd, Nat.reduceSub, Nat.reduceLT, iD_len, Int.toNat_natCast]
  · simp only [rO, rS, rE, rL, rB, bs, dcT, Bool.and_true, Bool.not_true, Bool.not_false, List.map, List.replicate, List.cons_append, List.nil_append, List.append_nil, List.length_cons, List.length_nil, List.mem_singleton, reduceCtorEq, Nat.reduceAdd, Nat.reduceSub, Nat.reduceLT, iD_len, z0]
  · simp only [rO, rS, rE, rL, rB, bs, dcT, Bool.and_true, Bool.not_true, Bool.not_false, List.map, List.replicate, List.cons_append, List.nil_append, List.append_nil, List.length_cons, List.length_nil, List.mem_singleton, reduceCtorEq, Nat.reduceAdd, Nat.reduceSub, Nat.reduceLT, iD_len, ]
  · simp only [rO, rS, rE, rL, rB, bs, dcT, Bool.and_true, Bool.not_true, Bool.not_false, List.map, List.replicate, List.cons_append, List.nil_append, List.append_nil, List.length_cons, List.length_nil, List.mem_singleton, reduceCtorEq, Nat.reduceAdd, Nat.reduceSub, Nat.reduceLT, iD_len, lfs_tD, m1, s1]
  · simp only [rO, rS, rE, rL, rB, bs, dcT, Bool.and_true, Bool.not_true, Bool.not_false, List.map, List.replicate, List.cons_append, List.nil_append, List.append_nil, List.length_cons, List.length_nil, List.mem_singleton, reduceCtorEq, Nat.reduceAdd, Nat.reduceSub, Nat.reduceLT, iD_len, t1]
  · simp only [rO, rS, rE, rL, rB, bs, dcT, Bool.and_true, Bool.not_true, Bool.not_false, List.map, List.replicate, List.cons_append, List.nil_append, List.append_nil, List.length_cons, List.length_nil, List.mem_singleton, reduceCtorEq, Nat.reduceAdd, Nat.reduceSub, Nat.reduceLT, iD_len, e1', t2, em]
  · simp only [rO, rS, rE, rL, rB, bs, dcT, Bool.and_true, Bool.not_true, Bool.not_false, List.map, List.replicate, List.cons_append, List.nil_append, List.append_nil, List.length_cons, List.length_nil, List.mem_singleton, reduceCtorEq, Nat.reduceAdd, Nat.reduceSub, Nat.reduceLT, iD_len, z2, so, lfs_nD]
  · simp only [rO, rS, rE, rL, rB, bs, dcT, Bool.and_true, Bool.not_true, Bool.not_false, List.map, List.replicate, List.cons_append, List.nil_append, List.append_nil, List.length_cons, List.length_nil, List.mem_singleton, reduceCtorEq, Nat.reduceAdd, Nat.reduceSub, Nat.reduceLT, iD_len, w1]
  · simp only [rO, rS, rE, rL, rB, bs, dcT, Bool.and_true, Bool.not_true, Bool.not_false, List.map, List.replicate, List.cons_append, List.nil_append, List.append_nil, List.length_cons, List.length_nil, List.mem_singleton, reduceCtorEq, Nat.reduceAdd, Nat.reduceSub, Nat.reduceLT, iD_len, m2, s2]
  · simp only [rO, rS, rE, rL, rB, bs, dcT, Bool.and_true, Bool.not_true, Bool.not_false, List.map, List.replicate, List.cons_append, List.nil_append, List.append_nil, List.length_cons, List.length_nil, List.mem_singleton, reduceCtorEq, Nat.reduceAdd, Nat.reduceSub, Nat.reduceLT, iD_len, rD_len, zr, c1, lfs_rD]
  · simp only [rO, rS, rE, rL, rB, bs, dcT, Bool.and_true, Bool.not_true, Bool.not_false, List.map, List.replicate, List.cons_append, List.nil_append, List.append_nil, List.length_cons, List.length_nil, List.mem_singleton, reduceCtorEq, Nat.reduceAdd, Nat.reduceSub, Nat.reduceLT, iD_len, wh', s3, w2, n1]
  · simp only [rO, rS, rE, rL, rB, bs, dcT, Bool.and_true, Bool.not_true, Bool.not_false, List.map, List.replicate, List.cons_append, List.nil_append, List.append_nil, List.length_cons, List.length_nil, List.mem_singleton, reduceCtorEq, Nat.reduceAdd, Nat.reduceSub, Nat.reduceLT, iD_len, nD_len, Int.toNat_natCast, rng_len, zv, c2, LA_rng]
  · simp only [rO, rS, rE, rL, rB, bs, dcT, Bool.and_true, Bool.not_true, Bool.not_false, List.map, List.replicate, List.cons_append, List.nil_append, List.append_nil, List.length_cons, List.length_nil, List.mem_singleton, reduceCtorEq, Nat.reduceAdd, Nat.reduceSub, Nat.reduceLT, iD_len, nD_len, k1, s4]


/-! ### rows number by number -/
def ch (p : Nat) (vs : List Nat) (s : Nat) : List Nat := (List.range p).map fun j => vs.getD (s * p + j) 0
def el (p : Nat) (vs : List Nat) (s d : Nat) : Nat := if d = s % (p + 1) then xr (ch p vs s) else vs.getD (s * p + (if d < s % (p + 1) then d else d - 1)) 0
theorem getD_none (vs : List Nat) {i : Nat} (h : vs.length ≤ i) : vs.getD i 0 = 0 := by
  rw [List.getD_eq_getElem?_getD, List.getElem?_eq_none h]
  rfl
theorem pad_ch (p : Nat) (vs : List Nat) (s : Nat) : pad p (chk p vs s) = ch p vs s := by
  refine List.ext_getElem? fun j => ?_
  unfold ch
  by_cases hj : j < p
  · rw [List.getElem?_map, List.getElem?_range hj]
    show _ = some (vs.getD (s * p + j) 0)
    unfold pad
    by_cases h : j < (chk p vs s).length
    · have hl : s * p + j < vs.length := by
        unfold chk at h
        rw [List.length_take, List.length_drop] at h
        omega
      rw [List.getElem?_append_left h, getDe _ _ hl]
      unfold chk
      rw [List.getElem?_take, if_pos hj, List.getElem?_drop, List.getElem?_eq_getElem hl]
    · have hl : vs.length ≤ s * p + j := by
        unfold chk at h
        rw [List.length_take, List.length_drop] at h
        omega
      rw [List.getElem?_append_right (by omega), getD_none _ hl, List.getElem?_replicate, if_pos (by omega)]
  · rw [List.getElem?_eq_none (by rw [pad_len (chk_len p vs s)]; omega), List.getElem?_eq_none (by rw [List.length_map, List.length_range]; omega)]
theorem ch_len (p : Nat) (vs : List Nat) (s : Nat) : (ch p vs s).length = p := by unfold ch; rw [List.length_map, List.length_range]
theorem ch_at (p : Nat) (vs : List Nat) (s : Nat) {j : Nat} (h : j < p) : (ch p vs s)[j]? = some (vs.getD (s * p + j) 0) := by
  unfold ch
  rw [List.getElem?_map, List.getElem?_range h]
  rfl
theorem Rw_el (p : Nat) (vs : List Nat) (s : Nat) : Rw p s (pad p (chk p vs s)) = (List.range (p + 1)).map (el p vs s) := by
  rw [pad_ch]
  have hm : s % (p + 1) < p + 1 := Nat.mod_lt _ (by omega)
  have hl := ch_len p vs s
  refine List.ext_getElem? fun d => ?_
  by_cases hd : d < p + 1
  · rw [List.getElem?_map, List.getElem?_range hd]
    show _ = some (el p vs s d)
    unfold Rw el
    have tl : ((ch p vs s).take (s % (p + 1))).length = s % (p + 1) := by rw [List.length_take]; omega
    by_cases h1 : d = s % (p + 1)
    · rw [if_pos h1, List.append_assoc, List.getElem?_append_right (by omega), tl, h1, Nat.sub_self]
      rfl
    · rw [if_neg h1]
      by_cases h2 : d < s % (p + 1)
      · rw [if_pos h2, List.append_assoc, List.getElem?_append_left (by omega), List.getElem?_take, if_pos h2]
        exact ch_at p vs s (by omega)
      · rw [if_neg h2, List.getElem?_append_right (by rw [List.length_append, tl]; simp; omega), List.length_append, tl, List.getElem?_drop]
        show (ch p vs s)[s % (p + 1) + (d - (s % (p + 1) + 1))]? = _
        rw [show s % (p + 1) + (d - (s % (p + 1) + 1)) = d - 1 by omega]
        exact ch_at p vs s (by omega)
  · rw [List.getElem?_eq_none (by rw [Rw_len p s _ hl]; omega), List.getElem?_eq_none (by rw [List.length_map, List.length_range]; omega)]
theorem rows_el (p : Nat) (vs : List Nat) : rowsOf p vs = (List.range (nch p vs)).map fun s => (List.range (p + 1)).map (el p vs s) := by
  unfold rowsOf
  exact List.map_congr_left fun s _ => Rw_el p vs s
/-- sums, number by number -/
theorem el_sum (p : Nat) (a b c : List Nat) (h : ∀ i, c.getD i 0 = a.getD i 0 ^^^ b.getD i 0) (s d : Nat) : el p c s d = el p a s d ^^^ el p b s d := by
  unfold el
  by_cases h1 : d = s % (p + 1)
  · rw [if_pos h1, if_pos h1, if_pos h1]
    unfold ch
    rw [← xr_two (fun j => a.getD (s * p + j) 0) (fun j => b.getD (s * p + j) 0)]
    congr 1
    exact List.map_congr_left fun j _ => h _
  · rw [if_neg h1, if_neg h1, if_neg h1, h]
/-- what stays as it was -/
theorem el_same (p : Nat) (a b : List Nat) (s d : Nat) (h1 : d = s % (p + 1) → ∀ j, j < p → a.getD (s * p + j) 0 = b.getD (s * p + j) 0) (h2 : d ≠ s % (p + 1) → a.getD (s * p + (if d < s % (p + 1) then d else d - 1)) 0 = b.getD (s * p + (if d < s % (p + 1) then d else d - 1)) 0) : el p a s d = el p b s d := by
  unfold el
  by_cases h : d = s % (p + 1)
  · rw [if_pos h, if_pos h]
    congr 1
    exact List.map_congr_left fun j hj => h1 h j (List.mem_range.mp hj)
  · rw [if_neg h, if_neg h]
    exact h2 h
theorem rows_get (p : Nat) (vs : List Nat) {s d : Nat} (hs : s < nch p vs) (hd : d ≤ p) : ∃ r, (rowsOf p vs)[s]? = some r ∧ r[d]? = some (el p vs s d) := by
  refine ⟨(List.range (p + 1)).map (el p vs s), ?_, ?_⟩
  · rw [rows_el, List.getElem?_map, List.getElem?_range hs]
    rfl
  · rw [List.getElem?_map, List.getElem?_range (by omega)]
    rfl
/-! ### dicts of pairs -/
def kP (l : List (Nat × Nat)) : List (List Key × D) := l.map fun x => ([.inl (x.1 : Int), .inl (x.2 : Int)], .bl true)
def insP (l : List (Nat × Nat)) (x : Nat × Nat) : List (Nat × Nat) := if x ∈ l then l else l ++ [x]
def kyP (x : Nat × Nat) : List Key := [.inl (x.1 : Int), .inl (x.2 : Int)]
theorem kyP_inj {x y : Nat × Nat} (h : kyP x = kyP y) : x = y := by
  unfold kyP at h
  injection h with h1 h2
  injection h2 with h2 _
  have a := Sum.inl.inj h1
  have b := Sum.inl.inj h2
  exact Prod.ext (by omega) (by omega)
theorem kP_len (l : List (Nat × Nat)) : (kP l).length = l.length := List.length_map _
theorem kP_val (l : List (Nat × Nat)) (x : Nat × Nat) : (valD (kP l) (kyP x)).isSome = decide (x ∈ l) := by
  induction l with
  | nil => rfl
  | cons y l ih =>
    unfold valD at ih ⊢
    show (Option.map _ (List.find? _ ((kyP y, D.bl true) :: kP l))).isSome = _
    by_cases h : kyP y = kyP x
    · rw [List.find?_cons_of_pos (by simpa using h), dtrue (show x ∈ y :: l by rw [kyP_inj h]; exact List.mem_cons_self)]
      rfl
    · have hne : x ≠ y := fun e => h (by rw [e])
      rw [List.find?_cons_of_neg (by simpa using h), ih]
      by_cases h2 : x ∈ l
      · rw [dtrue h2, dtrue (List.mem_cons_of_mem _ h2)]
      · rw [dfalse h2, dfalse (fun z => (List.mem_cons.mp z).elim hne h2)]
theorem kP_put (l : List (Nat × Nat)) (x : Nat × Nat) : putD (kP l) (kyP x) (.bl true) = kP (insP l x) := by
  have ha : (kP l).any (fun kv => decide (kv.1 = kyP x)) = decide (x ∈ l) := by
    by_cases h : x ∈ l
    · rw [dtrue h]
      exact List.any_eq_true.mpr ⟨_, List.mem_map.mpr ⟨x, h, rfl⟩, by exact decide_eq_true rfl⟩
    · rw [dfalse h]
      refine List.any_eq_false.mpr fun kv hkv => ?_
      obtain ⟨y, hy, rfl⟩ := List.mem_map.mp hkv
      rw [decide_eq_true_eq]
      exact fun e => h (by rw [← kyP_inj (x := y) (y := x) e]; exact hy)
  unfold putD insP
  rw [ha]
  by_cases h : x ∈ l
  · rw [dtrue h, if_pos rfl, if_pos h]
    refine (List.map_congr_left fun kv hkv => ?_).trans (List.map_id' _)
    obtain ⟨y, hy, rfl⟩ := List.mem_map.mp hkv
    show (if _ then _ else _) = _
    split
    · rfl
    · rfl
  · rw [dfalse h, if_neg Bool.false_ne_true, if_neg h]
    unfold kP
    rw [List.map_append]
    rfl

/-! ### what is written -/
def pr (p k : Nat) : Nat × Nat := (k / p, k / p % (p + 1))
def Wt (p a : Nat) : Nat → List (Nat × Nat)
  | 0 => []
  | t + 1 => insP (insP (Wt p a t) (dsk p (a + t))) (pr p (a + t))
def St (p a : Nat) : Nat → List Nat
  | 0 => []
  | t + 1 => if (a + t) / p ∈ St p a t then St p a t else St p a t ++ [(a + t) / p]
theorem mem_insP {l : List (Nat × Nat)} {x y : Nat × Nat} : y ∈ insP l x ↔ y ∈ l ∨ y = x := by
  unfold insP
  split
  · rename_i h
    exact ⟨.inl, fun z => z.elim id fun e => e ▸ h⟩
  · rw [List.mem_append, List.mem_singleton]
theorem mem_Wt (p a : Nat) (x : Nat × Nat) : ∀ t, x ∈ Wt p a t ↔ ∃ i, i < t ∧ (x = dsk p (a + i) ∨ x = pr p (a + i))
  | 0 => ⟨fun h => (nomatch h), fun ⟨i, h, _⟩ => (nomatch h)⟩
  | t + 1 => by
    show x ∈ insP (insP (Wt p a t) (dsk p (a + t))) (pr p (a + t)) ↔ _
    rw [mem_insP, mem_insP, mem_Wt p a x t]
    constructor
    · rintro ((⟨i, h1, h2⟩ | h) | h)
      · exact ⟨i, by omega, h2⟩
      · exact ⟨t, by omega, .inl h⟩
      · exact ⟨t, by omega, .inr h⟩
    · rintro ⟨i, h1, h2⟩
      by_cases e : i = t
      · subst e
        rcases h2 with h2 | h2
        · exact .inl (.inr h2)
        · exact .inr h2
      · exact .inl (.inl ⟨i, by omega, h2⟩)
theorem mem_St (p a s : Nat) : ∀ t, s ∈ St p a t ↔ ∃ i, i < t ∧ s = (a + i) / p
  | 0 => ⟨fun h => (nomatch h), fun ⟨i, h, _⟩ => (nomatch h)⟩
  | t + 1 => by
    have ih := mem_St p a s t
    have go : (∃ i, i < t + 1 ∧ s = (a + i) / p) ↔ s ∈ St p a t ∨ s = (a + t) / p := by
      rw [ih]
      constructor
      · rintro ⟨i, h1, h2⟩
        by_cases e : i = t
        · subst e; exact .inr h2
        · exact .inl ⟨i, by omega, h2⟩
      · rintro (⟨i, h1, h2⟩ | h)
        · exact ⟨i, by omega, h2⟩
        · exact ⟨t, by omega, h⟩
    rw [go]
    show s ∈ (if _ then _ else _) ↔ _
    split
    · rename_i h
      exact ⟨.inl, fun z => z.elim id fun e => e ▸ h⟩
    · rw [List.mem_append, List.mem_singleton]
theorem dsk_pr (p k k' : Nat) : dsk p k ≠ pr p k' := fun e => by
  unfold dsk pr at e
  have h1 : k / p = k' / p := congrArg Prod.fst e
  have h2 : k % p + (if k / p % (p + 1) ≤ k % p then 1 else 0) = k' / p % (p + 1) := congrArg Prod.snd e
  rw [← h1] at h2
  split at h2 <;> omega
theorem dsk_inj (p k k' : Nat) (e : dsk p k = dsk p k') : k = k' := by
  unfold dsk at e
  have h1 : k / p = k' / p := congrArg Prod.fst e
  have h2 : k % p + (if k / p % (p + 1) ≤ k % p then 1 else 0) = k' % p + (if k' / p % (p + 1) ≤ k' % p then 1 else 0) := congrArg Prod.snd e
  rw [← h1] at h2
  have h3 : k % p = k' % p := by split at h2 <;> split at h2 <;> omega
  rw [← Nat.div_add_mod k p, ← Nat.div_add_mod k' p, h1, h3]
theorem Wt_len (p a : Nat) : ∀ t, (Wt p a t).length = t + (St p a t).length
  | 0 => rfl
  | t + 1 => by
    have ih := Wt_len p a t
    have n1 : dsk p (a + t) ∉ Wt p a t := fun h => by
      obtain ⟨i, h1, h2 | h2⟩ := (mem_Wt p a _ t).mp h
      · have := dsk_inj p _ _ h2; omega
      · exact dsk_pr p _ _ h2
    have e1 : insP (Wt p a t) (dsk p (a + t)) = Wt p a t ++ [dsk p (a + t)] := if_neg n1
    have n2 : pr p (a + t) ∈ insP (Wt p a t) (dsk p (a + t)) ↔ (a + t) / p ∈ St p a t := by
      rw [mem_insP, mem_Wt, mem_St]
      constructor
      · rintro (⟨i, h1, h2 | h2⟩ | h)
        · exact absurd h2.symm (dsk_pr p _ _)
        · exact ⟨i, h1, congrArg Prod.fst h2⟩
        · exact absurd h.symm (dsk_pr p _ _)
      · rintro ⟨i, h1, h2⟩
        refine .inl ⟨i, h1, .inr ?_⟩
        unfold pr
        rw [h2]
    show (insP (insP (Wt p a t) (dsk p (a + t))) (pr p (a + t))).length = t + 1 + (if (a + t) / p ∈ St p a t then St p a t else St p a t ++ [(a + t) / p]).length
    by_cases h : (a + t) / p ∈ St p a t
    · rw [if_pos h]
      have e2 : insP (insP (Wt p a t) (dsk p (a + t))) (pr p (a + t)) = insP (Wt p a t) (dsk p (a + t)) := if_pos (n2.mpr h)
      rw [e2, e1, List.length_append, ih]
      simp
      omega
    · rw [if_neg h]
      have e2 : insP (insP (Wt p a t) (dsk p (a + t))) (pr p (a + t)) = insP (Wt p a t) (dsk p (a + t)) ++ [pr p (a + t)] := if_neg fun z => h (n2.mp z)
      rw [e2, e1, List.length_append, List.length_append, List.length_append, ih]
      simp
      omega
theorem put_keys {κ : Type} [DecidableEq κ] (l : List (κ × D)) (k : κ) (d : D) : (putD l k d).map (·.1) = if k ∈ l.map (·.1) then l.map (·.1) else l.map (·.1) ++ [k] := by
  have ha : (l.any fun kv => decide (kv.1 = k)) = decide (k ∈ l.map (·.1)) := by
    by_cases h : k ∈ l.map (·.1)
    · rw [dtrue h]
      obtain ⟨kv, h1, h2⟩ := List.mem_map.mp h
      exact List.any_eq_true.mpr ⟨kv, h1, by rw [decide_eq_true_eq]; exact h2⟩
    · rw [dfalse h]
      refine List.any_eq_false.mpr fun kv hkv => ?_
      rw [decide_eq_true_eq]
      exact fun e => h (List.mem_map.mpr ⟨kv, hkv, e⟩)
  unfold putD
  rw [ha]
  by_cases h : k ∈ l.map (·.1)
  · rw [dtrue h, if_pos rfl, if_pos h, List.map_map]
    refine List.map_congr_left fun kv _ => ?_
    show (if kv.1 = k then (kv.1, d) else kv).1 = kv.1
    split <;> rfl
  · rw [dfalse h, if_neg Bool.false_ne_true, if_neg h, List.map_append]
    rfl
theorem kd_St (p a : Nat) (hp : 1 ≤ p) : ∀ t, (kD (kd p a t)).map (·.1) = (St p a t).map fun s : Nat => (Sum.inl (s : Int) : Key)
  | 0 => by
    have : kd p a 0 = [] := by
      unfold kd pre wr wq w1
      rw [Nat.zero_min, Nat.sub_zero, Nat.zero_div, Nat.zero_mod]
      rfl
    rw [this]
    rfl
  | t + 1 => by
    have ih := kd_St p a hp t
    rw [← (kd_step p a t hp).2, put_keys, ih]
    have hm : (Sum.inl (((a + t) / p : Nat) : Int) : Key) ∈ ((St p a t).map fun s : Nat => (Sum.inl (s : Int) : Key)) ↔ (a + t) / p ∈ St p a t := by
      rw [List.mem_map]
      constructor
      · rintro ⟨s, h1, h2⟩
        have : s = (a + t) / p := by have := Sum.inl.inj h2; omega
        rw [← this]; exact h1
      · exact fun h => ⟨_, h, rfl⟩
    show _ = List.map _ (if (a + t) / p ∈ St p a t then St p a t else St p a t ++ [(a + t) / p])
    by_cases h : (a + t) / p ∈ St p a t
    · rw [if_pos (hm.mpr h), if_pos h]
    · rw [if_neg fun z => h (hm.mp z), if_neg h, List.map_append]
      rfl
theorem Wt_WR (p a m : Nat) (hp : 1 ≤ p) : (Wt p a m).length = (WR p a m).2 := by
  have h1 : (kd p a m).length = (St p a m).length := by
    have := congrArg List.length (kd_St p a hp m)
    rw [List.length_map, List.length_map, kD_len] at this
    exact this
  rw [Wt_len, ← h1, (kd_len p a m hp).1]
  show _ = m + wq p a m + _ + _
  omega
/-! the later values -/
def lat (vs : List Nat) (a m b : Nat) : List Nat := (List.range vs.length).map fun i => if a ≤ i ∧ i < a + m then vs.getD i 0 ^^^ b else vs.getD i 0
theorem lat_out (vs : List Nat) (a m b i : Nat) (h : ¬ (a ≤ i ∧ i < a + m)) : (lat vs a m b).getD i 0 = vs.getD i 0 := by
  by_cases hi : i < vs.length
  · rw [getDe _ _ (by unfold lat; rw [List.length_map, List.length_range]; exact hi)]
    unfold lat
    rw [List.getElem_map, List.getElem_range, if_neg h]
  · rw [getD_none _ (by unfold lat; rw [List.length_map, List.length_range]; omega), getD_none _ (by omega)]
theorem same_out (p : Nat) (hp : 1 ≤ p) (vs : List Nat) (a m b s d : Nat) (hd : d ≤ p) (h : (s, d) ∉ Wt p a m) : el p (lat vs a m b) s d = el p vs s d := by
  have hm : s % (p + 1) < p + 1 := Nat.mod_lt _ (by omega)
  have nk : ∀ k, a ≤ k ∧ k < a + m → (s, d) ≠ dsk p k ∧ (s, d) ≠ pr p k := fun k hk => by
    constructor
    · exact fun e => h ((mem_Wt p a _ m).mpr ⟨k - a, by omega, .inl (by rw [e, show a + (k - a) = k by omega])⟩)
    · exact fun e => h ((mem_Wt p a _ m).mpr ⟨k - a, by omega, .inr (by rw [e, show a + (k - a) = k by omega])⟩)
  have dv : ∀ j, j < p → (s * p + j) / p = s ∧ (s * p + j) % p = j := fun j hj => by
    constructor
    · rw [Nat.add_comm, Nat.add_mul_div_right _ _ hp, Nat.div_eq_of_lt hj, Nat.zero_add]
    · rw [Nat.add_comm, Nat.add_mul_mod_self_right, Nat.mod_eq_of_lt hj]
  refine el_same p _ _ s d (fun e j hj => lat_out vs a m b _ fun hk => ?_) fun e => lat_out vs a m b _ fun hk => ?_
  · refine (nk _ hk).2 ?_
    unfold pr
    rw [(dv j hj).1, e]
  · have hj : (if d < s % (p + 1) then d else d - 1) < p := by split <;> omega
    refine (nk _ hk).1 ?_
    unfold dsk
    rw [(dv _ hj).1, (dv _ hj).2]
    by_cases h2 : d < s % (p + 1)
    · rw [if_pos h2, if_neg (by omega)]
      rfl
    · rw [if_neg h2, if_pos (by omega)]
      show (s, d) = (s, d - 1 + 1)
      congr 1
      omega

theorem kP_put2 (l : List (Nat × Nat)) (u v : Nat) : putD (kP l) [.inl (u : Int), .inl (v : Int)] (.bl true) = kP (insP l (u, v)) := kP_put l (u, v)
theorem kP_val2 (l : List (Nat × Nat)) (u v : Nat) : (valD (kP l) [.inl (u : Int), .inl (v : Int)]).isSome = decide ((u, v) ∈ l) := kP_val l (u, v)
theorem St_len (p a : Nat) : ∀ t, (St p a t).length ≤ t
  | 0 => Nat.le_refl _
  | t + 1 => by
    have := St_len p a t
    show (if (a + t) / p ∈ St p a t then St p a t else St p a t ++ [(a + t) / p]).length ≤ _
    split
    · omega
    · rw [List.length_append]; simp; omega
theorem write_turn (p : Nat) (hp : 1 ≤ p) (hp2 : p ≤ 8) (vs : List Nat) (a m b t : Nat) (ht : t ≤ 1000) (xs ns : List Int) (y11 y12 y13 : Option D) :
    ∃ z12 z13, ((gN 11 (.int ((a + t : Nat) : Int)) [some (.lst (iD xs)), some (.rol (iD ns)), some (.int ((p + 1 : Nat) : Int)), some (.tup (nD vs)), some (.tup (rD (rowsOf p vs))), some (.int (a : Int)), some (.int (m : Int)), some (.int (b : Int)), some (.tup (nD (lat vs a m b))), some (.tup (rD (rowsOf p (lat vs a m b)))), some (.dtt (kP (Wt p a t))), y11, y12, y13, none, none, none, none]).bind B1__law_changed_right) = some (.nx [some (.lst (iD xs)), some (.rol (iD ns)), some (.int ((p + 1 : Nat) : Int)), some (.tup (nD vs)), some (.tup (rD (rowsOf p vs))), some (.int (a : Int)), some (.int (m : Int)), some (.int (b : Int)), some (.tup (nD (lat vs a m b))), some (.tup (rD (rowsOf p (lat vs a m b)))), some (.dtt (kP (Wt p a (t + 1)))), some (.int ((a + t : Nat) : Int)), z12, z13, none, none, none, none]) := by
  have l2 := disk_ok p hp (by omega) (a + t)
  have sl := St_len p a t
  have wl := Wt_len p a t
  have z1 : (Wt p a t).length < sizeLine := szl' (by omega)
  have z2 : (insP (Wt p a t) (dsk p (a + t))).length < sizeLine := szl' (by
    unfold insP
    split
    · omega
    · rw [List.length_append]; simp; omega)
  have zz : 2 ≤ sizeLine := by decide
  have em : (if 0 < ((p + 1 : Nat) : Int) then some (D.int (((dsk p (a + t)).1 : Int) % ((p + 1 : Nat) : Int))) else none) = some (D.int ((pr p (a + t)).2 : Int)) := by
    rw [if_pos (by omega)]
    show some (D.int ((((a + t) / p : Nat) : Int) % ((p + 1 : Nat) : Int))) = some (D.int (((a + t) / p % (p + 1) : Nat) : Int))
    rw [Int.natCast_emod]
  have w1 : kP (insP (insP (Wt p a t) (dsk p (a + t))) ((dsk p (a + t)).1, (pr p (a + t)).2)) = kP (Wt p a (t + 1)) := rfl
  have w0 : kP (insP (Wt p a t) ((dsk p (a + t)).1, (dsk p (a + t)).2)) = kP (insP (Wt p a t) (dsk p (a + t))) := rfl
  unfold dkD at l2
  refine ⟨some (.int ((dsk p (a + t)).1 : Int)), some (.int ((dsk p (a + t)).2 : Int)), ?_⟩
  show B1__law_changed_right [some (.lst (iD xs)), some (.rol (iD ns)), some (.int ((p + 1 : Nat) : Int)), some (.tup (nD vs)), some (.tup (rD (rowsOf p vs))), some (.int (a : Int)), some (.int (m : Int)), some (.int (b : Int)), some (.tup (nD (lat vs a m b))), some (.tup (rD (rowsOf p (lat vs a m b)))), some (.dtt (kP (Wt p a t))), some (.int ((a + t : Nat) : Int)), y12, y13, none, none, none, none] = _
  unfold B1__law_changed_right
  refine seq_go (e1 := [some (.lst (iD xs)), some (.rol (iD ns)), some (.int ((p + 1 : Nat) : Int)), some (.tup (nD vs)), some (.tup (rD (rowsOf p vs))), some (.int (a : Int)), some (.int (m : Int)), some (.int (b : Int)), some (.tup (nD (lat vs a m b))), some (.tup (rD (rowsOf p (lat vs a m b)))), some (.dtt (kP (Wt p a t))), some (.int ((a + t : Nat) : Int)), some (.int ((dsk p (a + t)).1 : Int)), some (.int ((dsk p (a + t)).2 : Int)), none, none, none, none]) ?_ (seq_go (e1 := [some (.lst (iD xs)), some (.rol (iD ns)), some (.int ((p + 1 : Nat) : Int)), some (.tup (nD vs)), some (.tup (rD (rowsOf p vs))), some (.int (a : Int)), some (.int (m : Int)), some (.int (b : Int)), some (.tup (nD (lat vs a m b))), some (.tup (rD (rowsOf p (lat vs a m b)))), some (.dtt (kP (insP (Wt p a t) (dsk p (a + t))))), some (.int ((a + t : Nat) : Int)), some (.int ((dsk p (a + t)).1 : Int)), some (.int ((dsk p (a + t)).2 : Int)), none, none, none, none]) ?_ ?_)
  · simp only [rO, rS, rE, rL, rB, bs, dcT, Bool.and_true, Bool.not_true, Bool.not_false, List.map, List.replicate, List.cons_append, List.nil_append, List.append_nil, List.length_cons, List.length_nil, List.mem_singleton, reduceCtorEq, Nat.reduceAdd, Nat.reduceSub, Nat.reduceLT, iD_len, l2]
  · simp only [rO, rS, rE, rL, rB, bs, dcT, Bool.and_true, Bool.not_true, Bool.not_false, List.map, List.replicate, List.cons_append, List.nil_append, List.append_nil, List.length_cons, List.length_nil, List.mem_singleton, reduceCtorEq, Nat.reduceAdd, Nat.reduceSub, Nat.reduceLT, iD_len, zz, kP_len, z1, kP_put2, w0]
  · simp only [rO, rS, rE, rL, rB, bs, dcT, Bool.and_true, Bool.not_true, Bool.not_false, List.map, List.replicate, List.cons_append, List.nil_append, List.append_nil, List.length_cons, List.length_nil, List.mem_singleton, reduceCtorEq, Nat.reduceAdd, Nat.reduceSub, Nat.reduceLT, iD_len, zz, em, kP_len, z2, kP_put2, w1]
theorem look_turn (p : Nat) (hp : 1 ≤ p) (hp2 : p ≤ 8) (vs : List Nat) (a m b s d : Nat) (hs : s < nch p vs) (hd : d ≤ p) (xs ns : List Int) (y11 y13 : Option D) :
    ((gN 13 (.int (d : Int)) [some (.lst (iD xs)), some (.rol (iD ns)), some (.int ((p + 1 : Nat) : Int)), some (.tup (nD vs)), some (.tup (rD (rowsOf p vs))), some (.int (a : Int)), some (.int (m : Int)), some (.int (b : Int)), some (.tup (nD (lat vs a m b))), some (.tup (rD (rowsOf p (lat vs a m b)))), some (.dtt (kP (Wt p a m))), y11, some (.int (s : Int)), y13, none, none, none, none]).bind B2__law_changed_right) = some (.nx [some (.lst (iD xs)), some (.rol (iD ns)), some (.int ((p + 1 : Nat) : Int)), some (.tup (nD vs)), some (.tup (rD (rowsOf p vs))), some (.int (a : Int)), some (.int (m : Int)), some (.int (b : Int)), some (.tup (nD (lat vs a m b))), some (.tup (rD (rowsOf p (lat vs a m b)))), some (.dtt (kP (Wt p a m))), y11, some (.int (s : Int)), some (.int (d : Int)), none, none, none, none]) := by
  have ll : (lat vs a m b).length = vs.length := by unfold lat; rw [List.length_map, List.length_range]
  have hs2 : s < nch p (lat vs a m b) := by unfold nch at *; rw [ll]; exact hs
  obtain ⟨r1, h1, h2⟩ := rows_get p vs hs hd
  obtain ⟨r2, h3, h4⟩ := rows_get p (lat vs a m b) hs2 hd
  have a1 := rD_at h1
  have a2 := atI_nD h2
  have a3 := rD_at h3
  have a4 := atI_nD h4
  have zz : 2 ≤ sizeLine := by decide
  show B2__law_changed_right [some (.lst (iD xs)), some (.rol (iD ns)), some (.int ((p + 1 : Nat) : Int)), some (.tup (nD vs)), some (.tup (rD (rowsOf p vs))), some (.int (a : Int)), some (.int (m : Int)), some (.int (b : Int)), some (.tup (nD (lat vs a m b))), some (.tup (rD (rowsOf p (lat vs a m b)))), some (.dtt (kP (Wt p a m))), y11, some (.int (s : Int)), some (.int (d : Int)), none, none, none, none] = _
  unfold B2__law_changed_right
  by_cases h : (s, d) ∈ Wt p a m
  · simp only [rO, rS, rE, rL, rB, bs, dcT, Bool.and_true, Bool.not_true, Bool.not_false, List.map, List.replicate, List.cons_append, List.nil_append, List.append_nil, List.length_cons, List.length_nil, List.mem_singleton, reduceCtorEq, Nat.reduceAdd, Nat.reduceSub, Nat.reduceLT, iD_len, zz, kP_val2, dtrue h]
  · have e := same_out p hp vs a m b s d hd h
    rw [e] at a4
    simp only [rO, rS, rE, rL, rB, bs, dcT, Bool.and_true, Bool.not_true, Bool.not_false, List.map, List.replicate, List.cons_append, List.nil_append, List.append_nil, List.length_cons, List.length_nil, List.mem_singleton, reduceCtorEq, Nat.reduceAdd, Nat.reduceSub, Nat.reduceLT, iD_len, zz, kP_val2, dfalse h, a1, a2, a3, a4, dtrue rfl]
theorem row_turn (p : Nat) (hp : 1 ≤ p) (hp2 : p ≤ 8) (vs : List Nat) (a m b s : Nat) (hs : s < nch p vs) (xs ns : List Int) (y11 y12 y13 : Option D) :
    ∃ z13, ((gN 12 (.int (s : Int)) [some (.lst (iD xs)), some (.rol (iD ns)), some (.int ((p + 1 : Nat) : Int)), some (.tup (nD vs)), some (.tup (rD (rowsOf p vs))), some (.int (a : Int)), some (.int (m : Int)), some (.int (b : Int)), some (.tup (nD (lat vs a m b))), some (.tup (rD (rowsOf p (lat vs a m b)))), some (.dtt (kP (Wt p a m))), y11, y12, y13, none, none, none, none]).bind B3__law_changed_right) = some (.nx [some (.lst (iD xs)), some (.rol (iD ns)), some (.int ((p + 1 : Nat) : Int)), some (.tup (nD vs)), some (.tup (rD (rowsOf p vs))), some (.int (a : Int)), some (.int (m : Int)), some (.int (b : Int)), some (.tup (nD (lat vs a m b))), some (.tup (rD (rowsOf p (lat vs a m b)))), some (.dtt (kP (Wt p a m))), y11, some (.int (s : Int)), z13, none, none, none, none]) := by
  obtain ⟨e2, g1, z13, g2⟩ := forL_rel (t := gN 13) (b := B2__law_changed_right) (ds := rngD 0 1 (p + 1)) (e := [some (.lst (iD xs)), some (.rol (iD ns)), some (.int ((p + 1 : Nat) : Int)), some (.tup (nD vs)), some (.tup (rD (rowsOf p vs))), some (.int (a : Int)), some (.int (m : Int)), some (.int (b : Int)), some (.tup (nD (lat vs a m b))), some (.tup (rD (rowsOf p (lat vs a m b)))), some (.dtt (kP (Wt p a m))), y11, some (.int (s : Int)), y13, none, none, none, none]) (fun j e => ∃ y13, e = [some (.lst (iD xs)), some (.rol (iD ns)), some (.int ((p + 1 : Nat) : Int)), some (.tup (nD vs)), some (.tup (rD (rowsOf p vs))), some (.int (a : Int)), some (.int (m : Int)), some (.int (b : Int)), some (.tup (nD (lat vs a m b))), some (.tup (rD (rowsOf p (lat vs a m b)))), some (.dtt (kP (Wt p a m))), y11, some (.int (s : Int)), y13, none, none, none, none]) ⟨y13, rfl⟩ fun j d e hj ⟨y13, he⟩ => by
    obtain ⟨hjn, rfl⟩ := rng_at hj
    subst he
    rw [show (0 : Int) + (j : Int) * 1 = (j : Int) by omega]
    exact ⟨_, look_turn p hp hp2 vs a m b s j hs (by omega) xs ns y11 y13, _, rfl⟩
  subst g2
  refine ⟨z13, ?_⟩
  show B3__law_changed_right [some (.lst (iD xs)), some (.rol (iD ns)), some (.int ((p + 1 : Nat) : Int)), some (.tup (nD vs)), some (.tup (rD (rowsOf p vs))), some (.int (a : Int)), some (.int (m : Int)), some (.int (b : Int)), some (.tup (nD (lat vs a m b))), some (.tup (rD (rowsOf p (lat vs a m b)))), some (.dtt (kP (Wt p a m))), y11, some (.int (s : Int)), y13, none, none, none, none] = _
  unfold B3__law_changed_right
  refine for_go (ds := rngD 0 1 (p + 1)) (e1 := [some (.lst (iD xs)), some (.rol (iD ns)), some (.int ((p + 1 : Nat) : Int)), some (.tup (nD vs)), some (.tup (rD (rowsOf p vs))), some (.int (a : Int)), some (.int (m : Int)), some (.int (b : Int)), some (.tup (nD (lat vs a m b))), some (.tup (rD (rowsOf p (lat vs a m b)))), some (.dtt (kP (Wt p a m))), y11, some (.int (s : Int)), y13, none, none, none, none]) ?_ (lfs_rng _ _ _) g1
  simp only [rO, rS, rE, rL, rB, bs, dcT, Bool.and_true, Bool.not_true, Bool.not_false, List.map, List.replicate, List.cons_append, List.nil_append, List.append_nil, List.length_cons, List.length_nil, List.mem_singleton, reduceCtorEq, Nat.reduceAdd, Nat.reduceSub, Nat.reduceLT, iD_len, Int.toNat_natCast]


theorem rng_map (lo : Nat) (m : Nat) (g : D → D) (f : Nat → Nat) (h : ∀ i, i < m → g (.int ((lo + i : Nat) : Int)) = .int (f i : Int)) : (rngD (lo : Int) 1 m).map g = nD ((List.range m).map f) := by
  unfold rngD nD
  rw [List.map_map, List.map_map]
  refine List.map_congr_left fun i hi => ?_
  show g (.int ((lo : Int) + (i : Int) * 1)) = _
  rw [show (lo : Int) + (i : Int) * 1 = ((lo + i : Nat) : Int) by omega]
  exact h i (List.mem_range.mp hi)
theorem lat_eq (vs : List Nat) (a m b : Nat) (h : a + m ≤ vs.length) : vs.take a ++ (List.range m).map (fun i => vs.getD (a + i) 0 ^^^ b) ++ vs.drop (a + m) = lat vs a m b := by
  refine List.ext_getElem? fun i => ?_
  unfold lat
  have l1 : (vs.take a).length = a := by rw [List.length_take]; omega
  by_cases hi : i < vs.length
  · rw [List.getElem?_map, List.getElem?_range hi]
    show _ = some (if a ≤ i ∧ i < a + m then vs.getD i 0 ^^^ b else vs.getD i 0)
    by_cases h1 : i < a
    · rw [if_neg (by omega), List.append_assoc, List.getElem?_append_left (by omega), List.getElem?_take, if_pos h1, getDe _ _ hi, List.getElem?_eq_getElem hi]
    · by_cases h2 : i < a + m
      · rw [if_pos ⟨by omega, h2⟩, List.getElem?_append_left (by rw [List.length_append, l1, List.length_map, List.length_range]; omega), List.getElem?_append_right (by omega), l1, List.getElem?_map, List.getElem?_range (by omega)]
        show some (vs.getD (a + (i - a)) 0 ^^^ b) = _
        rw [show a + (i - a) = i by omega]
      · rw [if_neg (by omega), List.getElem?_append_right (by rw [List.length_append, l1, List.length_map, List.length_range]; omega), List.length_append, l1, List.length_map, List.length_range, List.getElem?_drop, show a + m + (i - (a + m)) = i by omega, getDe _ _ hi, List.getElem?_eq_getElem hi]
  · rw [List.getElem?_eq_none (by rw [List.length_append, List.length_append, l1, List.length_map, List.length_range, List.length_drop]; omega), List.getElem?_eq_none (by rw [List.length_map, List.length_range]; omega)]
theorem later_c (vs : List Nat) (a m b : Nat) (h : a + m ≤ vs.length) (e0 e1 e2 e4 : Option D) : lcL [11] (gN 11) tY (eOp dXor (eOp dIx (eV 3) (eV 11)) (eV 7)) (rngD (a : Int) 1 m) [e0, e1, e2, some (.tup (nD vs)), e4, some (.int (a : Int)), some (.int (m : Int)), some (.int (b : Int)), none, none, none, none, none, none, none, none, none, none] = some (nD ((List.range m).map fun i => vs.getD (a + i) 0 ^^^ b), [e0, e1, e2, some (.tup (nD vs)), e4, some (.int (a : Int)), some (.int (m : Int)), some (.int (b : Int)), none, none, none, none, none, none, none, none, none, none]) := by
  rw [← rng_map a m (fun d => match d with | .int i => .int ((vs.getD i.toNat 0 ^^^ b : Nat) : Int) | d => d) (fun i => vs.getD (a + i) 0 ^^^ b) fun i _ => by
    show D.int _ = _
    rw [Int.toNat_natCast]]
  refine lcL_map _ _ _ fun d hd => ?_
  obtain ⟨j, hj⟩ := List.getElem?_of_mem hd
  obtain ⟨hjn, rfl⟩ := rng_at hj
  rw [show (a : Int) + (j : Int) * 1 = ((a + j : Nat) : Int) by omega]
  have ja : atI (nD vs) ((a + j : Nat) : Int) = some (.int (vs.getD (a + j) 0 : Int)) := by
    rw [getDe _ _ (by omega)]
    exact atI_nD (List.getElem?_eq_getElem (by omega))
  refine ⟨[e0, e1, e2, some (.tup (nD vs)), e4, some (.int (a : Int)), some (.int (m : Int)), some (.int (b : Int)), none, none, none, some (.int ((a + j : Nat) : Int)), none, none, none, none, none, none], [e0, e1, e2, some (.tup (nD vs)), e4, some (.int (a : Int)), some (.int (m : Int)), some (.int (b : Int)), none, none, none, some (.int ((a + j : Nat) : Int)), none, none, none, none, none, none], rfl, ?_, rfl⟩
  show _ = some (D.int ((vs.getD ((a + j : Nat) : Int).toNat 0 ^^^ b : Nat) : Int), _)
  rw [Int.toNat_natCast]
  simp only [rO, rS, rE, rL, rB, bs, dcT, Bool.and_true, Bool.not_true, Bool.not_false, List.map, List.replicate, List.cons_append, List.nil_append, List.append_nil, List.length_cons, List.length_nil, List.mem_singleton, reduceCtorEq, Nat.reduceAdd, Nat.reduceSub, Nat.reduceLT, iD_len, ja, bx]
def vx (vs os : List Nat) : List Nat := (List.range vs.length).map fun i => vs.getD (0 + i) 0 ^^^ os.getD (0 + i) 0
theorem vx_get (vs os : List Nat) (h : os.length = vs.length) (i : Nat) : (vx vs os).getD i 0 = vs.getD i 0 ^^^ os.getD i 0 := by
  by_cases hi : i < vs.length
  · rw [getDe _ _ (by unfold vx; rw [List.length_map, List.length_range]; exact hi)]
    unfold vx
    rw [List.getElem_map, List.getElem_range, Nat.zero_add]
  · rw [getD_none _ (by unfold vx; rw [List.length_map, List.length_range]; omega), getD_none _ (by omega), getD_none _ (by omega), Nat.xor_zero]
theorem both_c (vs os : List Nat) (h : os.length = vs.length) (e0 e1 e2 e4 e5 e6 e7 e8 e9 e10 e11 e12 e13 : Option D) : lcL [11] (gN 11) tY (eOp dXor (eOp dIx (eV 3) (eV 11)) (eOp dIx (eV 14) (eV 11))) (rngD 0 1 vs.length) [e0, e1, e2, some (.tup (nD vs)), e4, e5, e6, e7, e8, e9, e10, e11, e12, e13, some (.tup (nD os)), none, none, none] = some (nD (vx vs os), [e0, e1, e2, some (.tup (nD vs)), e4, e5, e6, e7, e8, e9, e10, e11, e12, e13, some (.tup (nD os)), none, none, none]) := by
  have e : (rngD ((0 : Nat) : Int) 1 vs.length).map (fun d => match d with | .int i => .int ((vs.getD i.toNat 0 ^^^ os.getD i.toNat 0 : Nat) : Int) | d => d) = nD (vx vs os) := rng_map 0 vs.length _ (fun i => vs.getD (0 + i) 0 ^^^ os.getD (0 + i) 0) fun i _ => by
    show D.int _ = _
    rw [Int.toNat_natCast]
  rw [← e]
  refine lcL_map _ _ _ fun d hd => ?_
  obtain ⟨j, hj⟩ := List.getElem?_of_mem hd
  obtain ⟨hjn, rfl⟩ := rng_at hj
  rw [show (0 : Int) + (j : Int) * 1 = (j : Int) by omega]
  have ja : atI (nD vs) (j : Int) = some (.int (vs.getD j 0 : Int)) := by
    rw [getDe _ _ (by omega)]
    exact atI_nD (List.getElem?_eq_getElem (by omega))
  have jb : atI (nD os) (j : Int) = some (.int (os.getD j 0 : Int)) := by
    rw [getDe _ _ (by omega)]
    exact atI_nD (List.getElem?_eq_getElem (by omega))
  refine ⟨[e0, e1, e2, some (.tup (nD vs)), e4, e5, e6, e7, e8, e9, e10, some (.int (j : Int)), e12, e13, some (.tup (nD os)), none, none, none], [e0, e1, e2, some (.tup (nD vs)), e4, e5, e6, e7, e8, e9, e10, some (.int (j : Int)), e12, e13, some (.tup (nD os)), none, none, none], rfl, ?_, rfl⟩
  show _ = some (D.int ((vs.getD (j : Int).toNat 0 ^^^ os.getD (j : Int).toNat 0 : Nat) : Int), _)
  rw [Int.toNat_natCast]
  simp only [rO, rS, rE, rL, rB, bs, dcT, Bool.and_true, Bool.not_true, Bool.not_false, List.map, List.replicate, List.cons_append, List.nil_append, List.append_nil, List.length_cons, List.length_nil, List.mem_singleton, reduceCtorEq, Nat.reduceAdd, Nat.reduceSub, Nat.reduceLT, iD_len, ja, jb, bx]


theorem sum_in (p : Nat) (hp2 : p ≤ 8) (vs os : List Nat) (s : Nat) (hs : s < nch p vs) (h : os.length = vs.length) (e0 e1 e3 e5 e6 e7 e8 e9 e10 e11 e13 e14 e15 : Option D) :
    lcL [13] (gN 13) tY (eOp dXor (eOp dIx (eOp dIx (eV 4) (eV 12)) (eV 13)) (eOp dIx (eOp dIx (eV 16) (eV 12)) (eV 13))) (rngD 0 1 (p + 1)) [e0, e1, some (.int ((p + 1 : Nat) : Int)), e3, some (.tup (rD (rowsOf p vs))), e5, e6, e7, e8, e9, e10, e11, some (.int (s : Int)), e13, e14, e15, some (.tup (rD (rowsOf p os))), none] = some (nD ((List.range (p + 1)).map (el p (vx vs os) s)), [e0, e1, some (.int ((p + 1 : Nat) : Int)), e3, some (.tup (rD (rowsOf p vs))), e5, e6, e7, e8, e9, e10, e11, some (.int (s : Int)), e13, e14, e15, some (.tup (rD (rowsOf p os))), none]) := by
  have hs2 : s < nch p os := by unfold nch at *; rw [h]; exact hs
  have e : (rngD ((0 : Nat) : Int) 1 (p + 1)).map (fun d => match d with | .int i => .int (el p (vx vs os) s i.toNat : Int) | d => d) = nD ((List.range (p + 1)).map (el p (vx vs os) s)) := rng_map 0 (p + 1) _ _ fun i _ => by
    show D.int (el p (vx vs os) s ((0 + i : Nat) : Int).toNat : Int) = _
    rw [Int.toNat_natCast, Nat.zero_add]
  rw [← e]
  refine lcL_map _ _ _ fun d hd => ?_
  obtain ⟨j, hj⟩ := List.getElem?_of_mem hd
  obtain ⟨hjn, rfl⟩ := rng_at hj
  rw [show (0 : Int) + (j : Int) * 1 = (j : Int) by omega]
  obtain ⟨r1, h1, h2⟩ := rows_get p vs hs (show j ≤ p by omega)
  obtain ⟨r2, h3, h4⟩ := rows_get p os hs2 (show j ≤ p by omega)
  have a1 := rD_at h1
  have a2 := atI_nD h2
  have a3 := rD_at h3
  have a4 := atI_nD h4
  refine ⟨[e0, e1, some (.int ((p + 1 : Nat) : Int)), e3, some (.tup (rD (rowsOf p vs))), e5, e6, e7, e8, e9, e10, e11, some (.int (s : Int)), some (.int (j : Int)), e14, e15, some (.tup (rD (rowsOf p os))), none], [e0, e1, some (.int ((p + 1 : Nat) : Int)), e3, some (.tup (rD (rowsOf p vs))), e5, e6, e7, e8, e9, e10, e11, some (.int (s : Int)), some (.int (j : Int)), e14, e15, some (.tup (rD (rowsOf p os))), none], rfl, ?_, rfl⟩
  show _ = some (D.int (el p (vx vs os) s (j : Int).toNat : Int), _)
  rw [Int.toNat_natCast, el_sum p vs os (vx vs os) (vx_get vs os h)]
  simp only [rO, rS, rE, rL, rB, bs, dcT, Bool.and_true, Bool.not_true, Bool.not_false, List.map, List.replicate, List.cons_append, List.nil_append, List.append_nil, List.length_cons, List.length_nil, List.mem_singleton, reduceCtorEq, Nat.reduceAdd, Nat.reduceSub, Nat.reduceLT, iD_len, a1, a2, a3, a4, bx]
theorem sum_all (p : Nat) (hp2 : p ≤ 8) (vs os : List Nat) (h : os.length = vs.length) (e0 e1 e3 e5 e6 e7 e8 e9 e10 e11 e12 e13 e14 e15 : Option D) :
    lcL [12] (gN 12) tY (eB gTuple (aCons (eLc [13] (iRng1 (aCons (eV 2) aNil)) (gN 13) tY (eOp dXor (eOp dIx (eOp dIx (eV 4) (eV 12)) (eV 13)) (eOp dIx (eOp dIx (eV 16) (eV 12)) (eV 13)))) aNil)) (rngD 0 1 (nch p vs)) [e0, e1, some (.int ((p + 1 : Nat) : Int)), e3, some (.tup (rD (rowsOf p vs))), e5, e6, e7, e8, e9, e10, e11, e12, e13, e14, e15, some (.tup (rD (rowsOf p os))), none] = some (rD (rowsOf p (vx vs os)), [e0, e1, some (.int ((p + 1 : Nat) : Int)), e3, some (.tup (rD (rowsOf p vs))), e5, e6, e7, e8, e9, e10, e11, e12, e13, e14, e15, some (.tup (rD (rowsOf p os))), none]) := by
  have hx : nch p (vx vs os) = nch p vs := by unfold nch vx; rw [List.length_map, List.length_range]
  have e : (rngD 0 1 (nch p vs)).map (fun d => match d with | .int i => .tup (nD ((List.range (p + 1)).map (el p (vx vs os) i.toNat))) | d => d) = rD (rowsOf p (vx vs os)) := by
    rw [rows_el, hx]
    unfold rngD rD
    rw [List.map_map, List.map_map]
    refine List.map_congr_left fun i _ => ?_
    show D.tup (nD ((List.range (p + 1)).map (el p (vx vs os) ((0 : Int) + (i : Int) * 1).toNat))) = _
    rw [show ((0 : Int) + (i : Int) * 1).toNat = i by omega]
    rfl
  rw [← e]
  refine lcL_map _ _ _ fun d hd => ?_
  obtain ⟨s, hj⟩ := List.getElem?_of_mem hd
  obtain ⟨hs, rfl⟩ := rng_at hj
  rw [show (0 : Int) + (s : Int) * 1 = (s : Int) by omega]
  have c1 := sum_in p hp2 vs os s hs h e0 e1 e3 e5 e6 e7 e8 e9 e10 e11 e13 e14 e15
  have z1 : p + 1 ≤ sizeLine := szl (by omega)
  refine ⟨[e0, e1, some (.int ((p + 1 : Nat) : Int)), e3, some (.tup (rD (rowsOf p vs))), e5, e6, e7, e8, e9, e10, e11, some (.int (s : Int)), e13, e14, e15, some (.tup (rD (rowsOf p os))), none], [e0, e1, some (.int ((p + 1 : Nat) : Int)), e3, some (.tup (rD (rowsOf p vs))), e5, e6, e7, e8, e9, e10, e11, some (.int (s : Int)), e13, e14, e15, some (.tup (rD (rowsOf p os))), none], rfl, ?_, rfl⟩
  show _ = some (D.tup (nD ((List.range (p + 1)).map (el p (vx vs os) (s : Int).toNat))), _)
  rw [Int.toNat_natCast]
  simp only [rO, rS, rE, rL, rB, bs, dcT, Bool.and_true, Bool.not_true, Bool.not_false, List.map, List.replicate, List.cons_append, List.nil_append, List.append_nil, List.length_cons, List.length_nil, List.mem_singleton, reduceCtorEq, Nat.reduceAdd, Nat.reduceSub, Nat.reduceLT, iD_len, Int.toNat_natCast, rng_len, z1, c1, lfs_nD]
theorem changed_ok (p : Nat) (hp : 1 ≤ p) (hp2 : p ≤ 8) (vs : List Nat) (hv : vs.length ≤ 500) (hv0 : 0 < vs.length) (xs ns : List Int) : ∃ xs', F__law_changed_right [.lst (iD xs), .rol (iD ns), .int ((p + 1 : Nat) : Int), .tup (nD vs), .tup (rD (rowsOf p vs))] = some (.bl true, [.lst (iD xs'), .rol (iD ns), .int ((p + 1 : Nat) : Int), .tup (nD vs), .tup (rD (rowsOf p vs))]) := by
  obtain ⟨a, x1, ha, t1⟩ := take_some xs vs.length hv0
  obtain ⟨c, x2, hc, t2⟩ := take_some x1 (vs.length - a) (by omega)
  have e1 : (vs.length : Int) - (a : Int) = ((vs.length - a : Nat) : Int) := by omega
  obtain ⟨m, hm⟩ : ∃ m, m = 1 + c := ⟨_, rfl⟩
  have e2 : (1 : Int) + (c : Int) = (m : Int) := by omega
  obtain ⟨q, x3, hq, t3⟩ := take_some x2 9 (by decide)
  have t3' : F__law_take [.lst (iD x2), .int 9] = some (.int (q : Int), [.lst (iD x3), .int 9]) := t3
  obtain ⟨v, x4, t4⟩ := size_some x3 ns
  obtain ⟨b, hb⟩ : ∃ b, b = 1 + q + v := ⟨_, rfl⟩
  have e3 : (1 : Int) + (q : Int) + (v : Int) = (b : Int) := by omega
  have am : a + m ≤ vs.length := by omega
  have e4 : (a : Int) + (m : Int) = ((a + m : Nat) : Int) := by omega
  have e5 : (((a + m : Nat) : Int) - (a : Int)).toNat = m := by omega
  have c1 := later_c vs a m b am (some (.lst (iD x4))) (some (.rol (iD ns))) (some (.int ((p + 1 : Nat) : Int))) (some (.tup (rD (rowsOf p vs))))
  have le := lat_eq vs a m b am
  have ll : (lat vs a m b).length = vs.length := by unfold lat; rw [List.length_map, List.length_range]
  have s1 := stripes_ok p hp (by omega) (lat vs a m b) (by omega)
  have s2 := lstripes_ok p hp (by omega) (lat vs a m b) (by omega)
  have s3 := same_ok (d := .tup (rD (rowsOf p (lat vs a m b)))) Pl.rD
  obtain ⟨ea, a1, y11, y12, y13, a2⟩ := forL_rel (t := gN 11) (b := B1__law_changed_right) (ds := rngD (a : Int) 1 m) (e := [some (.lst (iD x4)), some (.rol (iD ns)), some (.int ((p + 1 : Nat) : Int)), some (.tup (nD vs)), some (.tup (rD (rowsOf p vs))), some (.int (a : Int)), some (.int (m : Int)), some (.int (b : Int)), some (.tup (nD (lat vs a m b))), some (.tup (rD (rowsOf p (lat vs a m b)))), some (.dtt []), none, none, none, none, none, none, none]) (fun j e => ∃ y11 y12 y13, e = [some (.lst (iD x4)), some (.rol (iD ns)), some (.int ((p + 1 : Nat) : Int)), some (.tup (nD vs)), some (.tup (rD (rowsOf p vs))), some (.int (a : Int)), some (.int (m : Int)), some (.int (b : Int)), some (.tup (nD (lat vs a m b))), some (.tup (rD (rowsOf p (lat vs a m b)))), some (.dtt (kP (Wt p a j))), y11, y12, y13, none, none, none, none]) ⟨none, none, none, rfl⟩ fun j d e hj ⟨y11, y12, y13, he⟩ => by
    obtain ⟨hjn, rfl⟩ := rng_at hj
    subst he
    rw [show (a : Int) + (j : Int) * 1 = ((a + j : Nat) : Int) by omega]
    obtain ⟨z12, z13, h⟩ := write_turn p hp hp2 vs a m b j (by omega) x4 ns y11 y12 y13
    exact ⟨_, h, _, z12, z13, rfl⟩
  rw [rng_len] at a2
  subst a2
  have w1 := writes_ok p a m hp (by omega)
  have wl := Wt_WR p a m hp
  have wa : atI [D.int ((WR p a m).1 : Int), D.int ((WR p a m).2 : Int)] 1 = some (.int ((WR p a m).2 : Int)) := rfl
  unfold WD at w1
  obtain ⟨eb, b1, z12, z13, b2⟩ := forL_rel (t := gN 12) (b := B3__law_changed_right) (ds := rngD 0 1 (nch p vs)) (e := [some (.lst (iD x4)), some (.rol (iD ns)), some (.int ((p + 1 : Nat) : Int)), some (.tup (nD vs)), some (.tup (rD (rowsOf p vs))), some (.int (a : Int)), some (.int (m : Int)), some (.int (b : Int)), some (.tup (nD (lat vs a m b))), some (.tup (rD (rowsOf p (lat vs a m b)))), some (.dtt (kP (Wt p a m))), y11, y12, y13, none, none, none, none]) (fun j e => ∃ y12 y13, e = [some (.lst (iD x4)), some (.rol (iD ns)), some (.int ((p + 1 : Nat) : Int)), some (.tup (nD vs)), some (.tup (rD (rowsOf p vs))), some (.int (a : Int)), some (.int (m : Int)), some (.int (b : Int)), some (.tup (nD (lat vs a m b))), some (.tup (rD (rowsOf p (lat vs a m b)))), some (.dtt (kP (Wt p a m))), y11, y12, y13, none, none, none, none]) ⟨y12, y13, rfl⟩ fun j d e hj ⟨y12, y13, he⟩ => by
    obtain ⟨hjn, rfl⟩ := rng_at hj
    subst he
    rw [show (0 : Int) + (j : Int) * 1 = (j : Int) by omega]
    obtain ⟨w13, h⟩ := row_turn p hp hp2 vs a m b j hjn x4 ns y11 y12 y13
    exact ⟨_, h, _, w13, rfl⟩
  subst b2
  obtain ⟨os, x5, ho, t5⟩ := values_ok x4 ns vs.length (by omega)
  have c2 := both_c vs os ho (some (.lst (iD x5))) (some (.rol (iD ns))) (some (.int ((p + 1 : Nat) : Int))) (some (.tup (rD (rowsOf p vs)))) (some (.int (a : Int))) (some (.int (m : Int))) (some (.int (b : Int))) (some (.tup (nD (lat vs a m b)))) (some (.tup (rD (rowsOf p (lat vs a m b))))) (some (.dtt (kP (Wt p a m)))) y11 z12 z13
  have lx : (vx vs os).length = vs.length := by unfold vx; rw [List.length_map, List.length_range]
  have s4 := stripes_ok p hp (by omega) (vx vs os) (by omega)
  have s5 := stripes_ok p hp (by omega) os (by omega)
  have c3 := sum_all p hp2 vs os ho (some (.lst (iD x5))) (some (.rol (iD ns))) (some (.tup (nD vs))) (some (.int (a : Int))) (some (.int (m : Int))) (some (.int (b : Int))) (some (.tup (nD (lat vs a m b)))) (some (.tup (rD (rowsOf p (lat vs a m b))))) (some (.dtt (kP (Wt p a m)))) y11 z12 z13 (some (.tup (nD os))) (some (.tup (rD (rowsOf p (vx vs os)))))
  have s6 := same_ok (d := .tup (rD (rowsOf p (vx vs os)))) Pl.rD
  have nb : nch p vs ≤ vs.length + p := Nat.le_trans (Nat.div_le_self _ _) (by omega)
  have zv : vs.length ≤ sizeLine := szl (by omega)
  have zm : m ≤ sizeLine := szl (by omega)
  have zn : nch p vs ≤ sizeLine := szl (by omega)
  have f1 : lfs ((nD vs).take a) = true := by rw [nD_take]; exact lfs_nD _
  have f2 : lfs ((nD vs).drop (a + m)) = true := by rw [nD_drop]; exact lfs_nD _
  have f3 : lfs ((nD vs).take a ++ nD ((List.range m).map fun i => vs.getD (a + i) 0 ^^^ b)) = true := lfs_append f1 (lfs_nD _)
  have g1 : ((nD vs).take a).length + ((List.range m).map fun i => vs.getD (a + i) 0 ^^^ b).length ≤ sizeLine := szl (by rw [List.length_take, nD_len, List.length_map, List.length_range]; omega)
  have g2 : ((nD vs).take a ++ nD ((List.range m).map fun i => vs.getD (a + i) 0 ^^^ b)).length + ((nD vs).drop (a + m)).length ≤ sizeLine := szl (by rw [List.length_append, nD_len, List.length_take, nD_len, List.length_map, List.length_range, List.length_drop, nD_len]; omega)
  have g3 : (nD vs).take a ++ nD ((List.range m).map fun i => vs.getD (a + i) 0 ^^^ b) ++ (nD vs).drop (a + m) = nD (lat vs a m b) := by
    rw [← le, nD_app, nD_app, nD_take, nD_drop]
  refine ⟨x5, ?_⟩
  unfold F__law_changed_right
  refine run_mu ⟨rfl, rfl⟩ (e := [some (.lst (iD x5)), some (.rol (iD ns)), some (.int ((p + 1 : Nat) : Int)), some (.tup (nD vs)), some (.tup (rD (rowsOf p vs))), some (.int (a : Int)), some (.int (m : Int)), some (.int (b : Int)), some (.tup (nD (lat vs a m b))), some (.tup (rD (rowsOf p (lat vs a m b)))), some (.dtt (kP (Wt p a m))), y11, z12, z13, some (.tup (nD os)), some (.tup (rD (rowsOf p (vx vs os)))), some (.tup (rD (rowsOf p os))), some (.tup (rD (rowsOf p (vx vs os))))]) ?_ (by decide) rfl
  unfold G__law_changed_right
  refine seq_go (e1 := [some (.lst (iD x1)), some (.rol (iD ns)), some (.int ((p + 1 : Nat) : Int)), some (.tup (nD vs)), some (.tup (rD (rowsOf p vs))), some (.int (a : Int)), none, none, none, none, none, none, none, none, none, none, none, none]) ?_ (seq_go (e1 := [some (.lst (iD x2)), some (.rol (iD ns)), some (.int ((p + 1 : Nat) : Int)), some (.tup (nD vs)), some (.tup (rD (rowsOf p vs))), some (.int (a : Int)), some (.int (m : Int)), none, none, none, none, none, none, none, none, none, none, none]) ?_ (seq_go (e1 := [some (.lst (iD x4)), some (.rol (iD ns)), some (.int ((p + 1 : Nat) : Int)), some (.tup (nD vs)), some (.tup (rD (rowsOf p vs))), some (.int (a : Int)), some (.int (m : Int)), some (.int (b : Int)), none, none, none, none, none, none, none, none, none, none]) ?_ (seq_go (e1 := [some (.lst (iD x4)), some (.rol (iD ns)), some (.int ((p + 1 : Nat) : Int)), some (.tup (nD vs)), some (.tup (rD (rowsOf p vs))), some (.int (a : Int)), some (.int (m : Int)), some (.int (b : Int)), some (.tup (nD (lat vs a m b))), none, none, none, none, none, none, none, none, none]) ?_ (seq_go (e1 := [some (.lst (iD x4)), some (.rol (iD ns)), some (.int ((p + 1 : Nat) : Int)), some (.tup (nD vs)), some (.tup (rD (rowsOf p vs))), some (.int (a : Int)), some (.int (m : Int)), some (.int (b : Int)), some (.tup (nD (lat vs a m b))), some (.tup (rD (rowsOf p (lat vs a m b)))), none, none, none, none, none, none, none, none]) ?_ (seq_go (e1 := [some (.lst (iD x4)), some (.rol (iD ns)), some (.int ((p + 1 : Nat) : Int)), some (.tup (nD vs)), some (.tup (rD (rowsOf p vs))), some (.int (a : Int)), some (.int (m : Int)), some (.int (b : Int)), some (.tup (nD (lat vs a m b))), some (.tup (rD (rowsOf p (lat vs a m b)))), none, none, none, none, none, none, none, none]) ?_ (seq_go (e1 := [some (.lst (iD x4)), some (.rol (iD ns)), some (.int ((p + 1 : Nat) : Int)), some (.tup (nD vs)), some (.tup (rD (rowsOf p vs))), some (.int (a : Int)), some (.int (m : Int)), some (.int (b : Int)), some (.tup (nD (lat vs a m b))), some (.tup (rD (rowsOf p (lat vs a m b)))), some (.dtt []), none, none, none, none, none, none, none]) ?_ (seq_go (for_go (ds := rngD (a : Int) 1 m) (e1 := [some (.lst (iD x4)), some (.rol (iD ns)), some (.int ((p + 1 : Nat) : Int)), some (.tup (nD vs)), some (.tup (rD (rowsOf p vs))), some (.int (a : Int)), some (.int (m : Int)), some (.int (b : Int)), some (.tup (nD (lat vs a m b))), some (.tup (rD (rowsOf p (lat vs a m b)))), some (.dtt []), none, none, none, none, none, none, none]) ?_ (lfs_rng _ _ _) a1) (seq_go (e1 := [some (.lst (iD x4)), some (.rol (iD ns)), some (.int ((p + 1 : Nat) : Int)), some (.tup (nD vs)), some (.tup (rD (rowsOf p vs))), some (.int (a : Int)), some (.int (m : Int)), some (.int (b : Int)), some (.tup (nD (lat vs a m b))), some (.tup (rD (rowsOf p (lat vs a m b)))), some (.dtt (kP (Wt p a m))), y11, y12, y13, none, none, none, none]) ?_ (seq_go (for_go (ds := rngD 0 1 (nch p vs)) (e1 := [some (.lst (iD x4)), some (.rol (iD ns)), some (.int ((p + 1 : Nat) : Int)), some (.tup (nD vs)), some (.tup (rD (rowsOf p vs))), some (.int (a : Int)), some (.int (m : Int)), some (.int (b : Int)), some (.tup (nD (lat vs a m b))), some (.tup (rD (rowsOf p (lat vs a m b)))), some (.dtt (kP (Wt p a m))), y11, y12, y13, none, none, none, none]) ?_ (lfs_rng _ _ _) b1) (seq_go (e1 := [some (.lst (iD x5)), some (.rol (iD ns)), some (.int ((p + 1 : Nat) : Int)), some (.tup (nD vs)), some (.tup (rD (rowsOf p vs))), some (.int (a : Int)), some (.int (m : Int)), some (.int (b : Int)), some (.tup (nD (lat vs a m b))), some (.tup (rD (rowsOf p (lat vs a m b)))), some (.dtt (kP (Wt p a m))), y11, z12, z13, some (.tup (nD os)), none, none, none]) ?_ (seq_go (e1 := [some (.lst (iD x5)), some (.rol (iD ns)), some (.int ((p + 1 : Nat) : Int)), some (.tup (nD vs)), some (.tup (rD (rowsOf p vs))), some (.int (a : Int)), some (.int (m : Int)), some (.int (b : Int)), some (.tup (nD (lat vs a m b))), some (.tup (rD (rowsOf p (lat vs a m b)))), some (.dtt (kP (Wt p a m))), y11, z12, z13, some (.tup (nD os)), some (.tup (rD (rowsOf p (vx vs os)))), none, none]) ?_ (seq_go (e1 := [some (.lst (iD x5)), some (.rol (iD ns)), some (.int ((p + 1 : Nat) : Int)), some (.tup (nD vs)), some (.tup (rD (rowsOf p vs))), some (.int (a : Int)), some (.int (m : Int)), some (.int (b : Int)), some (.tup (nD (lat vs a m b))), some (.tup (rD (rowsOf p (lat vs a m b)))), some (.dtt (kP (Wt p a m))), y11, z12, z13, some (.tup (nD os)), some (.tup (rD (rowsOf p (vx vs os)))), some (.tup (rD (rowsOf p os))), none]) ?_ (seq_go (e1 := [some (.lst (iD x5)), some (.rol (iD ns)), some (.int ((p + 1 : Nat) : Int)), some (.tup (nD vs)), some (.tup (rD (rowsOf p vs))), some (.int (a : Int)), some (.int (m : Int)), some (.int (b : Int)), some (.tup (nD (lat vs a m b))), some (.tup (rD (rowsOf p (lat vs a m b)))), some (.dtt (kP (Wt p a m))), y11, z12, z13, some (.tup (nD os)), some (.tup (rD (rowsOf p (vx vs os)))), some (.tup (rD (rowsOf p os))), some (.tup (rD (rowsOf p (vx vs os))))]) ?_ ?_)))))))))))))
  · simp only [rO, rS, rE, rL, rB, bs, dcT, Bool.and_true, Bool.not_true, Bool.not_false, List.map, List.replicate, List.cons_append, List.nil_append, List.append_nil, List.length_cons, List.length_nil, List.mem_singleton, reduceCtorEq, Nat.reduceAdd, Nat.reduceSub, Nat.reduceLT, iD_len, nD_len, t1]
  · simp only [rO, rS, rE, rL, rB, bs, dcT, Bool.and_true, Bool.not_true, Bool.not_false, List.map, List.replicate, List.cons_append, List.nil_append, List.append_nil, List.length_cons, List.length_nil, List.mem_singleton, reduceCtorEq, Nat.reduceAdd, Nat.reduceSub, Nat.reduceLT, iD_len, nD_len, e1, t2, e2]
  · simp only [rO, rS, rE, rL, rB, bs, dcT, Bool.and_true, Bool.not_true, Bool.not_false, List.map, List.replicate, List.cons_append, List.nil_append, List.append_nil, List.length_cons, List.length_nil, List.mem_singleton, reduceCtorEq, Nat.reduceAdd, Nat.reduceSub, Nat.reduceLT, iD_len, t3', t4, e3]
  · simp only [rO, rS, rE, rL, rB, bs, dcT, Bool.and_true, Bool.not_true, Bool.not_false, List.map, List.replicate, List.cons_append, List.nil_append, List.append_nil, List.length_cons, List.length_nil, List.mem_singleton, reduceCtorEq, Nat.reduceAdd, Nat.reduceSub, Nat.reduceLT, iD_len, lfs_nD, cut_a, cut_b, e4, e5, rng_len, zm, c1, f1, f2, f3, nD_len, g1, g2, g3]
  · simp only [rO, rS, rE, rL, rB, bs, dcT, Bool.and_true, Bool.not_true, Bool.not_false, List.map, List.replicate, List.cons_append, List.nil_append, List.append_nil, List.length_cons, List.length_nil, List.mem_singleton, reduceCtorEq, Nat.reduceAdd, Nat.reduceSub, Nat.reduceLT, iD_len, s1]
  · simp only [rO, rS, rE, rL, rB, bs, dcT, Bool.and_true, Bool.not_true, Bool.not_false, List.map, List.replicate, List.cons_append, List.nil_append, List.append_nil, List.length_cons, List.length_nil, List.mem_singleton, reduceCtorEq, Nat.reduceAdd, Nat.reduceSub, Nat.reduceLT, iD_len, s2, s3]
  · simp only [rO, rS, rE, rL, rB, bs, dcT, Bool.and_true, Bool.not_true, Bool.not_false, List.map, List.replicate, List.cons_append, List.nil_append, List.append_nil, List.length_cons, List.length_nil, List.mem_singleton, reduceCtorEq, Nat.reduceAdd, Nat.reduceSub, Nat.reduceLT, iD_len, ]
  · simp only [rO, rS, rE, rL, rB, bs, dcT, Bool.and_true, Bool.not_true, Bool.not_false, List.map, List.replicate, List.cons_append, List.nil_append, List.append_nil, List.length_cons, List.length_nil, List.mem_singleton, reduceCtorEq, Nat.reduceAdd, Nat.reduceSub, Nat.reduceLT, iD_len, e4, e5]
  · simp only [rO, rS, rE, rL, rB, bs, dcT, Bool.and_true, Bool.not_true, Bool.not_false, List.map, List.replicate, List.cons_append, List.nil_append, List.append_nil, List.length_cons, List.length_nil, List.mem_singleton, reduceCtorEq, Nat.reduceAdd, Nat.reduceSub, Nat.reduceLT, iD_len, w1, wa, kP_len, wl, dtrue rfl]
  · simp only [rO, rS, rE, rL, rB, bs, dcT, Bool.and_true, Bool.not_true, Bool.not_false, List.map, List.replicate, List.cons_append, List.nil_append, List.append_nil, List.length_cons, List.length_nil, List.mem_singleton, reduceCtorEq, Nat.reduceAdd, Nat.reduceSub, Nat.reduceLT, iD_len, rD_len, rows_len, Int.toNat_natCast]
  · simp only [rO, rS, rE, rL, rB, bs, dcT, Bool.and_true, Bool.not_true, Bool.not_false, List.map, List.replicate, List.cons_append, List.nil_append, List.append_nil, List.length_cons, List.length_nil, List.mem_singleton, reduceCtorEq, Nat.reduceAdd, Nat.reduceSub, Nat.reduceLT, iD_len, nD_len, t5]
  · simp only [rO, rS, rE, rL, rB, bs, dcT, Bool.and_true, Bool.not_true, Bool.not_false, List.map, List.replicate, List.cons_append, List.nil_append, List.append_nil, List.length_cons, List.length_nil, List.mem_singleton, reduceCtorEq, Nat.reduceAdd, Nat.reduceSub, Nat.reduceLT, iD_len, nD_len, Int.toNat_natCast, rng_len, zv, c2, lfs_nD, s4]
  · simp only [rO, rS, rE, rL, rB, bs, dcT, Bool.and_true, Bool.not_true, Bool.not_false, List.map, List.replicate, List.cons_append, List.nil_append, List.append_nil, List.length_cons, List.length_nil, List.mem_singleton, reduceCtorEq, Nat.reduceAdd, Nat.reduceSub, Nat.reduceLT, iD_len, s5]
  · simp only [rO, rS, rE, rL, rB, bs, dcT, Bool.and_true, Bool.not_true, Bool.not_false, List.map, List.replicate, List.cons_append, List.nil_append, List.append_nil, List.length_cons, List.length_nil, List.mem_singleton, reduceCtorEq, Nat.reduceAdd, Nat.reduceSub, Nat.reduceLT, iD_len, rD_len, rows_len, Int.toNat_natCast, rng_len, zn, c3, lfs_rD]
  · simp only [rO, rS, rE, rL, rB, bs, dcT, Bool.and_true, Bool.not_true, Bool.not_false, List.map, List.replicate, List.cons_append, List.nil_append, List.append_nil, List.length_cons, List.length_nil, List.mem_singleton, reduceCtorEq, Nat.reduceAdd, Nat.reduceSub, Nat.reduceLT, iD_len, s6]


/-! ### one number altered -/
def alt (r : List Nat) (d b : Nat) : List Nat := r.set d (r.getD d 0 ^^^ b)
theorem xr_set (b : Nat) : ∀ (r : List Nat) (d : Nat), d < r.length → xr (alt r d b) = xr r ^^^ b
  | [], _, h => nomatch h
  | x :: r, 0, _ => by
    show xr ((x ^^^ b) :: r) = _
    rw [xr_cons, xr_cons, Nat.xor_assoc, Nat.xor_assoc, Nat.xor_comm b]
  | x :: r, d + 1, h => by
    have ih := xr_set b r d (by rw [List.length_cons] at h; omega)
    show xr (x :: alt r d b) = _
    rw [xr_cons, xr_cons, ih, Nat.xor_assoc]
theorem alt_len (r : List Nat) (d b : Nat) : (alt r d b).length = r.length := by unfold alt; rw [List.length_set]
theorem alt_row (r : List Nat) (d b : Nat) (h : d < r.length) : (nD r).take d ++ [D.int ((r.getD d 0 ^^^ b : Nat) : Int)] ++ (nD r).drop (d + 1) = nD (alt r d b) := by
  have e : nD (alt r d b) = (nD r).set d (D.int ((r.getD d 0 ^^^ b : Nat) : Int)) := by
    unfold nD alt
    rw [List.map_set]
  rw [e, List.set_eq_take_append_cons_drop, if_pos (by rw [nD_len]; exact h), List.append_assoc]
  rfl
theorem set_rows (rows : List (List Nat)) (s : Nat) (r : List Nat) (h : s < rows.length) : (rD rows).take s ++ [D.tup (nD r)] ++ (rD rows).drop (s + 1) = rD (rows.set s r) := by
  have e : rD (rows.set s r) = (rD rows).set s (D.tup (nD r)) := by
    unfold rD
    rw [List.map_set]
  rw [e, List.set_eq_take_append_cons_drop, if_pos (by rw [rD_len]; exact h), List.append_assoc]
  rfl
theorem bad_set (rows : List (List Nat)) (hz : ∀ r ∈ rows, xr r = 0) (s : Nat) (r : List Nat) (h : s < rows.length) : badL (rows.set s r) = if xr r = 0 then [] else [s] := by
  unfold badL
  rw [List.length_set]
  have e : (List.range rows.length).filter (fun t => !decide (xr ((rows.set s r).getD t []) = 0)) = (List.range rows.length).filter fun t => decide (t = s) && !decide (xr r = 0) := List.filter_congr fun t ht => by
    have ht' : t < rows.length := List.mem_range.mp ht
    rw [getDe _ _ (by rw [List.length_set]; exact ht'), List.getElem_set]
    by_cases e : s = t
    · subst e
      rw [if_pos rfl, dtrue (show s = s from rfl), Bool.true_and]
    · rw [if_neg e, dfalse (show ¬ t = s from fun z => e z.symm), hz _ (List.getElem_mem ht')]
      rfl
  rw [e]
  by_cases h0 : xr r = 0
  · rw [if_pos h0]
    exact List.filter_eq_nil_iff.mpr fun t _ => by simp [h0]
  · rw [if_neg h0]
    have : ∀ n, (List.range n).filter (fun t => decide (t = s) && !decide (xr r = 0)) = if s < n then [s] else [] := fun n => by
      induction n with
      | zero => rfl
      | succ n ih =>
        rw [List.range_succ, List.filter_append, ih]
        by_cases e : n = s
        · subst e; simp [h0]
        · by_cases h2 : s < n
          · rw [if_pos h2, if_pos (by omega)]; simp [e]
          · rw [if_neg h2, if_neg (by omega)]; simp [e]
    rw [this, if_pos h]
/-! each row of places lacks one disk -/
theorem lacks_one : ∀ p : Fin 9, 1 ≤ p.val → ∀ own : Fin 9, own.val ≤ p.val → ((List.range (p.val + 1)).filter fun k => !decide (k ∈ (List.range p.val).map fun k => (dsk p.val (own.val * p.val + k)).2)) = [own.val] := by decide +kernel
theorem in_lD (v : Nat) (g : List Nat) : dNotInA (.int (v : Int)) (.lst (nD g)) = some (.bl (!decide (v ∈ g))) := by
  show ((inB (.int (v : Int)) (.lst (nD g))).bind fun b => some (D.bl (!b))) = _
  have f : flatD (.int (v : Int)) = true ∧ (nD g).all flatD = true := ⟨rfl, List.all_eq_true.mpr fun d hd => by
    obtain ⟨a, _, rfl⟩ := List.mem_map.mp hd
    rfl⟩
  have e : inB (.int (v : Int)) (.lst (nD g)) = some ((nD g).any fun z => eqF z (.int (v : Int))) := by
    unfold inB
    show Option.bind (some (nD g)) _ = _
    rw [bs, if_pos f]
  rw [e]
  show some (D.bl (!_)) = some (D.bl (!_))
  congr 3
  unfold nD
  rw [List.any_map]
  by_cases h : v ∈ g
  · rw [dtrue h]
    exact List.any_eq_true.mpr ⟨v, h, by show ((v : Int) == (v : Int)) = true; simp⟩
  · rw [dfalse h]
    refine List.any_eq_false.mpr fun a ha => ?_
    show ¬ ((a : Int) == (v : Int)) = true
    have : a ≠ v := fun e => h (e ▸ ha)
    simp
    omega
theorem eq_lD (g : List Nat) : dEq (.lst (nD g)) (.lst (nD g)) = some (.bl true) := by
  obtain ⟨q, h1, h2, h3⟩ := pys_of 1 (nD g) fun d hd => by
    obtain ⟨a, _, rfl⟩ := List.mem_map.mp hd
    exact .int _
  have hp : toPy (.lst (nD g)) = some (.list q) := by
    show ((toPys (nD g)).bind fun r => some (PyData.list r)) = _
    rw [h1]; rfl
  have hc : (PyData.list q).canLay0 = true := by simpa [PyData.canLay0] using h2
  have s : SeqAt.shaped (.list q) = true := by
    unfold SeqAt.shaped
    have hd : (PyData.list q).depth ≤ 64 := by show PyData.depthAll q + 1 ≤ 64; omega
    rw [hc, dtrue hd]
    rfl
  have g' : dEqG (.lst (nD g)) (.lst (nD g)) = some true := by
    unfold dEqG
    rw [hp]
    show (if SeqAt.shaped (.list q) = true ∧ SeqAt.shaped (.list q) = true then some (PyData.eqv (.list q) (.list q)) else none) = _
    rw [if_pos ⟨s, s⟩, SeqAt.eqv_refl _ hc]
  have e : eqB (.lst (nD g)) (.lst (nD g)) = some true := by simpa [eqB] using g'
  unfold dEq
  rw [e]
  rfl

def thr (p own : Nat) : List Nat := (List.range p).map fun k => (dsk p (own * p + k)).2
theorem place_turn (p : Nat) (hp : 1 ≤ p) (hp2 : p ≤ 8) (j : Nat) (hj : j ≤ p) (e0 e2 e3 e4 e5 e6 e7 y9 y10 : Option D) :
    ((gN 9 (.int (j : Int)) [e0, some (.int ((p + 1 : Nat) : Int)), e2, e3, e4, e5, e6, e7, some (.lst (nD (List.range j))), y9, y10, none]).bind B1__law_altered_right) = some (.nx [e0, some (.int ((p + 1 : Nat) : Int)), e2, e3, e4, e5, e6, e7, some (.lst (nD (List.range (j + 1)))), some (.int (j : Int)), some (.lst (nD (thr p j))), none]) := by
  have e1 : ((p + 1 : Nat) : Int) - 1 = (p : Int) := by omega
  have mo : mulOk (j : Int) (p : Int) = true := mulOk_r (by omega)
  have jp : (j : Int) * (p : Int) = ((j * p : Nat) : Int) := by rw [Int.natCast_mul]
  have c1 : lcL [11] (gN 11) tY (eOp dIx (eCall F_disk_of_value [] [none, none] (aCons (eV 1) (aCons (eOp dAdd (eOp dMul (eV 9) (eOp dSub (eV 1) (eC (.int 1)))) (eV 11)) aNil))) (eC (.int 1))) (rngD 0 1 p) [e0, some (.int ((p + 1 : Nat) : Int)), e2, e3, e4, e5, e6, e7, some (.lst (nD (List.range j))), some (.int (j : Int)), y10, none] = some (nD (thr p j), [e0, some (.int ((p + 1 : Nat) : Int)), e2, e3, e4, e5, e6, e7, some (.lst (nD (List.range j))), some (.int (j : Int)), y10, none]) := by
    have e : (rngD ((0 : Nat) : Int) 1 p).map (fun d => match d with | .int i => .int ((dsk p (j * p + i.toNat)).2 : Int) | d => d) = nD (thr p j) := rng_map 0 p _ (fun k => (dsk p (j * p + k)).2) fun i _ => by
      show D.int ((dsk p (j * p + ((0 + i : Nat) : Int).toNat)).2 : Int) = _
      rw [Int.toNat_natCast, Nat.zero_add]
    rw [← e]
    refine lcL_map _ _ _ fun d hd => ?_
    obtain ⟨k, hk⟩ := List.getElem?_of_mem hd
    obtain ⟨hkn, rfl⟩ := rng_at hk
    rw [show (0 : Int) + (k : Int) * 1 = (k : Int) by omega]
    have dk := disk_ok p hp (by omega) (j * p + k)
    have ad : ((j * p : Nat) : Int) + (k : Int) = ((j * p + k : Nat) : Int) := by omega
    have a1 : atI [D.int ((dsk p (j * p + k)).1 : Int), D.int ((dsk p (j * p + k)).2 : Int)] 1 = some (.int ((dsk p (j * p + k)).2 : Int)) := rfl
    unfold dkD at dk
    refine ⟨[e0, some (.int ((p + 1 : Nat) : Int)), e2, e3, e4, e5, e6, e7, some (.lst (nD (List.range j))), some (.int (j : Int)), y10, some (.int (k : Int))], [e0, some (.int ((p + 1 : Nat) : Int)), e2, e3, e4, e5, e6, e7, some (.lst (nD (List.range j))), some (.int (j : Int)), y10, some (.int (k : Int))], rfl, ?_, rfl⟩
    show _ = some (D.int ((dsk p (j * p + (k : Int).toNat)).2 : Int), _)
    rw [Int.toNat_natCast]
    simp only [rO, rS, rE, rL, rB, bs, dcT, Bool.and_true, Bool.not_true, Bool.not_false, List.map, List.replicate, List.cons_append, List.nil_append, List.append_nil, List.length_cons, List.length_nil, List.mem_singleton, reduceCtorEq, Nat.reduceAdd, Nat.reduceSub, Nat.reduceLT, iD_len, e1, mo, jp, ad, dk, a1]
  have c2 : lcL [11] (gN 11) (tV (eOp dNotInA (eV 11) (eV 10))) (eLf (eV 11)) (rngD 0 1 (p + 1)) [e0, some (.int ((p + 1 : Nat) : Int)), e2, e3, e4, e5, e6, e7, some (.lst (nD (List.range j))), some (.int (j : Int)), some (.lst (nD (thr p j))), none] = some (nD [j], [e0, some (.int ((p + 1 : Nat) : Int)), e2, e3, e4, e5, e6, e7, some (.lst (nD (List.range j))), some (.int (j : Int)), some (.lst (nD (thr p j))), none]) := by
    have e : ((rngD 0 1 (p + 1)).filter fun d => match d with | .int i => !decide (i.toNat ∈ thr p j) | _ => false).map (fun d => d) = nD [j] := by
      have e0 : rngD 0 1 (p + 1) = (List.range (p + 1)).map (fun i : Nat => D.int (i : Int)) := List.map_congr_left fun i _ => by
        show D.int _ = _
        congr 1
        omega
      have l1 := lacks_one ⟨p, by omega⟩ hp ⟨j, by omega⟩ hj
      have l2 : (List.range (p + 1)).filter (fun k => !decide (k ∈ thr p j)) = [j] := l1
      rw [List.map_id', e0, List.filter_map, ← l2]
      rfl
    rw [← e]
    refine lcL_filter _ _ _ _ fun d hd => ?_
    obtain ⟨k, hk⟩ := List.getElem?_of_mem hd
    obtain ⟨hkn, rfl⟩ := rng_at hk
    rw [show (0 : Int) + (k : Int) * 1 = (k : Int) by omega]
    have i1 := in_lD k (thr p j)
    refine ⟨[e0, some (.int ((p + 1 : Nat) : Int)), e2, e3, e4, e5, e6, e7, some (.lst (nD (List.range j))), some (.int (j : Int)), some (.lst (nD (thr p j))), some (.int (k : Int))], [e0, some (.int ((p + 1 : Nat) : Int)), e2, e3, e4, e5, e6, e7, some (.lst (nD (List.range j))), some (.int (j : Int)), some (.lst (nD (thr p j))), some (.int (k : Int))], rfl, ?_, rfl, fun _ => ⟨[e0, some (.int ((p + 1 : Nat) : Int)), e2, e3, e4, e5, e6, e7, some (.lst (nD (List.range j))), some (.int (j : Int)), some (.lst (nD (thr p j))), some (.int (k : Int))], ?_, rfl⟩⟩
    · show _ = some (!decide ((k : Int).toNat ∈ thr p j), _)
      rw [Int.toNat_natCast]
      simp only [rO, rS, rE, rL, rB, bs, dcT, Bool.and_true, Bool.not_true, Bool.not_false, List.map, List.replicate, List.cons_append, List.nil_append, List.append_nil, List.length_cons, List.length_nil, List.mem_singleton, reduceCtorEq, Nat.reduceAdd, Nat.reduceSub, Nat.reduceLT, iD_len, i1]
    · simp only [rO, rS, rE, rL, rB, bs, dcT, Bool.and_true, Bool.not_true, Bool.not_false, List.map, List.replicate, List.cons_append, List.nil_append, List.append_nil, List.length_cons, List.length_nil, List.mem_singleton, reduceCtorEq, Nat.reduceAdd, Nat.reduceSub, Nat.reduceLT, iD_len, ]
  have zp : p ≤ sizeLine := szl (by omega)
  have zq : p + 1 ≤ sizeLine := szl (by omega)
  have zs : (List.range j).length + [j].length ≤ sizeLine := szl (by rw [List.length_range]; simp; omega)
  have ap : nD (List.range j) ++ nD [j] = nD (List.range (j + 1)) := by rw [← nD_app, List.range_succ]
  show B1__law_altered_right [e0, some (.int ((p + 1 : Nat) : Int)), e2, e3, e4, e5, e6, e7, some (.lst (nD (List.range j))), some (.int (j : Int)), y10, none] = _
  unfold B1__law_altered_right
  refine seq_go (e1 := [e0, some (.int ((p + 1 : Nat) : Int)), e2, e3, e4, e5, e6, e7, some (.lst (nD (List.range j))), some (.int (j : Int)), some (.lst (nD (thr p j))), none]) ?_ ?_
  · simp only [rO, rS, rE, rL, rB, bs, dcT, Bool.and_true, Bool.not_true, Bool.not_false, List.map, List.replicate, List.cons_append, List.nil_append, List.append_nil, List.length_cons, List.length_nil, List.mem_singleton, reduceCtorEq, Nat.reduceAdd, Nat.reduceSub, Nat.reduceLT, iD_len, e1, Int.toNat_natCast, rng_len, zp, c1]
  · have z3 : (nD (List.range j)).length + (nD [j]).length ≤ sizeLine := by rw [nD_len, nD_len]; exact zs
    simp only [rO, rS, rE, rL, rB, bs, dcT, Bool.and_true, Bool.not_true, Bool.not_false, List.map, List.replicate, List.cons_append, List.nil_append, List.append_nil, List.length_cons, List.length_nil, List.mem_singleton, reduceCtorEq, Nat.reduceAdd, Nat.reduceSub, Nat.reduceLT, iD_len, Int.toNat_natCast, rng_len, zq, c2]
    show ((if lfs (nD (List.range j)) = true ∧ lfs (nD [j]) = true ∧ (nD (List.range j)).length + (nD [j]).length ≤ sizeLine then some (D.lst (nD (List.range j) ++ nD [j])) else none).bind _).bind _ = _
    rw [if_pos ⟨lfs_nD _, lfs_nD _, z3⟩, ap]
    rfl

set_option maxHeartbeats 0 in
theorem altered_ok (p : Nat) (hp : 1 ≤ p) (hp2 : p ≤ 8) (rows : List (List Nat)) (hw : ∀ r ∈ rows, r.length = p + 1) (hz : ∀ r ∈ rows, xr r = 0) (hl : rows.length ≤ 1000) (h0 : 0 < rows.length) (xs : List Int) : ∃ xs', F__law_altered_right [.lst (iD xs), .int ((p + 1 : Nat) : Int), .tup (rD rows)] = some (.bl true, [.lst (iD xs'), .int ((p + 1 : Nat) : Int), .tup (rD rows)]) := by
  obtain ⟨s, x1, hs, t1⟩ := take_some xs rows.length h0
  obtain ⟨d, x2, hd, t2⟩ := take_some x1 (p + 1) (by omega)
  obtain ⟨q, x3, hq, t3⟩ := take_some x2 99 (by decide)
  have t3' : F__law_take [.lst (iD x2), .int 99] = some (.int (q : Int), [.lst (iD x3), .int 99]) := t3
  obtain ⟨b, hb⟩ : ∃ b, b = 1 + q := ⟨_, rfl⟩
  have e3 : (1 : Int) + (q : Int) = (b : Int) := by omega
  obtain ⟨o, ho⟩ : ∃ o, o = (d + 1) % (p + 1) := ⟨_, rfl⟩
  have hop : o < p + 1 := by rw [ho]; exact Nat.mod_lt _ (by omega)
  have em : (if 0 < ((p + 1 : Nat) : Int) then some (D.int (((d : Int) + 1) % ((p + 1 : Nat) : Int))) else none) = some (D.int (o : Int)) := by
    rw [if_pos (by omega), ho, Int.natCast_emod]
    congr 2
  have hr : rows[s].length = p + 1 := hw _ (List.getElem_mem hs)
  have r0 : xr rows[s] = 0 := hz _ (List.getElem_mem hs)
  have ra := rD_at (List.getElem?_eq_getElem hs)
  have alt1 : ∀ (r : List Nat) (k : Nat), r.length = p + 1 → k < p + 1 → atI (nD r) (k : Int) = some (.int (r.getD k 0 : Int)) := fun r k h1 h2 => by
    rw [getDe _ _ (by omega)]
    exact atI_nD (List.getElem?_eq_getElem (by omega))
  have g1 := alt1 rows[s] d hr hd
  have hr2 : (alt rows[s] d b).length = p + 1 := by rw [alt_len]; exact hr
  have g2 := alt1 (alt rows[s] d b) o hr2 hop
  have x1' : xr (alt rows[s] d b) = b := by rw [xr_set b _ d (by omega), r0, Nat.zero_xor]
  have x2' : xr (alt (alt rows[s] d b) o b) = 0 := by rw [xr_set b _ o (by omega), x1', Nat.xor_self]
  have b1 := bad_set rows hz s (alt rows[s] d b) hs
  rw [if_neg (by omega)] at b1
  have b2 := bad_set rows hz s (alt (alt rows[s] d b) o b) hs
  rw [if_pos x2'] at b2
  have k1 := bad_ok (rows.set s (alt rows[s] d b)) (by rw [List.length_set]; exact hl)
  have k2 := bad_ok (rows.set s (alt (alt rows[s] d b) o b)) (by rw [List.length_set]; exact hl)
  have k3 := whole_ok (rows.set s (alt rows[s] d b)) (by rw [List.length_set]; exact hl)
  rw [b1] at k1 k3
  rw [b2] at k2
  have k1' : F_bad_stripes [.tup (rD (rows.set s (alt rows[s] d b)))] = some (.tup [.int (s : Int)], [.tup (rD (rows.set s (alt rows[s] d b)))]) := k1
  have k2' : F_bad_stripes [.tup (rD (rows.set s (alt (alt rows[s] d b) o b)))] = some (.tup [], [.tup (rD (rows.set s (alt (alt rows[s] d b) o b)))]) := k2
  have k3' : F_is_whole_row [.tup (rD (rows.set s (alt rows[s] d b)))] = some (.bl false, [.tup (rD (rows.set s (alt rows[s] d b)))]) := k3
  have s1 : F__law_same [.tup [.int (s : Int)], .tup [.int (s : Int)]] = some (.bl true, [.tup [.int (s : Int)], .tup [.int (s : Int)]]) := same_ok (d := .tup (nD [s])) Pl.nD
  have s2 := same_ok (d := .bl false) (.bl false)
  have s3 : F__law_same [.tup [], .tup []] = some (.bl true, [.tup [], .tup []]) := same_ok (d := .tup (nD [])) Pl.nD
  have c1 : ∀ k : Nat, (k : Int) + 1 = ((k + 1 : Nat) : Int) := fun k => by omega
  have cutrow : ∀ (r : List Nat) (k : Nat), r.length = p + 1 → lfs ((nD r).take k) = true ∧ lfs ((nD r).drop (k + 1)) = true ∧ (∀ z : Int, lfs ((nD r).take k ++ [D.int z]) = true) ∧ ((nD r).take k).length + 1 ≤ sizeLine ∧ (∀ z : Int, ((nD r).take k ++ [D.int z]).length + ((nD r).drop (k + 1)).length ≤ sizeLine) := fun r k h => by
    refine ⟨by rw [nD_take]; exact lfs_nD _, by rw [nD_drop]; exact lfs_nD _, fun z => lfs_append (by rw [nD_take]; exact lfs_nD _) rfl, szl (by rw [List.length_take, nD_len]; omega), fun z => szl (by rw [List.length_append, List.length_take, List.length_drop, nD_len]; simp; omega)⟩
  obtain ⟨f1, f2, f3, f4, f5⟩ := cutrow rows[s] d hr
  obtain ⟨g3, g4, g5, g6, g7⟩ := cutrow (alt rows[s] d b) o hr2
  have rt : ∀ k, lfs ((rD rows).take k) = true := fun k => by
    have : (rD rows).take k = rD (rows.take k) := by unfold rD; rw [List.map_take]
    rw [this]; exact lfs_rD _
  have rd' : ∀ k, lfs ((rD rows).drop k) = true := fun k => by
    have : (rD rows).drop k = rD (rows.drop k) := by unfold rD; rw [List.map_drop]
    rw [this]; exact lfs_rD _
  have rm : ∀ r, lfs ((rD rows).take s ++ [D.tup (nD r)]) = true := fun r => lfs_append (rt s) (by show (lfs (nD r) && true) = true; rw [lfs_nD]; rfl)
  have n1 : ((rD rows).take s).length + 1 ≤ sizeLine := szl (by rw [List.length_take, rD_len]; omega)
  have n2 : ∀ r, ((rD rows).take s ++ [D.tup (nD r)]).length + ((rD rows).drop (s + 1)).length ≤ sizeLine := fun r => szl (by rw [List.length_append, List.length_take, List.length_drop, rD_len]; simp; omega)
  have row1 := alt_row rows[s] d b (by omega)
  have row2 := alt_row (alt rows[s] d b) o b (by omega)
  have set1 := set_rows rows s (alt rows[s] d b) hs
  have set2 := set_rows rows s (alt (alt rows[s] d b) o b) hs
  obtain ⟨ep, p1, y9, y10, p2⟩ := forL_rel (t := gN 9) (b := B1__law_altered_right) (ds := rngD 0 1 (p + 1)) (e := [some (.lst (iD x3)), some (.int ((p + 1 : Nat) : Int)), some (.tup (rD rows)), some (.int (s : Int)), some (.int (d : Int)), some (.int (b : Int)), some (.tup (nD (alt (alt rows[s] d b) o b))), some (.int (o : Int)), some (.lst []), none, none, none]) (fun j e => ∃ y9 y10, e = [some (.lst (iD x3)), some (.int ((p + 1 : Nat) : Int)), some (.tup (rD rows)), some (.int (s : Int)), some (.int (d : Int)), some (.int (b : Int)), some (.tup (nD (alt (alt rows[s] d b) o b))), some (.int (o : Int)), some (.lst (nD (List.range j))), y9, y10, none]) ⟨none, none, rfl⟩ fun j dd e hj ⟨y9, y10, he⟩ => by
    obtain ⟨hjn, rfl⟩ := rng_at hj
    subst he
    rw [show (0 : Int) + (j : Int) * 1 = (j : Int) by omega]
    exact ⟨_, place_turn p hp hp2 j (by omega) _ _ _ _ _ _ _ y9 y10, _, _, rfl⟩
  rw [rng_len] at p2
  subst p2
  have lr : rngD 0 1 (p + 1) = nD (List.range (p + 1)) := by
    have e0 : rngD 0 1 (p + 1) = (List.range (p + 1)).map (fun i : Nat => D.int (i : Int)) := List.map_congr_left fun i _ => by
      show D.int _ = _
      congr 1
      omega
    exact e0
  have eqp := eq_lD (List.range (p + 1))
  have z0 : 0 ≤ sizeLine := Nat.zero_le _
  have z1 : 1 ≤ sizeLine := by decide
  have na : ((p + 1 : Nat) : Int).natAbs ≤ 1000000 := by omega
  refine ⟨x3, ?_⟩
  unfold F__law_altered_right
  refine run_mu ⟨rfl, rfl⟩ (e := [some (.lst (iD x3)), some (.int ((p + 1 : Nat) : Int)), some (.tup (rD rows)), some (.int (s : Int)), some (.int (d : Int)), some (.int (b : Int)), some (.tup (nD (alt (alt rows[s] d b) o b))), some (.int (o : Int)), some (.lst (nD (List.range (p + 1)))), y9, y10, none]) ?_ (by decide) rfl
  unfold G__law_altered_right
  refine seq_go (e1 := [some (.lst (iD x1)), some (.int ((p + 1 : Nat) : Int)), some (.tup (rD rows)), some (.int (s : Int)), none, none, none, none, none, none, none, none]) ?_ (seq_go (e1 := [some (.lst (iD x2)), some (.int ((p + 1 : Nat) : Int)), some (.tup (rD rows)), some (.int (s : Int)), some (.int (d : Int)), none, none, none, none, none, none, none]) ?_ (seq_go (e1 := [some (.lst (iD x3)), some (.int ((p + 1 : Nat) : Int)), some (.tup (rD rows)), some (.int (s : Int)), some (.int (d : Int)), some (.int (b : Int)), none, none, none, none, none, none]) ?_ (seq_go (e1 := [some (.lst (iD x3)), some (.int ((p + 1 : Nat) : Int)), some (.tup (rD rows)), some (.int (s : Int)), some (.int (d : Int)), some (.int (b : Int)), some (.tup (nD (alt rows[s] d b))), none, none, none, none, none]) ?_ (seq_go (e1 := [some (.lst (iD x3)), some (.int ((p + 1 : Nat) : Int)), some (.tup (rD rows)), some (.int (s : Int)), some (.int (d : Int)), some (.int (b : Int)), some (.tup (nD (alt rows[s] d b))), none, none, none, none, none]) ?_ (seq_go (e1 := [some (.lst (iD x3)), some (.int ((p + 1 : Nat) : Int)), some (.tup (rD rows)), some (.int (s : Int)), some (.int (d : Int)), some (.int (b : Int)), some (.tup (nD (alt rows[s] d b))), some (.int (o : Int)), none, none, none, none]) ?_ (seq_go (e1 := [some (.lst (iD x3)), some (.int ((p + 1 : Nat) : Int)), some (.tup (rD rows)), some (.int (s : Int)), some (.int (d : Int)), some (.int (b : Int)), some (.tup (nD (alt (alt rows[s] d b) o b))), some (.int (o : Int)), none, none, none, none]) ?_ (seq_go (e1 := [some (.lst (iD x3)), some (.int ((p + 1 : Nat) : Int)), some (.tup (rD rows)), some (.int (s : Int)), some (.int (d : Int)), some (.int (b : Int)), some (.tup (nD (alt (alt rows[s] d b) o b))), some (.int (o : Int)), none, none, none, none]) ?_ (seq_go (e1 := [some (.lst (iD x3)), some (.int ((p + 1 : Nat) : Int)), some (.tup (rD rows)), some (.int (s : Int)), some (.int (d : Int)), some (.int (b : Int)), some (.tup (nD (alt (alt rows[s] d b) o b))), some (.int (o : Int)), some (.lst []), none, none, none]) ?_ (seq_go (for_go (ds := rngD 0 1 (p + 1)) (e1 := [some (.lst (iD x3)), some (.int ((p + 1 : Nat) : Int)), some (.tup (rD rows)), some (.int (s : Int)), some (.int (d : Int)), some (.int (b : Int)), some (.tup (nD (alt (alt rows[s] d b) o b))), some (.int (o : Int)), some (.lst []), none, none, none]) ?_ (lfs_rng _ _ _) p1) ?_)))))))))
  · simp only [rO, rS, rE, rL, rB, bs, dcT, Bool.and_true, Bool.not_true, Bool.not_false, List.map, List.replicate, List.cons_append, List.nil_append, List.append_nil, List.length_cons, List.length_nil, List.mem_singleton, reduceCtorEq, Nat.reduceAdd, Nat.reduceSub, Nat.reduceLT, iD_len, rD_len, t1]
  · simp only [rO, rS, rE, rL, rB, bs, dcT, Bool.and_true, Bool.not_true, Bool.not_false, List.map, List.replicate, List.cons_append, List.nil_append, List.append_nil, List.length_cons, List.length_nil, List.mem_singleton, reduceCtorEq, Nat.reduceAdd, Nat.reduceSub, Nat.reduceLT, iD_len, t2]
  · simp only [rO, rS, rE, rL, rB, bs, dcT, Bool.and_true, Bool.not_true, Bool.not_false, List.map, List.replicate, List.cons_append, List.nil_append, List.append_nil, List.length_cons, List.length_nil, List.mem_singleton, reduceCtorEq, Nat.reduceAdd, Nat.reduceSub, Nat.reduceLT, iD_len, t3', e3]
  · simp only [rO, rS, rE, rL, rB, bs, dcT, Bool.and_true, Bool.not_true, Bool.not_false, List.map, List.replicate, List.cons_append, List.nil_append, List.append_nil, List.length_cons, List.length_nil, List.mem_singleton, reduceCtorEq, Nat.reduceAdd, Nat.reduceSub, Nat.reduceLT, iD_len, ra, lfs_nD, cut_a, cut_b, g1, c1, bx, z1, f1, f2, f3, f4, f5, row1]
  · simp only [rO, rS, rE, rL, rB, bs, dcT, Bool.and_true, Bool.not_true, Bool.not_false, List.map, List.replicate, List.cons_append, List.nil_append, List.append_nil, List.length_cons, List.length_nil, List.mem_singleton, reduceCtorEq, Nat.reduceAdd, Nat.reduceSub, Nat.reduceLT, iD_len, lfs_rD, lfs_nD, cut_a, cut_b, c1, z1, rt, rd', rm, n1, n2, set1, k1', s1, k3', s2]
  · simp only [rO, rS, rE, rL, rB, bs, dcT, Bool.and_true, Bool.not_true, Bool.not_false, List.map, List.replicate, List.cons_append, List.nil_append, List.append_nil, List.length_cons, List.length_nil, List.mem_singleton, reduceCtorEq, Nat.reduceAdd, Nat.reduceSub, Nat.reduceLT, iD_len, em]
  · simp only [rO, rS, rE, rL, rB, bs, dcT, Bool.and_true, Bool.not_true, Bool.not_false, List.map, List.replicate, List.cons_append, List.nil_append, List.append_nil, List.length_cons, List.length_nil, List.mem_singleton, reduceCtorEq, Nat.reduceAdd, Nat.reduceSub, Nat.reduceLT, iD_len, lfs_nD, cut_a, cut_b, g2, c1, bx, z1, g3, g4, g5, g6, g7, row2]
  · simp only [rO, rS, rE, rL, rB, bs, dcT, Bool.and_true, Bool.not_true, Bool.not_false, List.map, List.replicate, List.cons_append, List.nil_append, List.append_nil, List.length_cons, List.length_nil, List.mem_singleton, reduceCtorEq, Nat.reduceAdd, Nat.reduceSub, Nat.reduceLT, iD_len, lfs_rD, lfs_nD, cut_a, cut_b, c1, z0, z1, rt, rd', rm, n1, n2, set2, k2', s3]
  · simp only [rO, rS, rE, rL, rB, bs, dcT, Bool.and_true, Bool.not_true, Bool.not_false, List.map, List.replicate, List.cons_append, List.nil_append, List.append_nil, List.length_cons, List.length_nil, List.mem_singleton, reduceCtorEq, Nat.reduceAdd, Nat.reduceSub, Nat.reduceLT, iD_len, z0]
  · simp only [rO, rS, rE, rL, rB, bs, dcT, Bool.and_true, Bool.not_true, Bool.not_false, List.map, List.replicate, List.cons_append, List.nil_append, List.append_nil, List.length_cons, List.length_nil, List.mem_singleton, reduceCtorEq, Nat.reduceAdd, Nat.reduceSub, Nat.reduceLT, iD_len, Int.toNat_natCast]
  · simp only [rO, rS, rE, rL, rB, bs, dcT, Bool.and_true, Bool.not_true, Bool.not_false, List.map, List.replicate, List.cons_append, List.nil_append, List.append_nil, List.length_cons, List.length_nil, List.mem_singleton, reduceCtorEq, Nat.reduceAdd, Nat.reduceSub, Nat.reduceLT, iD_len, na, Int.toNat_natCast, lr, eqp]


theorem law_turn (p : Nat) (hp : 1 ≤ p) (hp2 : p ≤ 8) (xs ns : List Int) (y2 y3 y4 : Option D) : ∃ xs' z3 z4, ((gN 2 (.int ((p + 1 : Nat) : Int)) [some (.rol (iD ns)), some (.lst (iD xs)), y2, y3, y4, none]).bind B1_law) = some (.nx [some (.rol (iD ns)), some (.lst (iD xs')), some (.int ((p + 1 : Nat) : Int)), z3, z4, none]) := by
  obtain ⟨mm, x1, hmm, t1⟩ := take_some xs 41 (by decide)
  have t1' : F__law_take [.lst (iD xs), .int 41] = some (.int (mm : Int), [.lst (iD x1), .int 41]) := t1
  obtain ⟨vs, x2, hvl, hv⟩ := values_ok x1 ns mm (by omega)
  have hv5 : vs.length ≤ 500 := by omega
  have s1 := stripes_ok p hp (by omega) vs hv5
  have s2 := lstripes_ok p hp (by omega) vs hv5
  have s3 := same_ok (d := .tup (rD (rowsOf p vs))) Pl.rD
  have R := rows_ok p hp (by omega) vs hv5
  obtain ⟨x3, h3⟩ := gone_ok p hp hp2 vs hv5 (rowsOf p vs) R x2
  have first : ∀ (o : Option Out), (sIf (tA (tV (eOp dGt (eB gLen (aCons (eV 3) aNil)) (eC (.int 0)))) (tO (tN (tV (eCall F__law_changed_right [(0, 1)] [some 1, none, none, none, none] (bNm 1 (aCons (eV 0) (aCons (eV 2) (aCons (eV 3) (aCons (eV 4) aNil)))))))) (tN (tV (eCall F__law_altered_right [(0, 1)] [some 1, none, none] (bNm 1 (aCons (eV 2) (aCons (eV 4) aNil))))))))
      (sRet (eC (.bl false))) sNil) [some (.rol (iD ns)), some (.lst (iD x3)), some (.int ((p + 1 : Nat) : Int)), some (.tup (nD vs)), some (.tup (rD (rowsOf p vs))), none] = o → B1_law [some (.rol (iD ns)), some (.lst (iD xs)), some (.int ((p + 1 : Nat) : Int)), y3, y4, none] = o := fun o ho => by
    unfold B1_law
    refine seq_go (e1 := [some (.rol (iD ns)), some (.lst (iD x2)), some (.int ((p + 1 : Nat) : Int)), some (.tup (nD vs)), y4, none]) ?_ (seq_go (e1 := [some (.rol (iD ns)), some (.lst (iD x2)), some (.int ((p + 1 : Nat) : Int)), some (.tup (nD vs)), some (.tup (rD (rowsOf p vs))), none]) ?_ (seq_go (e1 := [some (.rol (iD ns)), some (.lst (iD x3)), some (.int ((p + 1 : Nat) : Int)), some (.tup (nD vs)), some (.tup (rD (rowsOf p vs))), none]) ?_ ho))
    · simp only [rO, rS, rE, rL, rB, bs, dcT, Bool.and_true, Bool.not_true, Bool.not_false, List.map, List.replicate, List.cons_append, List.nil_append, List.append_nil, List.length_cons, List.length_nil, List.mem_singleton, reduceCtorEq, Nat.reduceAdd, Nat.reduceSub, Nat.reduceLT, iD_len, t1', hv]
    · simp only [rO, rS, rE, rL, rB, bs, dcT, Bool.and_true, Bool.not_true, Bool.not_false, List.map, List.replicate, List.cons_append, List.nil_append, List.append_nil, List.length_cons, List.length_nil, List.mem_singleton, reduceCtorEq, Nat.reduceAdd, Nat.reduceSub, Nat.reduceLT, iD_len, s1]
    · simp only [rO, rS, rE, rL, rB, bs, dcT, Bool.and_true, Bool.not_true, Bool.not_false, List.map, List.replicate, List.cons_append, List.nil_append, List.append_nil, List.length_cons, List.length_nil, List.mem_singleton, reduceCtorEq, Nat.reduceAdd, Nat.reduceSub, Nat.reduceLT, iD_len, s2, s3, h3]
  by_cases h0 : 0 < vs.length
  · obtain ⟨x4, h4⟩ := changed_ok p hp hp2 vs hv5 h0 x3 ns
    have rp : 0 < (rowsOf p vs).length := by
      rw [rows_len]
      have := nch_big p hp vs
      cases h : nch p vs with
      | zero => rw [h, Nat.zero_mul] at this; omega
      | succ n => omega
    obtain ⟨x5, h5⟩ := altered_ok p hp hp2 (rowsOf p vs) R.wide R.zero R.len rp x4
    refine ⟨x5, some (.tup (nD vs)), some (.tup (rD (rowsOf p vs))), first _ ?_⟩
    simp only [rO, rS, rE, rL, rB, bs, dcT, Bool.and_true, Bool.not_true, Bool.not_false, List.map, List.replicate, List.cons_append, List.nil_append, List.append_nil, List.length_cons, List.length_nil, List.mem_singleton, reduceCtorEq, Nat.reduceAdd, Nat.reduceSub, Nat.reduceLT, iD_len, nD_len, dtrue (show (0 : Int) < (vs.length : Int) by omega), h4, h5]
  · refine ⟨x3, some (.tup (nD vs)), some (.tup (rD (rowsOf p vs))), first _ ?_⟩
    simp only [rO, rS, rE, rL, rB, bs, dcT, Bool.and_true, Bool.not_true, Bool.not_false, List.map, List.replicate, List.cons_append, List.nil_append, List.append_nil, List.length_cons, List.length_nil, List.mem_singleton, reduceCtorEq, Nat.reduceAdd, Nat.reduceSub, Nat.reduceLT, iD_len, nD_len, dfalse (show ¬ (0 : Int) < (vs.length : Int) by omega)]
theorem cc1 : F_stripes_of [.int 4, .tup [.int 5, .int 6, .int 7, .int 8]] = some (.tup (rD [[4, 5, 6, 7], [8, 8, 0, 0]]), [.int 4, .tup [.int 5, .int 6, .int 7, .int 8]]) := stripes_ok 3 (by decide) (by decide) [5, 6, 7, 8] (by decide)
theorem cs1 : F__law_same [.tup (rD [[4, 5, 6, 7], [8, 8, 0, 0]]), .tup [.tup [.int 4, .int 5, .int 6, .int 7], .tup [.int 8, .int 8, .int 0, .int 0]]] = some (.bl true, [.tup (rD [[4, 5, 6, 7], [8, 8, 0, 0]]), .tup [.tup [.int 4, .int 5, .int 6, .int 7], .tup [.int 8, .int 8, .int 0, .int 0]]]) := same_ok (d := .tup (rD [[4, 5, 6, 7], [8, 8, 0, 0]])) Pl.rD
theorem cs2 : F__law_same [.tup (rD [[4, 5, 6, 7], [8, 8, 0, 0]]), .tup (rD [[4, 5, 6, 7], [8, 8, 0, 0]])] = some (.bl true, [.tup (rD [[4, 5, 6, 7], [8, 8, 0, 0]]), .tup (rD [[4, 5, 6, 7], [8, 8, 0, 0]])]) := same_ok (d := .tup (rD [[4, 5, 6, 7], [8, 8, 0, 0]])) Pl.rD
theorem cc2 : F_mended_stripes [.int 4, .tup [.tup [.int 4, .non, .int 6, .int 7], .tup [.int 8, .int 8, .int 0, .non]]] = some (.tup (rD [[4, 5, 6, 7], [8, 8, 0, 0]]), [.int 4, .tup [.tup [.int 4, .non, .int 6, .int 7], .tup [.int 8, .int 8, .int 0, .non]]]) :=
  mended_ok (.int 4) [[some 4, none, some 6, some 7], [some 8, some 8, some 0, none]] (by decide) (by decide)
theorem cc3 : F_count_lost [.int 4, .tup [.int 1, .int 2], .int 4] = some (.int 2, [.int 4, .tup [.int 1, .int 2], .int 4]) := lost_ok 3 (by decide) (by decide) [1, 2] 4
theorem cc4 : F_bad_stripes [.tup [.tup [.int 1, .int 1], .tup [.int 1, .int 2]]] = some (.tup [.int 1], [.tup [.tup [.int 1, .int 1], .tup [.int 1, .int 2]]]) := bad_ok [[1, 1], [1, 2]] (by decide)
theorem cc5 : F_values_of [.int 4, .tup (rD [[4, 5, 6, 7], [8, 8, 0, 0]]), .int 4] = some (.tup [.int 5, .int 6, .int 7, .int 8], [.int 4, .tup (rD [[4, 5, 6, 7], [8, 8, 0, 0]]), .int 4]) := values_of_ok 3 (by decide) [[4, 5, 6, 7], [8, 8, 0, 0]] (by decide) (by decide) 4
theorem csI (i : Int) : F__law_same [.int i, .int i] = some (.bl true, [.int i, .int i]) := same_ok (.int i)
theorem cs3 : F__law_same [.tup [.int 1], .tup [.int 1]] = some (.bl true, [.tup [.int 1], .tup [.int 1]]) := same_ok (d := .tup (nD [1])) Pl.nD
theorem cs4 : F__law_same [.tup [.int 5, .int 6, .int 7, .int 8], .tup [.int 5, .int 6, .int 7, .int 8]] = some (.bl true, [.tup [.int 5, .int 6, .int 7, .int 8], .tup [.int 5, .int 6, .int 7, .int 8]]) := same_ok (d := .tup (nD [5, 6, 7, 8])) Pl.nD
theorem law_true : ∀ ns : List Int, ns.length ≤ 63 → ∃ e, F_law [.rol (iD ns)] = some (.bl true, e) := fun ns hn => by
  obtain ⟨xs, h1⟩ := draws_ok ns hn (many := 720) (by decide) (by decide)
  obtain ⟨a, x1, ha, t1⟩ := take_some xs 3 (by decide)
  have t1' : F__law_take [.lst (iD xs), .int 3] = some (.int (a : Int), [.lst (iD x1), .int 3]) := t1
  obtain ⟨b, x2, hb, t2⟩ := take_some x1 7 (by decide)
  have t2' : F__law_take [.lst (iD x1), .int 7] = some (.int (b : Int), [.lst (iD x2), .int 7]) := t2
  obtain ⟨x3, y3, y4, r1⟩ := law_turn (1 + a) (by omega) (by omega) x2 ns none none none
  obtain ⟨x4, z3, z4, r2⟩ := law_turn (1 + b) (by omega) (by omega) x3 ns (some (.int ((1 + a + 1 : Nat) : Int))) y3 y4
  obtain ⟨x5, w3, w4, r3⟩ := law_turn 2 (by omega) (by omega) x4 ns (some (.int ((1 + b + 1 : Nat) : Int))) z3 z4
  have i1 : (2 : Int) + (a : Int) = ((1 + a + 1 : Nat) : Int) := by omega
  have i2 : (2 : Int) + (b : Int) = ((1 + b + 1 : Nat) : Int) := by omega
  have loop : forL (gN 2) B1_law [.int ((1 + a + 1 : Nat) : Int), .int ((1 + b + 1 : Nat) : Int), .int ((2 + 1 : Nat) : Int)] [some (.rol (iD ns)), some (.lst (iD x2)), none, none, none, none] = some (.nx [some (.rol (iD ns)), some (.lst (iD x5)), some (.int ((2 + 1 : Nat) : Int)), w3, w4, none]) := by
    rw [forL_go r1, forL_go r2, forL_go r3]
    rfl
  have z1 : 1 ≤ sizeLine := by decide
  have z2 : 2 ≤ sizeLine := by decide
  have z3' : 3 ≤ sizeLine := by decide
  have z4' : 4 ≤ sizeLine := by decide
  have s2 := csI 2
  refine ⟨[.rol (iD ns)], ?_⟩
  unfold F_law
  refine run_go ⟨rfl, rfl⟩ (e := [some (.rol (iD ns)), some (.lst (iD x5)), some (.int ((2 + 1 : Nat) : Int)), w3, w4, some (.tup (rD [[4, 5, 6, 7], [8, 8, 0, 0]]))]) ?_
  unfold G_law
  refine seq_go (e1 := [some (.rol (iD ns)), some (.lst (iD xs)), none, none, none, none]) ?_ (seq_go (for_go (ds := [.int ((1 + a + 1 : Nat) : Int), .int ((1 + b + 1 : Nat) : Int), .int ((2 + 1 : Nat) : Int)]) (e1 := [some (.rol (iD ns)), some (.lst (iD x2)), none, none, none, none]) ?_ rfl loop) (seq_go (e1 := [some (.rol (iD ns)), some (.lst (iD x5)), some (.int ((2 + 1 : Nat) : Int)), w3, w4, some (.tup (rD [[4, 5, 6, 7], [8, 8, 0, 0]]))]) ?_ (seq_go (e1 := [some (.rol (iD ns)), some (.lst (iD x5)), some (.int ((2 + 1 : Nat) : Int)), w3, w4, some (.tup (rD [[4, 5, 6, 7], [8, 8, 0, 0]]))]) ?_ ?_)))
  · simp only [rO, rS, rE, rL, rB, bs, dcT, Bool.and_true, Bool.not_true, Bool.not_false, List.map, List.replicate, List.cons_append, List.nil_append, List.append_nil, List.length_cons, List.length_nil, List.mem_singleton, reduceCtorEq, Nat.reduceAdd, Nat.reduceSub, Nat.reduceLT, iD_len, h1]
  · simp only [rO, rS, rE, rL, rB, bs, dcT, Bool.and_true, Bool.not_true, Bool.not_false, List.map, List.replicate, List.cons_append, List.nil_append, List.append_nil, List.length_cons, List.length_nil, List.mem_singleton, reduceCtorEq, Nat.reduceAdd, Nat.reduceSub, Nat.reduceLT, iD_len, t1', t2', z3', i1, i2]
    rfl
  · simp only [rO, rS, rE, rL, rB, bs, dcT, Bool.and_true, Bool.not_true, Bool.not_false, List.map, List.replicate, List.cons_append, List.nil_append, List.append_nil, List.length_cons, List.length_nil, List.mem_singleton, reduceCtorEq, Nat.reduceAdd, Nat.reduceSub, Nat.reduceLT, iD_len, cc1, z4']
  · simp only [rO, rS, rE, rL, rB, bs, dcT, Bool.and_true, Bool.not_true, Bool.not_false, List.map, List.replicate, List.cons_append, List.nil_append, List.append_nil, List.length_cons, List.length_nil, List.mem_singleton, reduceCtorEq, Nat.reduceAdd, Nat.reduceSub, Nat.reduceLT, iD_len, cs1, cc2, cs2, z2, z4']
  · simp only [rO, rS, rE, rL, rB, bs, dcT, Bool.and_true, Bool.not_true, Bool.not_false, List.map, List.replicate, List.cons_append, List.nil_append, List.append_nil, List.length_cons, List.length_nil, List.mem_singleton, reduceCtorEq, Nat.reduceAdd, Nat.reduceSub, Nat.reduceLT, iD_len, cc3, cc4, cc5, s2, cs3, cs4, z1, z2, z4']

end Law
set_option maxHeartbeats 0
namespace Law
open PySem PySem.Spec L2 VL
theorem all_mk {l : PySem.W.OpenLaw} {w : World} {K : PySem.W.Frag} {h : Heap} {mg : Str → Option Value} {fa f1 f2 f3 f4 f5 f6 f7 f8 f9 f10 f11 f12 f13 f14 f15 f16 f17 f18 f19 f20 f21 f22 f23 : Addr} (X : K.In h) (G : h.Ns mainGlobals mg) (hfa : mg "law" = some (.ref fa))
    {od1 an1 od2 an2 od3 an3 od4 an4 od5 an5 od6 an6 od7 an7 od8 an8 od9 an9 od10 an10 od11 an11 od12 an12 od13 an13 od14 an14 od15 an15 od16 an16 od17 an17 od18 an18 od19 an19 od20 an20 od21 an21 od22 an22 od23 an23 : Option Addr} {sl1 sl2 sl3 sl4 sl5 sl6 sl7 sl8 sl9 sl10 sl11 sl12 sl13 sl14 sl15 sl16 sl17 sl18 sl19 sl20 sl21 sl22 sl23 : Array (Option Value)} {oc1 kV1 dc1 pm1 cd1 ct1 oc2 kV2 dc2 pm2 cd2 ct2 oc3 kV3 dc3 pm3 cd3 ct3 oc4 kV4 dc4 pm4 cd4 ct4 oc5 kV5 dc5 pm5 cd5 ct5 oc6 kV6 dc6 pm6 cd6 ct6 oc7 kV7 dc7 pm7 cd7 ct7 oc8 kV8 dc8 pm8 cd8 ct8 oc9 kV9 dc9 pm9 cd9 ct9 oc10 kV10 dc10 pm10 cd10 ct10 oc11 kV11 dc11 pm11 cd11 ct11 oc12 kV12 dc12 pm12 cd12 ct12 oc13 kV13 dc13 pm13 cd13 ct13 oc14 kV14 dc14 pm14 cd14 ct14 oc15 kV15 dc15 pm15 cd15 ct15 oc16 kV16 dc16 pm16 cd16 ct16 oc17 kV17 dc17 pm17 cd17 ct17 oc18 kV18 dc18 pm18 cd18 ct18 oc19 kV19 dc19 pm19 cd19 ct19 oc20 kV20 dc20 pm20 cd20 ct20 oc21 kV21 dc21 pm21 cd21 ct21 oc22 kV22 dc22 pm22 cd22 ct22 oc23 kV23 dc23 pm23 cd23 ct23 : Value}
    (a1 : PySem.W.nsIn K mainGlobals "_law_draws" = some (some (.ref f1))) (l1 : K.lookup f1 = some ⟨oc1, od1, .func (PySem.W.fnOf "_law_draws" "_law_draws" (defArgs (topS 13)) (defBody (topS 13)) (defScope (topS 13)) .none kV1 dc1 pm1 an1 cd1 ct1), sl1⟩) (c1 : PySem.W.codeIn K cd1 "_law_draws" = true) (k1 : PySem.W.keepIn K (.ref f1) = true)
    (a2 : PySem.W.nsIn K mainGlobals "added" = some (some (.ref f2))) (l2 : K.lookup f2 = some ⟨oc2, od2, .func (PySem.W.fnOf "added" "added" (defArgs (topS 1)) (defBody (topS 1)) (defScope (topS 1)) .none kV2 dc2 pm2 an2 cd2 ct2), sl2⟩) (c2 : PySem.W.codeIn K cd2 "added" = true) (k2 : PySem.W.keepIn K (.ref f2) = true)
    (a3 : PySem.W.nsIn K mainGlobals "stripes_of" = some (some (.ref f3))) (l3 : K.lookup f3 = some ⟨oc3, od3, .func (PySem.W.fnOf "stripes_of" "stripes_of" (defArgs (topS 2)) (defBody (topS 2)) (defScope (topS 2)) .none kV3 dc3 pm3 an3 cd3 ct3), sl3⟩) (c3 : PySem.W.codeIn K cd3 "stripes_of" = true) (k3 : PySem.W.keepIn K (.ref f3) = true)
    (a4 : PySem.W.nsIn K mainGlobals "_law_take" = some (some (.ref f4))) (l4 : K.lookup f4 = some ⟨oc4, od4, .func (PySem.W.fnOf "_law_take" "_law_take" (defArgs (topS 14)) (defBody (topS 14)) (defScope (topS 14)) .none kV4 dc4 pm4 an4 cd4 ct4), sl4⟩) (c4 : PySem.W.codeIn K cd4 "_law_take" = true) (k4 : PySem.W.keepIn K (.ref f4) = true)
    (a5 : PySem.W.nsIn K mainGlobals "_law_size" = some (some (.ref f5))) (l5 : K.lookup f5 = some ⟨oc5, od5, .func (PySem.W.fnOf "_law_size" "_law_size" (defArgs (topS 16)) (defBody (topS 16)) (defScope (topS 16)) .none kV5 dc5 pm5 an5 cd5 ct5), sl5⟩) (c5 : PySem.W.codeIn K cd5 "_law_size" = true) (k5 : PySem.W.keepIn K (.ref f5) = true)
    (a6 : PySem.W.nsIn K mainGlobals "_law_values" = some (some (.ref f6))) (l6 : K.lookup f6 = some ⟨oc6, od6, .func (PySem.W.fnOf "_law_values" "_law_values" (defArgs (topS 17)) (defBody (topS 17)) (defScope (topS 17)) .none kV6 dc6 pm6 an6 cd6 ct6), sl6⟩) (c6 : PySem.W.codeIn K cd6 "_law_values" = true) (k6 : PySem.W.keepIn K (.ref f6) = true)
    (a7 : PySem.W.nsIn K mainGlobals "_law_same" = some (some (.ref f7))) (l7 : K.lookup f7 = some ⟨oc7, od7, .func (PySem.W.fnOf "_law_same" "_law_same" (defArgs (topS 15)) (defBody (topS 15)) (defScope (topS 15)) .none kV7 dc7 pm7 an7 cd7 ct7), sl7⟩) (c7 : PySem.W.codeIn K cd7 "_law_same" = true) (k7 : PySem.W.keepIn K (.ref f7) = true)
    (a8 : PySem.W.nsIn K mainGlobals "disk_of_value" = some (some (.ref f8))) (l8 : K.lookup f8 = some ⟨oc8, od8, .func (PySem.W.fnOf "disk_of_value" "disk_of_value" (defArgs (topS 7)) (defBody (topS 7)) (defScope (topS 7)) .none kV8 dc8 pm8 an8 cd8 ct8), sl8⟩) (c8 : PySem.W.codeIn K cd8 "disk_of_value" = true) (k8 : PySem.W.keepIn K (.ref f8) = true)
    (a9 : PySem.W.nsIn K mainGlobals "lost_among" = some (some (.ref f9))) (l9 : K.lookup f9 = some ⟨oc9, od9, .func (PySem.W.fnOf "lost_among" "lost_among" (defArgs (topS 10)) (defBody (topS 10)) (defScope (topS 10)) .none kV9 dc9 pm9 an9 cd9 ct9), sl9⟩) (c9 : PySem.W.codeIn K cd9 "lost_among" = true) (k9 : PySem.W.keepIn K (.ref f9) = true)
    (a10 : PySem.W.nsIn K mainGlobals "count_lost" = some (some (.ref f10))) (l10 : K.lookup f10 = some ⟨oc10, od10, .func (PySem.W.fnOf "count_lost" "count_lost" (defArgs (topS 11)) (defBody (topS 11)) (defScope (topS 11)) .none kV10 dc10 pm10 an10 cd10 ct10), sl10⟩) (c10 : PySem.W.codeIn K cd10 "count_lost" = true) (k10 : PySem.W.keepIn K (.ref f10) = true)
    (a11 : PySem.W.nsIn K mainGlobals "bad_stripes" = some (some (.ref f11))) (l11 : K.lookup f11 = some ⟨oc11, od11, .func (PySem.W.fnOf "bad_stripes" "bad_stripes" (defArgs (topS 5)) (defBody (topS 5)) (defScope (topS 5)) .none kV11 dc11 pm11 an11 cd11 ct11), sl11⟩) (c11 : PySem.W.codeIn K cd11 "bad_stripes" = true) (k11 : PySem.W.keepIn K (.ref f11) = true)
    (a12 : PySem.W.nsIn K mainGlobals "values_of" = some (some (.ref f12))) (l12 : K.lookup f12 = some ⟨oc12, od12, .func (PySem.W.fnOf "values_of" "values_of" (defArgs (topS 3)) (defBody (topS 3)) (defScope (topS 3)) .none kV12 dc12 pm12 an12 cd12 ct12), sl12⟩) (c12 : PySem.W.codeIn K cd12 "values_of" = true) (k12 : PySem.W.keepIn K (.ref f12) = true)
    (a13 : PySem.W.nsIn K mainGlobals "_law_without" = some (some (.ref f13))) (l13 : K.lookup f13 = some ⟨oc13, od13, .func (PySem.W.fnOf "_law_without" "_law_without" (defArgs (topS 21)) (defBody (topS 21)) (defScope (topS 21)) .none kV13 dc13 pm13 an13 cd13 ct13), sl13⟩) (c13 : PySem.W.codeIn K cd13 "_law_without" = true) (k13 : PySem.W.keepIn K (.ref f13) = true)
    (a14 : PySem.W.nsIn K mainGlobals "mended_stripes" = some (some (.ref f14))) (l14 : K.lookup f14 = some ⟨oc14, od14, .func (PySem.W.fnOf "mended_stripes" "mended_stripes" (defArgs (topS 4)) (defBody (topS 4)) (defScope (topS 4)) .none kV14 dc14 pm14 an14 cd14 ct14), sl14⟩) (c14 : PySem.W.codeIn K cd14 "mended_stripes" = true) (k14 : PySem.W.keepIn K (.ref f14) = true)
    (a15 : PySem.W.nsIn K mainGlobals "is_whole_row" = some (some (.ref f15))) (l15 : K.lookup f15 = some ⟨oc15, od15, .func (PySem.W.fnOf "is_whole_row" "is_whole_row" (defArgs (topS 6)) (defBody (topS 6)) (defScope (topS 6)) .none kV15 dc15 pm15 an15 cd15 ct15), sl15⟩) (c15 : PySem.W.codeIn K cd15 "is_whole_row" = true) (k15 : PySem.W.keepIn K (.ref f15) = true)
    (a16 : PySem.W.nsIn K mainGlobals "_law_gone_right" = some (some (.ref f16))) (l16 : K.lookup f16 = some ⟨oc16, od16, .func (PySem.W.fnOf "_law_gone_right" "_law_gone_right" (defArgs (topS 22)) (defBody (topS 22)) (defScope (topS 22)) .none kV16 dc16 pm16 an16 cd16 ct16), sl16⟩) (c16 : PySem.W.codeIn K cd16 "_law_gone_right" = true) (k16 : PySem.W.keepIn K (.ref f16) = true)
    (a17 : PySem.W.nsIn K mainGlobals "_law_added" = some (some (.ref f17))) (l17 : K.lookup f17 = some ⟨oc17, od17, .func (PySem.W.fnOf "_law_added" "_law_added" (defArgs (topS 18)) (defBody (topS 18)) (defScope (topS 18)) .none kV17 dc17 pm17 an17 cd17 ct17), sl17⟩) (c17 : PySem.W.codeIn K cd17 "_law_added" = true) (k17 : PySem.W.keepIn K (.ref f17) = true)
    (a18 : PySem.W.nsIn K mainGlobals "_law_stripes" = some (some (.ref f18))) (l18 : K.lookup f18 = some ⟨oc18, od18, .func (PySem.W.fnOf "_law_stripes" "_law_stripes" (defArgs (topS 19)) (defBody (topS 19)) (defScope (topS 19)) .none kV18 dc18 pm18 an18 cd18 ct18), sl18⟩) (c18 : PySem.W.codeIn K cd18 "_law_stripes" = true) (k18 : PySem.W.keepIn K (.ref f18) = true)
    (a19 : PySem.W.nsIn K mainGlobals "reads_for" = some (some (.ref f19))) (l19 : K.lookup f19 = some ⟨oc19, od19, .func (PySem.W.fnOf "reads_for" "reads_for" (defArgs (topS 8)) (defBody (topS 8)) (defScope (topS 8)) .none kV19 dc19 pm19 an19 cd19 ct19), sl19⟩) (c19 : PySem.W.codeIn K cd19 "reads_for" = true) (k19 : PySem.W.keepIn K (.ref f19) = true)
    (a20 : PySem.W.nsIn K mainGlobals "writes_for" = some (some (.ref f20))) (l20 : K.lookup f20 = some ⟨oc20, od20, .func (PySem.W.fnOf "writes_for" "writes_for" (defArgs (topS 9)) (defBody (topS 9)) (defScope (topS 9)) .none kV20 dc20 pm20 an20 cd20 ct20), sl20⟩) (c20 : PySem.W.codeIn K cd20 "writes_for" = true) (k20 : PySem.W.keepIn K (.ref f20) = true)
    (a21 : PySem.W.nsIn K mainGlobals "_law_changed_right" = some (some (.ref f21))) (l21 : K.lookup f21 = some ⟨oc21, od21, .func (PySem.W.fnOf "_law_changed_right" "_law_changed_right" (defArgs (topS 23)) (defBody (topS 23)) (defScope (topS 23)) .none kV21 dc21 pm21 an21 cd21 ct21), sl21⟩) (c21 : PySem.W.codeIn K cd21 "_law_changed_right" = true) (k21 : PySem.W.keepIn K (.ref f21) = true)
    (a22 : PySem.W.nsIn K mainGlobals "_law_altered_right" = some (some (.ref f22))) (l22 : K.lookup f22 = some ⟨oc22, od22, .func (PySem.W.fnOf "_law_altered_right" "_law_altered_right" (defArgs (topS 24)) (defBody (topS 24)) (defScope (topS 24)) .none kV22 dc22 pm22 an22 cd22 ct22), sl22⟩) (c22 : PySem.W.codeIn K cd22 "_law_altered_right" = true) (k22 : PySem.W.keepIn K (.ref f22) = true)
    (a23 : PySem.W.nsIn K mainGlobals "law" = some (some (.ref f23))) (l23 : K.lookup f23 = some ⟨oc23, od23, .func (PySem.W.fnOf "law" "law" (defArgs (topS 25)) (defBody (topS 25)) (defScope (topS 25)) .none kV23 dc23 pm23 an23 cd23 ct23), sl23⟩) (c23 : PySem.W.codeIn K cd23 "law" = true) (k23 : PySem.W.keepIn K (.ref f23) = true)
    (z1 : PySem.W.nsIn K mainGlobals "abs" = some none) (z2 : PySem.W.nsIn K mainGlobals "bool" = some none) (z3 : PySem.W.nsIn K mainGlobals "int" = some none) (z4 : PySem.W.nsIn K mainGlobals "isinstance" = some none) (z5 : PySem.W.nsIn K mainGlobals "len" = some none) (z6 : PySem.W.nsIn K mainGlobals "list" = some none) (z7 : PySem.W.nsIn K mainGlobals "min" = some none) (z8 : PySem.W.nsIn K mainGlobals "range" = some none) (z9 : PySem.W.nsIn K mainGlobals "sorted" = some none) (z10 : PySem.W.nsIn K mainGlobals "str" = some none) (z11 : PySem.W.nsIn K mainGlobals "tuple" = some none) :
    ∃ fd : FuncData, (∀ (s : Shared) (v : Value), BindsTo s fd ⟨[v], []⟩ [("script", v)]) ∧ ∀ base : Heap, K.In base → base.Ns mainGlobals mg → FnOk l.prog w K mg base CX0 15 fa fd ["script"] (spF K 1 [] F_law) := by
  have e := hfa.symm.trans (PySem.W.mg_of X G a23)
  cases e
  have m_abs := PySem.W.mg_none_of X G z1
  have m_bool := PySem.W.mg_none_of X G z2
  have m_int := PySem.W.mg_none_of X G z3
  have m_isinstance := PySem.W.mg_none_of X G z4
  have m_len := PySem.W.mg_none_of X G z5
  have m_list := PySem.W.mg_none_of X G z6
  have m_min := PySem.W.mg_none_of X G z7
  have m_range := PySem.W.mg_none_of X G z8
  have m_sorted := PySem.W.mg_none_of X G z9
  have m_str := PySem.W.mg_none_of X G z10
  have m_tuple := PySem.W.mg_none_of X G z11
  have F1 := fun_mk (st := topS 13) l1 c1 k1
  have b1 := F1.binds (ps := ["script", "many"]) fun _ _ _ _ _ _ us hl => match us, hl with | [_, _], _ => rfl
  have F2 := fun_mk (st := topS 1) l2 c2 k2
  have b2 := F2.binds (ps := ["numbers"]) fun _ _ _ _ _ _ us hl => match us, hl with | [_], _ => rfl
  have F3 := fun_mk (st := topS 2) l3 c3 k3
  have b3 := F3.binds (ps := ["n", "values"]) fun _ _ _ _ _ _ us hl => match us, hl with | [_, _], _ => rfl
  have F4 := fun_mk (st := topS 14) l4 c4 k4
  have b4 := F4.binds (ps := ["draws", "many"]) fun _ _ _ _ _ _ us hl => match us, hl with | [_, _], _ => rfl
  have F5 := fun_mk (st := topS 16) l5 c5 k5
  have b5 := F5.binds (ps := ["draws", "script"]) fun _ _ _ _ _ _ us hl => match us, hl with | [_, _], _ => rfl
  have F6 := fun_mk (st := topS 17) l6 c6 k6
  have b6 := F6.binds (ps := ["draws", "script", "many"]) fun _ _ _ _ _ _ us hl => match us, hl with | [_, _, _], _ => rfl
  have F7 := fun_mk (st := topS 15) l7 c7 k7
  have b7 := F7.binds (ps := ["actual", "due"]) fun _ _ _ _ _ _ us hl => match us, hl with | [_, _], _ => rfl
  have F8 := fun_mk (st := topS 7) l8 c8 k8
  have b8 := F8.binds (ps := ["n", "at"]) fun _ _ _ _ _ _ us hl => match us, hl with | [_, _], _ => rfl
  have F9 := fun_mk (st := topS 10) l9 c9 k9
  have b9 := F9.binds (ps := ["n", "gone", "many"]) fun _ _ _ _ _ _ us hl => match us, hl with | [_, _, _], _ => rfl
  have F10 := fun_mk (st := topS 11) l10 c10 k10
  have b10 := F10.binds (ps := ["n", "gone", "many"]) fun _ _ _ _ _ _ us hl => match us, hl with | [_, _, _], _ => rfl
  have F11 := fun_mk (st := topS 5) l11 c11 k11
  have b11 := F11.binds (ps := ["stripes"]) fun _ _ _ _ _ _ us hl => match us, hl with | [_], _ => rfl
  have F12 := fun_mk (st := topS 3) l12 c12 k12
  have b12 := F12.binds (ps := ["n", "stripes", "many"]) fun _ _ _ _ _ _ us hl => match us, hl with | [_, _, _], _ => rfl
  have F13 := fun_mk (st := topS 21) l13 c13 k13
  have b13 := F13.binds (ps := ["rows", "gone"]) fun _ _ _ _ _ _ us hl => match us, hl with | [_, _], _ => rfl
  have F14 := fun_mk (st := topS 4) l14 c14 k14
  have b14 := F14.binds (ps := ["n", "stripes"]) fun _ _ _ _ _ _ us hl => match us, hl with | [_, _], _ => rfl
  have F15 := fun_mk (st := topS 6) l15 c15 k15
  have b15 := F15.binds (ps := ["stripes"]) fun _ _ _ _ _ _ us hl => match us, hl with | [_], _ => rfl
  have F16 := fun_mk (st := topS 22) l16 c16 k16
  have b16 := F16.binds (ps := ["draws", "n", "values", "rows"]) fun _ _ _ _ _ _ us hl => match us, hl with | [_, _, _, _], _ => rfl
  have F17 := fun_mk (st := topS 18) l17 c17 k17
  have b17 := F17.binds (ps := ["numbers"]) fun _ _ _ _ _ _ us hl => match us, hl with | [_], _ => rfl
  have F18 := fun_mk (st := topS 19) l18 c18 k18
  have b18 := F18.binds (ps := ["n", "values"]) fun _ _ _ _ _ _ us hl => match us, hl with | [_, _], _ => rfl
  have F19 := fun_mk (st := topS 8) l19 c19 k19
  have b19 := F19.binds (ps := ["n", "changed"]) fun _ _ _ _ _ _ us hl => match us, hl with | [_, _], _ => rfl
  have F20 := fun_mk (st := topS 9) l20 c20 k20
  have b20 := F20.binds (ps := ["n", "at", "many"]) fun _ _ _ _ _ _ us hl => match us, hl with | [_, _, _], _ => rfl
  have F21 := fun_mk (st := topS 23) l21 c21 k21
  have b21 := F21.binds (ps := ["draws", "script", "n", "values", "rows"]) fun _ _ _ _ _ _ us hl => match us, hl with | [_, _, _, _, _], _ => rfl
  have F22 := fun_mk (st := topS 24) l22 c22 k22
  have b22 := F22.binds (ps := ["draws", "n", "rows"]) fun _ _ _ _ _ _ us hl => match us, hl with | [_, _, _], _ => rfl
  have F23 := fun_mk (st := topS 25) l23 c23 k23
  refine ⟨PySem.W.fnOf "law" "law" (defArgs (topS 25)) (defBody (topS 25)) (defScope (topS 25)) .none kV23 dc23 pm23 an23 cd23 ct23, fun s v => .of_eq rfl, fun base _ _ => ?_⟩
  have C__law_draws := c__law_draws (P := l.prog) (w := w) (base := base) F1 (PySem.W.mg_of X G a1) b1 m_int m_len m_list m_range 
  have C_added := c_added (P := l.prog) (w := w) (base := base) F2 (PySem.W.mg_of X G a2) b2  
  have C_stripes_of := c_stripes_of (P := l.prog) (w := w) (base := base) F3 (PySem.W.mg_of X G a3) b3 m_len m_list m_range m_tuple C_added
  have C__law_take := c__law_take (P := l.prog) (w := w) (base := base) F4 (PySem.W.mg_of X G a4) b4 m_int m_len 
  have C__law_size := c__law_size (P := l.prog) (w := w) (base := base) F5 (PySem.W.mg_of X G a5) b5 m_abs m_int m_len C__law_take
  have C__law_values := c__law_values (P := l.prog) (w := w) (base := base) F6 (PySem.W.mg_of X G a6) b6 m_int m_range m_tuple C__law_take C__law_size
  have C__law_same := c__law_same (P := l.prog) (w := w) (base := base) F7 (PySem.W.mg_of X G a7) b7 m_bool m_int m_isinstance m_len m_range m_str m_tuple 
  have C_disk_of_value := c_disk_of_value (P := l.prog) (w := w) (base := base) F8 (PySem.W.mg_of X G a8) b8  
  have C_lost_among := c_lost_among (P := l.prog) (w := w) (base := base) F9 (PySem.W.mg_of X G a9) b9 m_len m_range C_disk_of_value
  have C_count_lost := c_count_lost (P := l.prog) (w := w) (base := base) F10 (PySem.W.mg_of X G a10) b10 m_len C_lost_among
  have C_bad_stripes := c_bad_stripes (P := l.prog) (w := w) (base := base) F11 (PySem.W.mg_of X G a11) b11 m_len m_range m_tuple C_added
  have C_values_of := c_values_of (P := l.prog) (w := w) (base := base) F12 (PySem.W.mg_of X G a12) b12 m_len m_range m_tuple 
  have C__law_without := c__law_without (P := l.prog) (w := w) (base := base) F13 (PySem.W.mg_of X G a13) b13 m_int m_len m_range m_tuple 
  have C_mended_stripes := c_mended_stripes (P := l.prog) (w := w) (base := base) F14 (PySem.W.mg_of X G a14) b14 m_len m_tuple C_added
  have C_is_whole_row := c_is_whole_row (P := l.prog) (w := w) (base := base) F15 (PySem.W.mg_of X G a15) b15 m_len C_bad_stripes
  have C__law_gone_right := c__law_gone_right (P := l.prog) (w := w) (base := base) F16 (PySem.W.mg_of X G a16) b16 m_int m_len m_range m_sorted m_tuple C_mended_stripes C__law_without C__law_same C_values_of C_count_lost C__law_take C_is_whole_row C_disk_of_value
  have C__law_added := c__law_added (P := l.prog) (w := w) (base := base) F17 (PySem.W.mg_of X G a17) b17  
  have C__law_stripes := c__law_stripes (P := l.prog) (w := w) (base := base) F18 (PySem.W.mg_of X G a18) b18 m_int m_len m_range m_tuple C__law_added
  have C_reads_for := c_reads_for (P := l.prog) (w := w) (base := base) F19 (PySem.W.mg_of X G a19) b19 m_min 
  have C_writes_for := c_writes_for (P := l.prog) (w := w) (base := base) F20 (PySem.W.mg_of X G a20) b20 m_int m_min C_reads_for
  have C__law_changed_right := c__law_changed_right (P := l.prog) (w := w) (base := base) F21 (PySem.W.mg_of X G a21) b21 m_int m_len m_range m_tuple C__law_take C__law_size C_stripes_of C__law_same C__law_stripes C_disk_of_value C_writes_for C__law_values
  have C__law_altered_right := c__law_altered_right (P := l.prog) (w := w) (base := base) F22 (PySem.W.mg_of X G a22) b22 m_int m_len m_list m_range C__law_take C__law_same C_bad_stripes C_is_whole_row C_disk_of_value
  exact f_law F23 m_len C__law_draws C__law_take C__law_values C_stripes_of C__law_same C__law_stripes C__law_gone_right C__law_changed_right C__law_altered_right C_mended_stripes C_count_lost C_bad_stripes C_values_of
end Law
open PySem PySem.W PyProof.Rows
set_option maxHeartbeats 0 in
theorem PySem.Challenge.cw_spanslocked_k74_whole_any_disk_may_go_holds : PySem.Challenge.rw_spanslocked_k74_whole_any_disk_may_go.Holds := by
  w_on; o_law; k_head; (case hw => w_witness2)
  k_fill
  refine L2.walk_of (l := PySem.Challenge.rw_spanslocked_k74_whole_any_disk_may_go) (n := 63) (k := 15) (x := "script") (CX := fun _ => L2.CX0) (sp := fun w => VL.spF _ 1 [] Law.F_law) rfl (by decide) rfl ⟨rfl, by decide, by decide⟩ (fun w h Y => PySem.W.kIn_of Y) ?F (fun _ _ a ns hl ho hS => VL.law_sp Law.law_true hl ho hS) (fun _ _ _ _ _ h => h)
  case F =>
    intro w mg fa h KX G hmg
    refine' Law.all_mk KX G hmg ?a1 ?l1 ?c1 ?k1 ?a2 ?l2 ?c2 ?k2 ?a3 ?l3 ?c3 ?k3 ?a4 ?l4 ?c4 ?k4 ?a5 ?l5 ?c5 ?k5 ?a6 ?l6 ?c6 ?k6 ?a7 ?l7 ?c7 ?k7 ?a8 ?l8 ?c8 ?k8 ?a9 ?l9 ?c9 ?k9 ?a10 ?l10 ?c10 ?k10 ?a11 ?l11 ?c11 ?k11 ?a12 ?l12 ?c12 ?k12 ?a13 ?l13 ?c13 ?k13 ?a14 ?l14 ?c14 ?k14 ?a15 ?l15 ?c15 ?k15 ?a16 ?l16 ?c16 ?k16 ?a17 ?l17 ?c17 ?k17 ?a18 ?l18 ?c18 ?k18 ?a19 ?l19 ?c19 ?k19 ?a20 ?l20 ?c20 ?k20 ?a21 ?l21 ?c21 ?k21 ?a22 ?l22 ?c22 ?k22 ?a23 ?l23 ?c23 ?k23 ?z1 ?z2 ?z3 ?z4 ?z5 ?z6 ?z7 ?z8 ?z9 ?z10 ?z11
    (case a1 => k_is); (case l1 => k_is); (case c1 => k_is); (case k1 => k_is); (case a2 => k_is); (case l2 => k_is); (case c2 => k_is); (case k2 => k_is); (case a3 => k_is); (case l3 => k_is); (case c3 => k_is); (case k3 => k_is); (case a4 => k_is); (case l4 => k_is); (case c4 => k_is); (case k4 => k_is); (case a5 => k_is); (case l5 => k_is); (case c5 => k_is); (case k5 => k_is); (case a6 => k_is); (case l6 => k_is); (case c6 => k_is); (case k6 => k_is); (case a7 => k_is); (case l7 => k_is); (case c7 => k_is); (case k7 => k_is); (case a8 => k_is); (case l8 => k_is); (case c8 => k_is); (case k8 => k_is); (case a9 => k_is); (case l9 => k_is); (case c9 => k_is); (case k9 => k_is); (case a10 => k_is); (case l10 => k_is); (case c10 => k_is); (case k10 => k_is); (case a11 => k_is); (case l11 => k_is); (case c11 => k_is); (case k11 => k_is); (case a12 => k_is); (case l12 => k_is); (case c12 => k_is); (case k12 => k_is); (case a13 => k_is); (case l13 => k_is); (case c13 => k_is); (case k13 => k_is); (case a14 => k_is); (case l14 => k_is); (case c14 => k_is); (case k14 => k_is); (case a15 => k_is); (case l15 => k_is); (case c15 => k_is); (case k15 => k_is); (case a16 => k_is); (case l16 => k_is); (case c16 => k_is); (case k16 => k_is); (case a17 => k_is); (case l17 => k_is); (case c17 => k_is); (case k17 => k_is); (case a18 => k_is); (case l18 => k_is); (case c18 => k_is); (case k18 => k_is); (case a19 => k_is); (case l19 => k_is); (case c19 => k_is); (case k19 => k_is); (case a20 => k_is); (case l20 => k_is); (case c20 => k_is); (case k20 => k_is); (case a21 => k_is); (case l21 => k_is); (case c21 => k_is); (case k21 => k_is); (case a22 => k_is); (case l22 => k_is); (case c22 => k_is); (case k22 => k_is); (case a23 => k_is); (case l23 => k_is); (case c23 => k_is); (case k23 => k_is); (case z1 => k_is); (case z2 => k_is); (case z3 => k_is); (case z4 => k_is); (case z5 => k_is); (case z6 => k_is); (case z7 => k_is); (case z8 => k_is); (case z9 => k_is); (case z10 => k_is); (case z11 => k_is)
