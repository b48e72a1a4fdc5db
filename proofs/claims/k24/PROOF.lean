import PyProof.Rows.All
import HandS.ForMost
import HandS.Exc
import HandS.TryOnly
import HandS.ExcOwn
import HandS.CallSlots
import HandS.WordsExc
import HandS.Wide
import HandS.TupAny
import HandS.Conv
import HandS.IsInst
import HandS.Style
import HandS.SortInts
import HandS.Flow
import HandS.TupMul
import HandS.Defaults
import HandS.HeadHook2
import HandS.HeadEnd
import HandS.Head2
import HandS.ExcCtx
import HandS.HotCalls
import HandS.ExcIs
import HandS.More
import HandS.Zip
import HandS.Sort
import HandS.SortRule
import HandS.Deep
import HandS.Iter
import PyProof.LongRange
import PySem.Challenge.RW_nevertipped_k24_dependences_of_columns
import HandS.Head0
import HandS.Head1
import HandS.HeadHook1
set_option Elab.async false
set_option linter.all false
set_option maxRecDepth 100000
set_option maxHeartbeats 0
/-! Kv0: values as trees; who owns which list; the worlds of a body. -/
namespace Kv
open PySem PySem.Spec PyProof.Rows L2

/-- what never changes -/
inductive I where
  | non | bl (b : Bool) | int (i : Int) | str (s : Str) | tup (l : List I) | fl (l : List Int) | adr (a : Addr) (c : Str)
/-- a value: im what never changes; a tuple that holds something else; a list -/
inductive D where
  | im (i : I) | tup (l : List D) | lst (l : List D)

/-- a list of the text or of the caller's own that stays as it is -/
def FrL (K : PySem.W.Frag) (H : Hp) (a : Addr) (vs : List V) : Prop :=
  (∃ o, H a = some (.frz o (.lst vs))) ∨ (∃ (o : Obj) (its : Array Value) (n : Nat), K.lookup a = some o ∧ o.cls = .type "list" ∧ o.dict = none ∧ o.data = .seq its n ∧ its.size ≤ sizeLine ∧ Vals vs its.toList)
mutual
def RepI (K : PySem.W.Frag) (H : Hp) : I → V → Prop
  | .non, v => v = .non
  | .bl b, v => v = .bl b
  | .int i, v => v = .int i
  | .str s, v => v = .str s
  | .tup l, v => ∃ a vs, v = .ref a ∧ SqT K H a vs ∧ RepIs K H l vs
  | .fl l, v => ∃ a, v = .ref a ∧ FrL K H a (l.map V.int)
  | .adr a _, v => v = .ref a
def RepIs (K : PySem.W.Frag) (H : Hp) : List I → List V → Prop
  | [], vs => vs = []
  | x :: l, vs => ∃ v r, vs = v :: r ∧ RepI K H x v ∧ RepIs K H l r
end

/-- a list that nobody changes any more -/
def FzL (K : PySem.W.Frag) (H : Hp) (Z : Addr → Prop) (a : Addr) (vs : List V) : Prop := Z a ∧ H a = some (.lst vs)

mutual
def RepD (K : PySem.W.Frag) (H : Hp) (Z : Addr → Prop) : Nat → D → V → List Addr → Prop
  | _, .im i, v, A => RepI K H i v ∧ A = []
  | n, .tup l, v, A => ∃ a vs, v = .ref a ∧ SqT K H a vs ∧ RepDs K H Z n l vs A
  | 0, .lst l, v, A => ∃ a vs, v = .ref a ∧ FzL K H Z a vs ∧ RepDs K H Z 0 l vs A
  | n + 1, .lst l, v, A => ∃ a vs A', v = .ref a ∧ H a = some (.lst vs) ∧ RepDs K H Z n l vs A' ∧ A = a :: A'
def RepDs (K : PySem.W.Frag) (H : Hp) (Z : Addr → Prop) : Nat → List D → List V → List Addr → Prop
  | _, [], vs, A => vs = [] ∧ A = []
  | n, d :: l, vs, A => ∃ v r A1 A2, vs = v :: r ∧ RepD K H Z n d v A1 ∧ RepDs K H Z n l r A2 ∧ A = A1 ++ A2
end

theorem SqT.keep {K : PySem.W.Frag} {H H' : Hp} {a : Addr} {vs : List V} (k : ∀ a o, H a = some o → ¬ Mut (some o) → H' a = some o) (h : SqT K H a vs) : SqT K H' a vs := by
  rcases h with (h | ⟨o, h⟩) | h
  · exact .inl (.inl (k _ _ h fun m => m))
  · exact .inl (.inr ⟨o, k _ _ h fun m => m⟩)
  · exact .inr h
theorem FzL.sq {K : PySem.W.Frag} {H : Hp} {Z : Addr → Prop} {a : Addr} {vs : List V} (h : FzL K H Z a vs) : SqL K H a vs := .inl (.inl h.2)
theorem FzL.keep {K : PySem.W.Frag} {H H' : Hp} {Z Z' : Addr → Prop} {a : Addr} {vs : List V} (k : ∀ a o, H a = some o → ¬ Mut (some o) → H' a = some o) (kz : ∀ a o, Z a → H a = some o → H' a = some o ∧ Z' a)
    (h : FzL K H Z a vs) : FzL K H' Z' a vs := ⟨(kz _ _ h.1 h.2).2, (kz _ _ h.1 h.2).1⟩
theorem FrL.sq {K : PySem.W.Frag} {H : Hp} {a : Addr} {vs : List V} (h : FrL K H a vs) : SqL K H a vs := h.elim (fun h => .inl (.inr h)) .inr
theorem FrL.keep {K : PySem.W.Frag} {H H' : Hp} {a : Addr} {vs : List V} (k : ∀ a o, H a = some o → ¬ Mut (some o) → H' a = some o) (h : FrL K H a vs) : FrL K H' a vs :=
  h.imp (fun ⟨o, h⟩ => ⟨o, k _ _ h fun m => m⟩) id

mutual
theorem RepI.keep {K : PySem.W.Frag} {H H' : Hp} (k : ∀ a o, H a = some o → ¬ Mut (some o) → H' a = some o) : ∀ (i : I) (v : V), RepI K H i v → RepI K H' i v
  | .non, v, h => h
  | .bl b, v, h => h
  | .int i, v, h => h
  | .str s, v, h => h
  | .tup l, v, h => by
    obtain ⟨a, vs, e, h1, h2⟩ := h
    exact ⟨a, vs, e, SqT.keep k h1, RepIs.keep k l vs h2⟩
  | .fl l, v, h => by
    obtain ⟨a, e, h1⟩ := h
    exact ⟨a, e, FrL.keep k h1⟩
  | .adr a c, v, h => h
theorem RepIs.keep {K : PySem.W.Frag} {H H' : Hp} (k : ∀ a o, H a = some o → ¬ Mut (some o) → H' a = some o) : ∀ (l : List I) (vs : List V), RepIs K H l vs → RepIs K H' l vs
  | [], vs, h => h
  | x :: l, vs, h => by
    obtain ⟨v, r, e, h1, h2⟩ := h
    exact ⟨v, r, e, RepI.keep k x v h1, RepIs.keep k l r h2⟩
end

mutual
/-- another heap, where the frozen ones and the own ones stand as they were -/
theorem RepD.keep {K : PySem.W.Frag} {H H' : Hp} {Z Z' : Addr → Prop} (k : ∀ a o, H a = some o → ¬ Mut (some o) → H' a = some o) (kz : ∀ a o, Z a → H a = some o → H' a = some o ∧ Z' a) :
    ∀ (n : Nat) (d : D) (v : V) (A : List Addr), (∀ a ∈ A, ∀ o, H a = some o → H' a = some o) → RepD K H Z n d v A → RepD K H' Z' n d v A
  | n, .im i, v, A, _, h => by
    unfold RepD at h ⊢
    exact ⟨RepI.keep k i v h.1, h.2⟩
  | n, .tup l, v, A, ka, h => by
    unfold RepD at h ⊢
    obtain ⟨a, vs, e, h1, h2⟩ := h
    exact ⟨a, vs, e, SqT.keep k h1, RepDs.keep k kz n l vs A ka h2⟩
  | 0, .lst l, v, A, ka, h => by
    unfold RepD at h ⊢
    obtain ⟨a, vs, e, h1, h2⟩ := h
    exact ⟨a, vs, e, FzL.keep k kz h1, RepDs.keep k kz 0 l vs A ka h2⟩
  | n + 1, .lst l, v, A, ka, h => by
    unfold RepD at h ⊢
    obtain ⟨a, vs, A', e, h1, h2, e2⟩ := h
    subst e2
    exact ⟨a, vs, A', e, ka a List.mem_cons_self _ h1, RepDs.keep k kz n l vs A' (fun b hb => ka b (List.mem_cons_of_mem _ hb)) h2, rfl⟩
theorem RepDs.keep {K : PySem.W.Frag} {H H' : Hp} {Z Z' : Addr → Prop} (k : ∀ a o, H a = some o → ¬ Mut (some o) → H' a = some o) (kz : ∀ a o, Z a → H a = some o → H' a = some o ∧ Z' a) :
    ∀ (n : Nat) (l : List D) (vs : List V) (A : List Addr), (∀ a ∈ A, ∀ o, H a = some o → H' a = some o) → RepDs K H Z n l vs A → RepDs K H' Z' n l vs A
  | n, [], vs, A, _, h => by
    unfold RepDs at h ⊢
    exact h
  | n, d :: l, vs, A, ka, h => by
    unfold RepDs at h ⊢
    obtain ⟨v, r, A1, A2, e, h1, h2, e2⟩ := h
    subst e2
    exact ⟨v, r, A1, A2, e, RepD.keep k kz n d v A1 (fun a ha => ka a (List.mem_append_left _ ha)) h1, RepDs.keep k kz n l r A2 (fun a ha => ka a (List.mem_append_right _ ha)) h2, rfl⟩
end

mutual
/-- what is owned is a list -/
theorem RepD.own {K : PySem.W.Frag} {H : Hp} {Z : Addr → Prop} : ∀ (n : Nat) (d : D) (v : V) (A : List Addr), RepD K H Z n d v A → ∀ a ∈ A, Mut (H a)
  | n, .im i, v, A, h => by
    unfold RepD at h
    intro a ha
    rw [h.2] at ha
    cases ha
  | n, .tup l, v, A, h => by
    unfold RepD at h
    obtain ⟨a, vs, e, h1, h2⟩ := h
    exact RepDs.own n l vs A h2
  | 0, .lst l, v, A, h => by
    unfold RepD at h
    obtain ⟨a, vs, e, h1, h2⟩ := h
    exact RepDs.own 0 l vs A h2
  | n + 1, .lst l, v, A, h => by
    unfold RepD at h
    obtain ⟨a, vs, A', e, h1, h2, e2⟩ := h
    subst e2
    intro b hb
    rcases List.mem_cons.mp hb with e3 | hb
    · rw [e3, h1]; exact True.intro
    · exact RepDs.own n l vs A' h2 b hb
theorem RepDs.own {K : PySem.W.Frag} {H : Hp} {Z : Addr → Prop} : ∀ (n : Nat) (l : List D) (vs : List V) (A : List Addr), RepDs K H Z n l vs A → ∀ a ∈ A, Mut (H a)
  | n, [], vs, A, h => by
    unfold RepDs at h
    intro a ha
    rw [h.2] at ha
    cases ha
  | n, d :: l, vs, A, h => by
    unfold RepDs at h
    obtain ⟨v, r, A1, A2, e, h1, h2, e2⟩ := h
    subst e2
    intro b hb
    rcases List.mem_append.mp hb with hb | hb
    · exact RepD.own n d v A1 h1 b hb
    · exact RepDs.own n l r A2 h2 b hb
end

mutual
/-- own no more: all own ones are frozen -/
theorem RepD.freeze {K : PySem.W.Frag} {H : Hp} {Z Z' : Addr → Prop} (kz : ∀ a, Z a → Z' a) : ∀ (n : Nat) (d : D) (v : V) (A : List Addr), (∀ a ∈ A, Z' a) → RepD K H Z n d v A → RepD K H Z' 0 d v []
  | n, .im i, v, A, _, h => by
    unfold RepD at h ⊢
    exact ⟨h.1, rfl⟩
  | n, .tup l, v, A, ka, h => by
    unfold RepD at h ⊢
    obtain ⟨a, vs, e, h1, h2⟩ := h
    exact ⟨a, vs, e, h1, RepDs.freeze kz n l vs A ka h2⟩
  | 0, .lst l, v, A, ka, h => by
    unfold RepD at h ⊢
    obtain ⟨a, vs, e, h1, h2⟩ := h
    exact ⟨a, vs, e, ⟨kz a h1.1, h1.2⟩, RepDs.freeze kz 0 l vs A ka h2⟩
  | n + 1, .lst l, v, A, ka, h => by
    unfold RepD at h ⊢
    obtain ⟨a, vs, A', e, h1, h2, e2⟩ := h
    subst e2
    exact ⟨a, vs, e, ⟨ka a List.mem_cons_self, h1⟩, RepDs.freeze kz n l vs A' (fun b hb => ka b (List.mem_cons_of_mem _ hb)) h2⟩
theorem RepDs.freeze {K : PySem.W.Frag} {H : Hp} {Z Z' : Addr → Prop} (kz : ∀ a, Z a → Z' a) : ∀ (n : Nat) (l : List D) (vs : List V) (A : List Addr), (∀ a ∈ A, Z' a) → RepDs K H Z n l vs A → RepDs K H Z' 0 l vs []
  | n, [], vs, A, _, h => by
    unfold RepDs at h ⊢
    exact ⟨h.1, rfl⟩
  | n, d :: l, vs, A, ka, h => by
    unfold RepDs at h ⊢
    obtain ⟨v, r, A1, A2, e, h1, h2, e2⟩ := h
    subst e2
    exact ⟨v, r, [], [], e, RepD.freeze kz n d v A1 (fun a ha => ka a (List.mem_append_left _ ha)) h1, RepDs.freeze kz n l r A2 (fun a ha => ka a (List.mem_append_right _ ha)) h2, rfl⟩
end
/-- at depth 0 nothing is owned -/
theorem RepDs.zero {K : PySem.W.Frag} {H : Hp} {Z : Addr → Prop} : ∀ (l : List D) (vs : List V) (A : List Addr), (∀ d ∈ l, ∀ v A, RepD K H Z 0 d v A → A = []) → RepDs K H Z 0 l vs A → A = []
  | [], vs, A, _, h => by
    unfold RepDs at h
    exact h.2
  | d :: l, vs, A, hd, h => by
    unfold RepDs at h
    obtain ⟨v, r, A1, A2, e, h1, h2, e2⟩ := h
    rw [e2, hd d List.mem_cons_self v A1 h1, RepDs.zero l r A2 (fun d hm => hd d (List.mem_cons_of_mem _ hm)) h2]
    rfl
mutual
theorem RepD.nil {K : PySem.W.Frag} {H : Hp} {Z : Addr → Prop} : ∀ (d : D) (v : V) (A : List Addr), RepD K H Z 0 d v A → A = []
  | .im i, v, A, h => by
    unfold RepD at h
    exact h.2
  | .tup l, v, A, h => by
    unfold RepD at h
    obtain ⟨a, vs, e, h1, h2⟩ := h
    exact RepDs.nil l vs A h2
  | .lst l, v, A, h => by
    unfold RepD at h
    obtain ⟨a, vs, e, h1, h2⟩ := h
    exact RepDs.nil l vs A h2
theorem RepDs.nil {K : PySem.W.Frag} {H : Hp} {Z : Addr → Prop} : ∀ (l : List D) (vs : List V) (A : List Addr), RepDs K H Z 0 l vs A → A = []
  | [], vs, A, h => by
    unfold RepDs at h
    exact h.2
  | d :: l, vs, A, h => by
    unfold RepDs at h
    obtain ⟨v, r, A1, A2, e, h1, h2, e2⟩ := h
    rw [e2, RepD.nil d v A1 h1, RepDs.nil l r A2 h2]
    rfl
end
theorem RepIs.length {K : PySem.W.Frag} {H : Hp} : ∀ {l : List I} {vs : List V}, RepIs K H l vs → vs.length = l.length
  | [], vs, h => by
    unfold RepIs at h
    rw [h]; rfl
  | x :: l, vs, h => by
    unfold RepIs at h
    obtain ⟨v, r, e, _, h2⟩ := h
    rw [e, List.length_cons, List.length_cons, RepIs.length h2]
theorem RepDs.length {K : PySem.W.Frag} {H : Hp} {Z : Addr → Prop} {n : Nat} : ∀ {l : List D} {vs : List V} {A : List Addr}, RepDs K H Z n l vs A → vs.length = l.length
  | [], vs, A, h => by
    unfold RepDs at h
    rw [h.1]; rfl
  | x :: l, vs, A, h => by
    unfold RepDs at h
    obtain ⟨v, r, _, _, e, _, h2, _⟩ := h
    rw [e, List.length_cons, List.length_cons, RepDs.length h2]
end Kv

namespace Kv
open PySem PySem.Spec L2
open PyProof.Rows hiding St

/-- a value on its way: its tree, how deep it is owned, the slots that it may lean on -/
structure Tv where
  d : D
  n : Nat
  s : List Nat
abbrev En := List (Option (D × Nat))
/-- an exception: its class's name, its fields -/
structure Xd where
  c : Str
  f : List (Str × I)

abbrev Ow := Nat → List Addr
/-- the slots' values: what each holds, what it owns -/
structure SA (K : PySem.W.Frag) (H : Hp) (Z : Addr → Prop) (As : Ow) (σ : St) (env : En) : Prop where
  len : env.length = σ.length
  rep : ∀ (i : Nat) d n, env[i]? = some (some (d, n)) → ∃ v, σ[i]? = some (some v) ∧ RepD K H Z n d v (As i)
  nd : ∀ i, (As i).Nodup
  dj : ∀ i j, i ≠ j → ∀ a ∈ As i, a ∉ As j
  mu : ∀ i, ∀ a ∈ As i, Mut (H a)
  dz : ∀ i, ∀ a ∈ As i, ¬ Z a
  zt : ∀ a, Z a → Mut (H a)

def Zs (Z : Addr → Prop) (As : Ow) (s : List Nat) : Addr → Prop := fun a => Z a ∨ ∃ j ∈ s, a ∈ As j
structure TvOk (K : PySem.W.Frag) (H : Hp) (Z : Addr → Prop) (As : Ow) (t : Tv) (v : V) (B : List Addr) : Prop where
  rep : RepD K H (Zs Z As t.s) t.n t.d v B
  nd : B.Nodup
  dj : ∀ b ∈ B, ¬ Z b ∧ ∀ j, b ∉ As j

/-- what an expression may have done: only what the slots of M own is changed -/
structure Step (M : List Nat) (H : Hp) (Z : Addr → Prop) (As : Ow) (H' : Hp) (Z' : Addr → Prop) (As' : Ow) : Prop where
  kp : ∀ a o, H a = some o → (∀ j ∈ M, a ∉ As j) → H' a = some o
  lv : ∀ a, H' a = none → H a = none
  zm : ∀ a, Z a → Z' a
  zn : ∀ a, Z' a → Z a ∨ (∃ j, a ∈ As j) ∨ H a = none
  an : ∀ j, ∀ a ∈ As' j, a ∈ As j ∨ (∃ i ∈ M, a ∈ As i) ∨ H a = none
  sl : ∀ j, j ∉ M → ∀ a ∈ As j, a ∈ As' j ∨ Z' a
theorem Mut.some {o : Option HO} (m : Mut o) : ∃ u, o = Option.some u := by
  cases o with
  | none => exact m.elim
  | some u => exact ⟨u, rfl⟩
theorem Step.refl {M : List Nat} {H : Hp} {Z : Addr → Prop} {As : Ow} : Step M H Z As H Z As :=
  ⟨fun _ _ e _ => e, fun _ e => e, fun _ z => z, fun _ z => .inl z, fun _ _ h => .inl h, fun _ _ _ h => .inl h⟩
theorem Step.mono {M M' : List Nat} {H H' : Hp} {Z Z' : Addr → Prop} {As As' : Ow} (h : Step M H Z As H' Z' As') (hm : ∀ j ∈ M, j ∈ M') : Step M' H Z As H' Z' As' :=
  ⟨fun a o e k => h.kp a o e fun j hj => k j (hm j hj), h.lv, h.zm, h.zn, fun j a ha => (h.an j a ha).imp id (Or.imp (fun ⟨i, hi, z⟩ => ⟨i, hm i hi, z⟩) id), fun j hj => h.sl j fun z => hj (hm j z)⟩
theorem Step.trans {M1 M2 : List Nat} {K : PySem.W.Frag} {σ : St} {env : En} {H H1 H2 : Hp} {Z Z1 Z2 : Addr → Prop} {As As1 As2 : Ow} (S : SA K H Z As σ env) (a : Step M1 H Z As H1 Z1 As1) (b : Step M2 H1 Z1 As1 H2 Z2 As2) : Step (M1 ++ M2) H Z As H2 Z2 As2 := by
  have live : ∀ i, ∀ x ∈ As i, H x ≠ none := fun i x hx e => by
    have m := S.mu i x hx
    rw [e] at m; exact m
  refine ⟨fun x o e k => ?_, fun x e => a.lv x (b.lv x e), fun x z => b.zm x (a.zm x z), fun x z => ?_, fun j x hx => ?_, fun j hj x hx => ?_⟩
  · have e1 := a.kp x o e fun j hj => k j (List.mem_append_left _ hj)
    refine b.kp x o e1 fun j hj hx => ?_
    rcases a.an j x hx with h | ⟨i, hi, h⟩ | h
    · exact k j (List.mem_append_right _ hj) h
    · exact k i (List.mem_append_left _ hi) h
    · rw [h] at e; cases e
  · rcases b.zn x z with h | ⟨j, h⟩ | h
    · exact a.zn x h
    · rcases a.an j x h with h | ⟨i, _, h⟩ | h
      · exact .inr (.inl ⟨j, h⟩)
      · exact .inr (.inl ⟨i, h⟩)
      · exact .inr (.inr h)
    · exact .inr (.inr (a.lv x h))
  · rcases b.an j x hx with h | ⟨i, hi, h⟩ | h
    · rcases a.an j x h with h | ⟨i, hi, h⟩ | h
      · exact .inl h
      · exact .inr (.inl ⟨i, List.mem_append_left _ hi, h⟩)
      · exact .inr (.inr h)
    · rcases a.an i x h with h | ⟨k, hk, h⟩ | h
      · exact .inr (.inl ⟨i, List.mem_append_right _ hi, h⟩)
      · exact .inr (.inl ⟨k, List.mem_append_left _ hk, h⟩)
      · exact .inr (.inr h)
    · exact .inr (.inr (a.lv x h))
  · have h1 : j ∉ M1 := fun z => hj (List.mem_append_left _ z)
    have h2 : j ∉ M2 := fun z => hj (List.mem_append_right _ z)
    rcases a.sl j h1 x hx with h | h
    · exact b.sl j h2 x h
    · exact .inr (b.zm x h)

section
variable {K : PySem.W.Frag} {σ : St} {env env' : En} {H H' : Hp} {Z Z' : Addr → Prop} {As As' : Ow} {M : List Nat}
/-- what is no list stays -/
theorem Step.fix (S : SA K H Z As σ env) (h : Step M H Z As H' Z' As') : ∀ a o, H a = some o → ¬ Mut (some o) → H' a = some o := fun a o e m => by
  refine h.kp a o e fun j _ ha => m ?_
  have := S.mu j a ha
  rw [e] at this
  exact this
/-- an earlier value behind a step -/
theorem TvOk.step {t : Tv} {v : V} {B : List Addr} (S : SA K H Z As σ env) (h : Step M H Z As H' Z' As') (ht : ∀ j ∈ t.s, j ∉ M) (T : TvOk K H Z As t v B) : TvOk K H' Z' As' t v B := by
  have own := RepD.own _ _ _ _ T.rep
  refine ⟨RepD.keep (h.fix S) (fun a o z e => ?_) _ _ _ _ (fun a ha o e => h.kp a o e fun j _ hj => (T.dj a ha).2 j hj) T.rep, T.nd, fun b hb => ⟨fun z => ?_, fun j hj => ?_⟩⟩
  · rcases z with z | ⟨j, hj, hz⟩
    · exact ⟨h.kp a o e fun i _ hi => S.dz i a hi z, .inl (h.zm a z)⟩
    · refine ⟨h.kp a o e fun i hi hia => ?_, ?_⟩
      · by_cases q : j = i
        · subst q; exact ht j hj hi
        · exact S.dj j i q a hz hia
      · rcases h.sl j (ht j hj) a hz with q | q
        · exact .inr ⟨j, hj, q⟩
        · exact .inl q
  · rcases h.zn b z with q | ⟨j, q⟩ | q
    · exact (T.dj b hb).1 q
    · exact (T.dj b hb).2 j q
    · have m := own b hb
      rw [q] at m; exact m
  · rcases h.an j b hj with q | ⟨i, _, q⟩ | q
    · exact (T.dj b hb).2 j q
    · exact (T.dj b hb).2 i q
    · have m := own b hb
      rw [q] at m; exact m
end

/-- where the new value's own lists come from -/
def BNew (M : List Nat) (H : Hp) (As : Ow) (B : List Addr) : Prop := ∀ b ∈ B, H b = none ∨ ∃ j ∈ M, b ∈ As j
/-- how an exception of ours lies -/
def XOk (K : PySem.W.Frag) (x : Xd) (cls : Value) (d : Option Addr) (H : Hp) : Prop :=
  cls = .ref (He.ga K x.c) ∧ match x.f with
    | [] => d = none
    | _ => ∃ dx fs, d = some dx ∧ H dx = some (.xd fs) ∧ ∀ p ∈ x.f, ∃ v, fs.lookup p.1 = some v ∧ RepI K H p.2 v

/-! ### readings over trees -/
abbrev VE := En → (Tv → En → Prop) → (Xd → En → Prop) → Prop
abbrev VT := En → (Bool → En → Prop) → (Xd → En → Prop) → Prop
structure VD where
  nx : En → Prop
  rt : Tv → En → Prop
  bk : En → Prop
  ct : En → Prop
  xc : Xd → En → Prop
abbrev VS := En → VD → Prop

/-- an exception's wish is met -/
def XTo (K : PySem.W.Frag) (W : WX) (M : List Nat) (σ : St) (H : Hp) (Z : Addr → Prop) (As : Ow) (Qx : Xd → En → Prop) : Prop :=
  ∀ x env' H' Z' As' cls d, Qx x env' → Step M H Z As H' Z' As' → SA K H' Z' As' σ env' → XOk K x cls d H' → W cls d σ H'
def LE (X : Cx) (W : WX) (M : List Nat) (m : VE) : TE := fun σ H Q => ∃ env Z As Qn Qx, SA X.K H Z As σ env ∧ m env Qn Qx ∧
  (∀ t env' v H' Z' As' B, Qn t env' → Step M H Z As H' Z' As' → SA X.K H' Z' As' σ env' → TvOk X.K H' Z' As' t v B → BNew M H As B → Q v H') ∧ XTo X.K W M σ H Z As Qx
def LT (X : Cx) (W : WX) (M : List Nat) (m : VT) : TT := fun σ H Q => ∃ env Z As Qn Qx, SA X.K H Z As σ env ∧ m env Qn Qx ∧
  (∀ b env' H' Z' As', Qn b env' → Step M H Z As H' Z' As' → SA X.K H' Z' As' σ env' → Q b H') ∧ XTo X.K W M σ H Z As Qx
/-- an expression by its reading over trees; a test -/
def EE (X : Cx) (W : WX) (M : List Nat) (e : Expr) (m : VE) : Prop := PE X e (LE X W M m)
def ET (X : Cx) (W : WX) (M : List Nat) (e : Expr) (m : VT) : Prop := PT X e (LT X W M m)

theorem peImp {X : Cx} {e : Expr} {t t' : TE} (h : PE X e t) (i : ∀ σ H Q, t' σ H Q → t σ H Q) : PE X e t' := ⟨fun pins s σ H Q I hw => h.run pins s σ H Q I (i σ H Q hw)⟩
theorem ptImp {X : Cx} {e : Expr} {t t' : TT} (h : PT X e t) (i : ∀ σ H Q, t' σ H Q → t σ H Q) : PT X e t' := ⟨fun pins s σ H Q I hw => h.run pins s σ H Q I (i σ H Q hw)⟩
theorem pwImp {X : Cx} {e : Expr} {t t' : TT} (h : PW X e t) (i : ∀ σ H Q, t' σ H Q → t σ H Q) : PW X e t' := ⟨fun wh pins s σ H Q I hw => h.run wh pins s σ H Q I (i σ H Q hw)⟩
theorem psImp {X : Cx} {e : Stmt} {t t' : TS} (h : PS X e t) (i : ∀ D σ H, t' D σ H → t D σ H) : PS X e t' := ⟨fun pins s σ H D I hw => h.run pins s σ H D I (i D σ H hw)⟩
theorem pssImp {X : Cx} {e : List Stmt} {t t' : TS} (h : PSs X e t) (i : ∀ D σ H, t' D σ H → t D σ H) : PSs X e t' := ⟨fun pins s σ H D I hw => h.run pins s σ H D I (i D σ H hw)⟩

theorem XTo.step {K : PySem.W.Frag} {W : WX} {M1 M2 : List Nat} {σ : St} {env : En} {H H1 : Hp} {Z Z1 : Addr → Prop} {As As1 : Ow} {Qx : Xd → En → Prop} (S : SA K H Z As σ env) (st : Step M1 H Z As H1 Z1 As1) (h : XTo K W (M1 ++ M2) σ H Z As Qx) : XTo K W M2 σ H1 Z1 As1 Qx :=
  fun x env' H' Z' As' cls d q s a o => h x env' H' Z' As' cls d q (st.trans S s) a o
theorem XTo.left {K : PySem.W.Frag} {W : WX} {M1 M2 : List Nat} {σ : St} {H : Hp} {Z : Addr → Prop} {As : Ow} {Qx : Xd → En → Prop} (h : XTo K W (M1 ++ M2) σ H Z As Qx) : XTo K W M1 σ H Z As Qx :=
  fun x env' H' Z' As' cls d q s a o => h x env' H' Z' As' cls d q (s.mono fun _ hj => List.mem_append_left _ hj) a o

/-- more slots may be changed -/
theorem EE.mono {X : Cx} {W : WX} {M M' : List Nat} {e : Expr} {m : VE} (h : EE X W M e m) (hm : ∀ j ∈ M, j ∈ M') : EE X W M' e m :=
  peImp h fun σ H Q ⟨env, Z, As, Qn, Qx, S, q, hn, hx⟩ => ⟨env, Z, As, Qn, Qx, S, q, fun t env' v H' Z' As' B h1 h2 h3 h4 h5 => hn t env' v H' Z' As' B h1 (h2.mono hm) h3 h4 fun b hb => (h5 b hb).imp id fun ⟨j, hj, z⟩ => ⟨j, hm j hj, z⟩,
    fun x env' H' Z' As' cls d q s a o => hx x env' H' Z' As' cls d q (s.mono hm) a o⟩

/-! ### two operands in a row -/
/-- the second part changes nothing that the first one leans on -/
def Apart (t : Tv) (M : List Nat) : Prop := ∀ j ∈ t.s, j ∉ M
/-- what stands behind two operands -/
structure Two (K : PySem.W.Frag) (M : List Nat) (σ : St) (H : Hp) (Z : Addr → Prop) (As : Ow) (H' : Hp) (Z' : Addr → Prop) (As' : Ow) (env : En) (a b : Tv) (x y : V) (A B : List Addr) : Prop where
  st : Step M H Z As H' Z' As'
  sa : SA K H' Z' As' σ env
  ta : TvOk K H' Z' As' a x A
  tb : TvOk K H' Z' As' b y B
  na : BNew M H As A
  nb : BNew M H As B
  ab : ∀ z ∈ A, z ∉ B
theorem two {X : Cx} {W : WX} {M1 M2 : List Nat} {m1 m2 : VE} {P : Tv → Tv → En → Prop} {Qx : Xd → En → Prop} {σ : St} {H : Hp} {env : En} {Z : Addr → Prop} {As : Ow} {R : V → V → Hp → Prop} (S : SA X.K H Z As σ env)
    (h : m1 env (fun a env1 => m2 env1 (fun b env2 => Apart a M2 ∧ P a b env2) Qx) Qx) (hx : XTo X.K W (M1 ++ M2) σ H Z As Qx)
    (k : ∀ a b env' x y H' Z' As' A B, P a b env' → Two X.K (M1 ++ M2) σ H Z As H' Z' As' env' a b x y A B → R x y H') :
    LE X W M1 m1 σ H fun x H1 => LE X W M2 m2 σ H1 fun y H2 => R x y H2 := by
  refine ⟨env, Z, As, _, Qx, S, h, fun a env1 x H1 Z1 As1 A q st1 S1 T1 n1 => ⟨env1, Z1, As1, _, Qx, S1, q, fun b env2 y H2 Z2 As2 B q2 st2 S2 T2 n2 => ?_, hx.step S st1⟩, hx.left⟩
  have own1 := RepD.own _ _ _ _ T1.rep
  have live1 : ∀ i, ∀ x ∈ As i, H x ≠ none := fun i x hx e => by
    have m := S.mu i x hx
    rw [e] at m; exact m
  refine k a b env2 x y H2 Z2 As2 A B q2.2 ⟨st1.trans S st2, S2, T1.step S1 st2 q2.1, T2, fun z hz => (n1 z hz).imp id fun ⟨j, hj, w⟩ => ⟨j, List.mem_append_left _ hj, w⟩, fun z hz => ?_, fun z hz hb => ?_⟩
  · rcases n2 z hz with e | ⟨j, hj, w⟩
    · exact .inl (st1.lv z e)
    · rcases st1.an j z w with q | ⟨i, hi, q⟩ | q
      · exact .inr ⟨j, List.mem_append_right _ hj, q⟩
      · exact .inr ⟨i, List.mem_append_left _ hi, q⟩
      · exact .inl q
  · rcases n2 z hb with e | ⟨j, hj, w⟩
    · have m := own1 z hz
      rw [e] at m; exact m
    · exact (T1.dj z hz).2 j w
end Kv

namespace Kv
open PySem PySem.Spec L2
open PyProof.Rows hiding St

/-! ### worlds: growing, freezing -/
section
variable {K : PySem.W.Frag} {σ : St} {env : En} {H H' H'' : Hp} {Z Z' : Addr → Prop} {As As' : Ow} {M : List Nat} {t : Tv} {v : V} {A B : List Addr}
theorem Same.lv (s : Same H H') {a : Addr} (h : H' a = none) : H a = none := s.free h
/-- new objects alone -/
theorem SA.same (S : SA K H Z As σ env) (s : Same H H') : SA K H' Z As σ env := by
  have mt : ∀ a, Mut (H a) → Mut (H' a) := fun a m => by
    obtain ⟨u, e⟩ := Mut.some m
    rw [s a u e, ← e]; exact m
  refine ⟨S.len, fun i d n e => ?_, S.nd, S.dj, fun i a ha => mt a (S.mu i a ha), S.dz, fun a z => mt a (S.zt a z)⟩
  obtain ⟨v, h1, h2⟩ := S.rep i d n e
  exact ⟨v, h1, RepD.keep (fun a o e _ => s a o e) (fun a o z e => ⟨s a o e, z⟩) _ _ _ _ (fun a _ o e => s a o e) h2⟩
theorem Step.same (h : Step M H Z As H' Z' As') (s : Same H' H'') : Step M H Z As H'' Z' As' :=
  ⟨fun a o e k => s a o (h.kp a o e k), fun a e => h.lv a (s.free e), h.zm, h.zn, h.an, h.sl⟩
theorem TvOk.same (T : TvOk K H Z As t v B) (s : Same H H') : TvOk K H' Z As t v B :=
  ⟨RepD.keep (fun a o e _ => s a o e) (fun a o z e => ⟨s a o e, z⟩) _ _ _ _ (fun a _ o e => s a o e) T.rep, T.nd, T.dj⟩
/-- lists of no slot are frozen -/
theorem SA.froze (S : SA K H Z As σ env) (hA : ∀ a ∈ A, Mut (H a) ∧ ∀ j, a ∉ As j) : SA K H (fun a => Z a ∨ a ∈ A) As σ env := by
  refine ⟨S.len, fun i d n e => ?_, S.nd, S.dj, S.mu, fun i a ha z => ?_, fun a z => ?_⟩
  · obtain ⟨v, h1, h2⟩ := S.rep i d n e
    exact ⟨v, h1, RepD.keep (fun a o e _ => e) (fun a o z e => ⟨e, .inl z⟩) _ _ _ _ (fun a _ o e => e) h2⟩
  · rcases z with z | z
    · exact S.dz i a ha z
    · exact (hA a z).2 i ha
  · rcases z with z | z
    · exact S.zt a z
    · exact (hA a z).1
theorem Step.froze (h : Step M H Z As H' Z' As') (hA : BNew M H As A) : Step M H Z As H' (fun a => Z' a ∨ a ∈ A) As' :=
  ⟨h.kp, h.lv, fun a z => .inl (h.zm a z), fun a z => z.elim (h.zn a) fun z => (hA a z).elim (fun e => .inr (.inr e)) fun ⟨j, _, w⟩ => .inr (.inl ⟨j, w⟩), h.an, fun j hj a ha => (h.sl j hj a ha).imp id .inl⟩
theorem Zs.mono {s s' : List Nat} (hz : ∀ a, Z a → Z' a) (hs : ∀ j ∈ s, j ∈ s') : ∀ a, Zs Z As s a → Zs Z' As s' a := fun a h => h.imp (hz a) fun ⟨j, hj, w⟩ => ⟨j, hs j hj, w⟩
/-- a value that is looked at: frozen -/
theorem TvOk.look {Zx : Addr → Prop} (T : TvOk K H Z As t v B) (h1 : ∀ a, Zs Z As t.s a → Zx a) (h2 : ∀ b ∈ B, Zx b) : RepD K H Zx 0 t.d v [] := RepD.freeze h1 _ _ _ _ h2 T.rep
end

/-- what a pure operation leaves: new objects, its value's tree -/
def ResK (K : PySem.W.Frag) (H : Hp) (Zx : Addr → Prop) (d : D) (n : Nat) (Q : VK) : Prop :=
  ∀ v H' B, Same H H' → (∀ b ∈ B, H b = none) → B.Nodup → RepD K H' Zx n d v B → Q v H'
/-- the value of an operation: what never changes leans on nothing -/
def res (r : D × Nat) (s : List Nat) : Tv := match r.1 with
  | .im i => ⟨.im i, 0, []⟩
  | d => ⟨d, r.2, s⟩
@[simp] theorem res_im (i : I) (n : Nat) (s : List Nat) : res (.im i, n) s = ⟨.im i, 0, []⟩ := rfl
@[simp] theorem res_lst (l : List D) (n : Nat) (s : List Nat) : res (.lst l, n) s = ⟨.lst l, n, s⟩ := rfl
@[simp] theorem res_tup (l : List D) (n : Nat) (s : List Nat) : res (.tup l, n) s = ⟨.tup l, n, s⟩ := rfl

/-- the caller's continuation -/
def Kont (K : PySem.W.Frag) (M : List Nat) (σ : St) (H : Hp) (Z : Addr → Prop) (As : Ow) (Qn : Tv → En → Prop) (Q : VK) : Prop :=
  ∀ t env' v H' Z' As' B, Qn t env' → Step M H Z As H' Z' As' → SA K H' Z' As' σ env' → TvOk K H' Z' As' t v B → BNew M H As B → Q v H'
section
variable {K : PySem.W.Frag} {σ : St} {env env' : En} {H H' H'' : Hp} {Z Z' : Addr → Prop} {As As' : Ow} {M : List Nat} {Qn : Tv → En → Prop} {Q : VK}
theorem kIm (k : Kont K M σ H Z As Qn Q) {i : I} {v : V} (q : Qn ⟨.im i, 0, []⟩ env') (st : Step M H Z As H' Z' As') (S : SA K H' Z' As' σ env') (r : RepI K H' i v) : Q v H' :=
  k _ env' v H' Z' As' [] q st S ⟨by unfold RepD; exact ⟨r, rfl⟩, .nil, fun b hb => nomatch hb⟩ fun b hb => nomatch hb
/-- behind a pure operation over frozen values -/
theorem kRes (k : Kont K M σ H Z As Qn Q) {r : D × Nat} {s : List Nat} (q : Qn (res r s) env') (st : Step M H Z As H' Z' As') (S : SA K H' Z' As' σ env') : ResK K H' (Zs Z' As' s) r.1 r.2 Q := by
  intro v H2 B sm fr nd rp
  obtain ⟨d, n⟩ := r
  have bz : ∀ b ∈ B, ¬ Z' b ∧ ∀ j, b ∉ As' j := fun b hb => ⟨fun z => by
    have m := S.zt b z
    rw [fr b hb] at m; exact m, fun j hj => by
    have m := S.mu j b hj
    rw [fr b hb] at m; exact m⟩
  cases d with
  | im i =>
    have rp' : RepI K H2 i v ∧ B = [] := by
      have := rp
      unfold RepD at this
      exact this
    exact kIm k q (st.same sm) (S.same sm) rp'.1
  | tup l => exact k _ env' v H2 Z' As' B q (st.same sm) (S.same sm) ⟨rp, nd, bz⟩ fun b hb => .inl (st.lv b (fr b hb))
  | lst l => exact k _ env' v H2 Z' As' B q (st.same sm) (S.same sm) ⟨rp, nd, bz⟩ fun b hb => .inl (st.lv b (fr b hb))
end

/-! ### names, constants -/
def rdN (d : D) (n j : Nat) : Tv := match d with
  | .im i => ⟨.im i, 0, []⟩
  | d => match n with
    | 0 => ⟨d, 0, []⟩
    | _ + 1 => ⟨d, 0, [j]⟩
@[simp] theorem rdN_im (i : I) (n j : Nat) : rdN (.im i) n j = ⟨.im i, 0, []⟩ := rfl
@[simp] theorem rdN_lst0 (l : List D) (j : Nat) : rdN (.lst l) 0 j = ⟨.lst l, 0, []⟩ := rfl
@[simp] theorem rdN_lst1 (l : List D) (n j : Nat) : rdN (.lst l) (n + 1) j = ⟨.lst l, 0, [j]⟩ := rfl
@[simp] theorem rdN_tup0 (l : List D) (j : Nat) : rdN (.tup l) 0 j = ⟨.tup l, 0, []⟩ := rfl
@[simp] theorem rdN_tup1 (l : List D) (n j : Nat) : rdN (.tup l) (n + 1) j = ⟨.tup l, 0, [j]⟩ := rfl
/-- what a slot holds -/
def at_ (env : En) (j : Nat) (k : D → Nat → Prop) : Prop := match env[j]? with
  | some (some (d, n)) => k d n
  | _ => False
theorem at_of {env : En} {j : Nat} {k : D → Nat → Prop} (h : at_ env j k) : ∃ d n, env[j]? = some (some (d, n)) ∧ k d n := by
  unfold at_ at h
  split at h
  · rename_i d n e
    exact ⟨d, n, e, h⟩
  · exact h.elim
def vN (j : Nat) : VE := fun env Qn _ => at_ env j fun d n => Qn (rdN d n j) env
def vC (i : I) : VE := fun env Qn _ => Qn ⟨.im i, 0, []⟩ env
theorem rdN_ok {K : PySem.W.Frag} {H : Hp} {Z : Addr → Prop} {As : Ow} {d : D} {n j : Nat} {v : V} (h : RepD K H Z n d v (As j)) : TvOk K H Z As (rdN d n j) v [] := by
  refine ⟨?_, .nil, fun b hb => nomatch hb⟩
  have key : ∀ s, (n = 0 ∨ j ∈ s) → RepD K H (Zs Z As s) 0 d v [] := fun s hs => by
    refine RepD.freeze (fun a z => .inl z) n d v (As j) (fun a ha => ?_) h
    rcases hs with e | e
    · subst e
      rw [RepD.nil d v _ h] at ha
      cases ha
    · exact .inr ⟨j, e, ha⟩
  cases d with
  | im i =>
    have h1 := h
    unfold RepD at h1
    show RepD K H (Zs Z As []) 0 (.im i) v []
    unfold RepD
    exact ⟨h1.1, rfl⟩
  | tup l => cases n with
    | zero => exact key _ (.inl rfl)
    | succ n => exact key _ (.inr (by simp))
  | lst l => cases n with
    | zero => exact key _ (.inl rfl)
    | succ n => exact key _ (.inr (by simp))

section
variable {X : Cx} {W : WX} {pos : Pos}
theorem ee_name {j : Nat} {x : Str} (hN : X.N[j]? = some x) (hv : Vis X.env.scope x) (hd : (x == ("__debug__" : Str)) = false := by decide) (hcd : (x == ("__classdict__" : Str)) = false := by decide) : EE X W [] (.Name x pos) (vN j) :=
  peImp (pe_var hN hv hd hcd) fun σ H Q ⟨env, Z, As, Qn, Qx, S, q, hn, hx⟩ => by
    obtain ⟨d, n, e, q⟩ := at_of q
    obtain ⟨v, h1, h2⟩ := S.rep j d n e
    exact ⟨v, h1, hn _ env v H Z As [] q Step.refl S (rdN_ok h2) fun b hb => nomatch hb⟩
theorem ee_c {e : Expr} {v : V} {i : I} (h : PE X e (tC v)) (r : ∀ K H, RepI K H i v) : EE X W [] e (vC i) :=
  peImp h fun σ H Q ⟨env, Z, As, Qn, Qx, S, q, hn, hx⟩ => kIm hn q Step.refl S (r _ _)
theorem ee_int {i j} : EE X W [] (.Constant (.int i) j pos) (vC (.int i)) := ee_c pe_int fun _ _ => rfl
theorem ee_str {x j} : EE X W [] (.Constant (.str x) j pos) (vC (.str x)) := ee_c pe_str fun _ _ => rfl
theorem ee_bl {b j} : EE X W [] (.Constant (.bool b) j pos) (vC (.bl b)) := ee_c pe_bl fun _ _ => rfl
theorem ee_non {j} : EE X W [] (.Constant .none j pos) (vC .non) := ee_c pe_non fun _ _ => rfl

/-! ### pure operations -/
/-- what a pure operation gives: its condition, its value's tree, how deep it is owned -/
structure Rs where
  c : Prop
  d : D
  n : Nat
abbrev Op1 := D → Option Rs
abbrev Op2 := D → D → Option Rs
abbrev OpN := List D → Option Rs
/-- the end of a pure operation -/
def fin (r : Option Rs) (s : List Nat) (env : En) (Qn : Tv → En → Prop) : Prop := match r with
  | some r => r.c ∧ Qn (res (r.d, r.n) s) env
  | none => False
theorem fin_of {r : Option Rs} {s : List Nat} {env : En} {Qn : Tv → En → Prop} (h : fin r s env Qn) : ∃ c, r = some c ∧ c.c ∧ Qn (res (c.d, c.n) s) env := by
  cases r with
  | none => exact h.elim
  | some c => exact ⟨c, rfl, h⟩
@[simp] theorem fin_some (r : Rs) (s : List Nat) (env : En) (Qn : Tv → En → Prop) : fin (some r) s env Qn = (r.c ∧ Qn (res (r.d, r.n) s) env) := rfl
@[simp] theorem fin_none (s : List Nat) (env : En) (Qn : Tv → En → Prop) : fin none s env Qn = False := rfl
def vUn (op : Op1) (m : VE) : VE := fun env Qn Qx => m env (fun a env1 => fin (op a.d) a.s env1 Qn) Qx
def vBin (op : Op2) (M2 : List Nat) (m1 m2 : VE) : VE := fun env Qn Qx => m1 env (fun a env1 => m2 env1 (fun b env2 => Apart a M2 ∧ fin (op a.d b.d) (a.s ++ b.s) env2 Qn) Qx) Qx
def Op1Ok (X : Cx) (op : Op1) (r : V → Hp → VK → Prop) : Prop := ∀ a c x H Zx Q, op a = some c → c.c → RepD X.K H Zx 0 a x [] → ResK X.K H Zx c.d c.n Q → r x H Q
def Op2Ok (X : Cx) (op : Op2) (r : R2) : Prop := ∀ a b c x y H Zx Q, op a b = some c → c.c → RepD X.K H Zx 0 a x [] → RepD X.K H Zx 0 b y [] → ResK X.K H Zx c.d c.n Q → r x y H Q
def OpNOk (X : Cx) (op : OpN) (r : List V → Hp → VK → Prop) : Prop := ∀ as c xs H Zx Q, op as = some c → c.c → RepDs X.K H Zx 0 as xs [] → ResK X.K H Zx c.d c.n Q → r xs H Q

/-- one value consumed -/
theorem use1 {M : List Nat} {σ : St} {H : Hp} {env' : En} {Z Z' : Addr → Prop} {As As' : Ow} {Qn : Tv → En → Prop} {Q : VK} {H' : Hp} {a : Tv} {x : V} {A : List Addr} {c : D × Nat}
    (k : Kont X.K M σ H Z As Qn Q) (q : Qn (res c a.s) env') (st : Step M H Z As H' Z' As') (S : SA X.K H' Z' As' σ env') (T : TvOk X.K H' Z' As' a x A) (n : BNew M H As A) :
    ∃ Zx, RepD X.K H' Zx 0 a.d x [] ∧ ResK X.K H' Zx c.1 c.2 Q := by
  have own := RepD.own _ _ _ _ T.rep
  have S2 := S.froze (A := A) fun b hb => ⟨own b hb, (T.dj b hb).2⟩
  refine ⟨Zs (fun b => Z' b ∨ b ∈ A) As' a.s, T.look (Zs.mono (fun _ z => .inl z) fun _ h => h) fun b hb => .inl (.inr hb), ?_⟩
  exact kRes k q (st.froze n) S2
theorem use2 {M : List Nat} {σ : St} {H : Hp} {env' : En} {Z Z' : Addr → Prop} {As As' : Ow} {Qn : Tv → En → Prop} {Q : VK} {H' : Hp} {a b : Tv} {x y : V} {A B : List Addr} {c : D × Nat}
    (k : Kont X.K M σ H Z As Qn Q) (q : Qn (res c (a.s ++ b.s)) env') (T : Two X.K M σ H Z As H' Z' As' env' a b x y A B) :
    ∃ Zx, RepD X.K H' Zx 0 a.d x [] ∧ RepD X.K H' Zx 0 b.d y [] ∧ ResK X.K H' Zx c.1 c.2 Q := by
  have ownA := RepD.own _ _ _ _ T.ta.rep
  have ownB := RepD.own _ _ _ _ T.tb.rep
  have S2 := T.sa.froze (A := A ++ B) fun z hz => (List.mem_append.mp hz).elim (fun h => ⟨ownA z h, (T.ta.dj z h).2⟩) fun h => ⟨ownB z h, (T.tb.dj z h).2⟩
  refine ⟨Zs (fun z => Z' z ∨ z ∈ A ++ B) As' (a.s ++ b.s), T.ta.look (Zs.mono (fun _ z => .inl z) fun _ h => List.mem_append_left _ h) fun z hz => .inl (.inr (List.mem_append_left _ hz)),
    T.tb.look (Zs.mono (fun _ z => .inl z) fun _ h => List.mem_append_right _ h) fun z hz => .inl (.inr (List.mem_append_right _ hz)), ?_⟩
  exact kRes k q (T.st.froze fun z hz => (List.mem_append.mp hz).elim (T.na z) (T.nb z)) S2

theorem un_ok {M : List Nat} {m : VE} {op : Op1} {r : V → Hp → VK → Prop} (ho : Op1Ok X op r) : ∀ σ H Q, LE X W M (vUn op m) σ H Q → LE X W M m σ H fun x H1 => r x H1 Q := fun σ H Q ⟨env, Z, As, Qn, Qx, S, q, hn, hx⟩ => by
  refine ⟨env, Z, As, _, Qx, S, q, fun a env1 x H1 Z1 As1 A q st S1 T n => ?_, hx⟩
  obtain ⟨c, e, hc, q⟩ := fin_of q
  obtain ⟨Zx, h1, h2⟩ := use1 hn q st S1 T n
  exact ho _ _ _ _ _ _ e hc h1 h2
theorem bin_ok {M1 M2 : List Nat} {m1 m2 : VE} {op : Op2} {r : R2} (ho : Op2Ok X op r) : ∀ σ H Q, LE X W (M1 ++ M2) (vBin op M2 m1 m2) σ H Q → LE X W M1 m1 σ H fun x H1 => LE X W M2 m2 σ H1 fun y H2 => r x y H2 Q := fun σ H Q ⟨env, Z, As, Qn, Qx, S, q, hn, hx⟩ => by
  refine two S q hx fun a b env' x y H' Z' As' A B q T => ?_
  obtain ⟨c, e, hc, q⟩ := fin_of q
  obtain ⟨Zx, h1, h2, h3⟩ := use2 hn q T
  exact ho _ _ _ _ _ _ _ _ e hc h1 h2 h3
variable {a b : Expr} {M M1 M2 : List Nat} {m m1 m2 : VE}
theorem ee_op {o : Operator} {op : Op2} {r : R2} (hr : OpR X (binaryOp o) r) (ho : Op2Ok X op r) (ha : EE X W M1 a m1) (hb : EE X W M2 b m2) : EE X W (M1 ++ M2) (.BinOp a o b pos) (vBin op M2 m1 m2) :=
  peImp (pe_op hr ha hb) (bin_ok ho)
theorem ee_cmp {o : CmpOp} {op : Op2} {r : R2} (hr : OpR X (compareOp o) r) (ho : Op2Ok X op r) (ha : EE X W M1 a m1) (hb : EE X W M2 b m2) (hm : behindInMarks o b = false) : EE X W (M1 ++ M2) (.Compare a [o] [b] pos) (vBin op M2 m1 m2) :=
  peImp (pe_cmpR hr ha hb hm) (bin_ok ho)
theorem ee_un {o : UnaryOp} {op : Op1} {r : V → Hp → VK → Prop} (hr : UnR X (unaryOp o) r) (ho : Op1Ok X op r) (ha : EE X W M a m) : EE X W M (.UnaryOp o a pos) (vUn op m) :=
  peImp (pe_un hr ha) (un_ok ho)
theorem ee_ix {op : Op2} {r : R2} (hr : IxR X r) (ho : Op2Ok X op r) (ha : EE X W M1 a m1) (hb : EE X W M2 b m2) (hs : PlainIx b) : EE X W (M1 ++ M2) (.Subscript a b pos) (vBin op M2 m1 m2) :=
  peImp (pe_ix hr ha hb hs) (bin_ok ho)

/-! ### tests -/
/-- a value's truth -/
def tru : D → Option Bool
  | .im .non => some false
  | .im (.bl b) => some b
  | .im (.int i) => some (i != 0)
  | .im (.tup l) => some (!l.isEmpty)
  | .tup l => some (!l.isEmpty)
  | .lst l => some (!l.isEmpty)
  | .im (.str _) => none
  | .im (.fl _) => none
  | .im (.adr _ _) => none
def trB : D → Option Bool
  | .im (.bl b) => some b
  | _ => none
/-- a test by its value -/
def vTv (tr : D → Option Bool) (m : VE) : VT := fun env Qn Qx => m env (fun a env1 => match tr a.d with
  | some b => Qn b env1
  | none => False) Qx
theorem isEmpty_of_length {α β : Type} {l : List α} {m : List β} (h : m.length = l.length) : m.isEmpty = l.isEmpty := by
  cases l with
  | nil =>
    have : m = [] := List.eq_nil_of_length_eq_zero h
    rw [this]
    rfl
  | cons a l =>
    cases m with
    | nil => cases h
    | cons b m => rfl
/-- a value that is dropped behind a look -/
theorem use0 {M : List Nat} {σ : St} {H : Hp} {env' : En} {Z Z' : Addr → Prop} {As As' : Ow} {H' : Hp} {a : Tv} {x : V} {A : List Addr} (st : Step M H Z As H' Z' As') (S : SA X.K H' Z' As' σ env') (T : TvOk X.K H' Z' As' a x A) (n : BNew M H As A) :
    ∃ Z2 Zx, RepD X.K H' Zx 0 a.d x [] ∧ Step M H Z As H' Z2 As' ∧ SA X.K H' Z2 As' σ env' := by
  have own := RepD.own _ _ _ _ T.rep
  exact ⟨_, Zs (fun b => Z' b ∨ b ∈ A) As' a.s, T.look (Zs.mono (fun _ z => .inl z) fun _ h => h) fun b hb => .inl (.inr hb), st.froze n, S.froze (A := A) fun b hb => ⟨own b hb, (T.dj b hb).2⟩⟩
theorem tru_rep {K : PySem.W.Frag} {H : Hp} {Zx : Addr → Prop} {d : D} {x : V} {b : Bool} (e : tru d = some b) (h : RepD K H Zx 0 d x []) : TruV K x H b := by
  cases d with
  | im i =>
    unfold RepD at h
    cases i with
    | non => cases e; rw [show x = .non from h.1]; rfl
    | bl c => cases e; rw [show x = .bl b from h.1]; rfl
    | int j => cases e; rw [show x = .int j from h.1]; rfl
    | str s => cases e
    | fl s => cases e
    | adr _ _ => cases e
    | tup l =>
      cases e
      obtain ⟨a, vs, e, h1, h2⟩ := (show ∃ a vs, x = .ref a ∧ SqT K H a vs ∧ RepIs K H l vs from h.1)
      subst e
      exact .inr (.inl ⟨vs, h1, by rw [isEmpty_of_length (RepIs.length h2)]⟩)
  | tup l =>
    unfold RepD at h
    cases e
    obtain ⟨a, vs, e, h1, h2⟩ := h
    subst e
    exact .inr (.inl ⟨vs, h1, by rw [isEmpty_of_length (RepDs.length h2)]⟩)
  | lst l =>
    unfold RepD at h
    cases e
    obtain ⟨a, vs, e, h1, h2⟩ := h
    subst e
    exact .inl ⟨vs, h1.sq, by rw [isEmpty_of_length (RepDs.length h2)]⟩
theorem et_tru {e : Expr} (he : ∀ whole, isTrue e X.env whole = (do let v ← whole; standAt e.pos; holding [v] (truthy v))) (h : EE X W M e m) : ET X W M e (vTv tru m) :=
  ptImp (pt_truth h he) fun σ H Q ⟨env, Z, As, Qn, Qx, S, q, hn, hx⟩ => by
    refine ⟨env, Z, As, _, Qx, S, q, fun a env1 x H1 Z1 As1 A q st S1 T n => ?_, hx⟩
    cases ht : tru a.d with
    | none => rw [ht] at q; exact q.elim
    | some b =>
      rw [ht] at q
      obtain ⟨Z2, Zx, h1, h2, h3⟩ := use0 st S1 T n
      exact ⟨b, tru_rep ht h1, hn b env1 H1 Z2 As1 q h2 h3⟩
/-- a comparison as a test -/
theorem et_cmp {o : CmpOp} {op : Op2} {r : R2} (hr : OpR X (compareOp o) r) (ho : Op2Ok X op r) (ha : EE X W M1 a m1) (hb : EE X W M2 b m2) (hm : behindInMarks o b = false) : ET X W (M1 ++ M2) (.Compare a [o] [b] pos) (vTv trB (vBin op M2 m1 m2)) :=
  ptImp (pt_cmpR hr ha hb hm) fun σ H Q ⟨env, Z, As, Qn, Qx, S, q, hn, hx⟩ => by
    refine bin_ok (W := W) ho σ H _ ⟨env, Z, As, _, Qx, S, q, fun a env1 x H1 Z1 As1 A q st S1 T n => ?_, hx⟩
    cases ht : trB a.d with
    | none => rw [ht] at q; exact q.elim
    | some k =>
      rw [ht] at q
      obtain ⟨Z2, Zx, h1, h2, h3⟩ := use0 st S1 T n
      refine ⟨k, ?_, hn k env1 H1 Z2 As1 q h2 h3⟩
      cases ed : a.d with
      | im i =>
        rw [ed] at ht h1
        unfold RepD at h1
        cases i with
        | bl c => cases ht; exact h1.1
        | _ => cases ht
      | _ => rw [ed] at ht; cases ht
/-- and, or, not -/
def vAndT (t u : VT) : VT := fun env Qn Qx => t env (fun b env1 => if b = true then u env1 Qn Qx else Qn false env1) Qx
def vOrT (t u : VT) : VT := fun env Qn Qx => t env (fun b env1 => if b = true then Qn true env1 else u env1 Qn Qx) Qx
def vNotT (t : VT) : VT := fun env Qn Qx => t env (fun b env1 => Qn (!b) env1) Qx
def EW (X : Cx) (W : WX) (M : List Nat) (e : Expr) (m : VT) : Prop := PW X e (LT X W M m)
theorem ew_pt {e : Expr} {t : VT} (h : EW X W M e t) : ET X W M e t := PW.pt h
variable {rest : List Expr} {t u : VT}
theorem LT.mono {M' : List Nat} (hm : ∀ j ∈ M, j ∈ M') : ∀ σ H Q, LT X W M' t σ H Q → True := fun _ _ _ _ => trivial
theorem and_lt : ∀ σ H Q, LT X W (M1 ++ M2) (vAndT t u) σ H Q → LT X W M1 t σ H fun b H1 => if b = true then LT X W M2 u σ H1 Q else Q false H1 := fun σ H Q ⟨env, Z, As, Qn, Qx, S, q, hn, hx⟩ => by
  refine ⟨env, Z, As, _, Qx, S, q, fun b env1 H1 Z1 As1 q st S1 => ?_, hx.left⟩
  cases b with
  | false => exact hn false env1 H1 Z1 As1 q (st.mono fun _ h => List.mem_append_left _ h) S1
  | true => exact ⟨env1, Z1, As1, Qn, Qx, S1, q, fun b env2 H2 Z2 As2 q2 st2 S2 => hn b env2 H2 Z2 As2 q2 (st.trans S st2) S2, hx.step S st⟩
theorem or_lt : ∀ σ H Q, LT X W (M1 ++ M2) (vOrT t u) σ H Q → LT X W M1 t σ H fun b H1 => if b = true then Q true H1 else LT X W M2 u σ H1 Q := fun σ H Q ⟨env, Z, As, Qn, Qx, S, q, hn, hx⟩ => by
  refine ⟨env, Z, As, _, Qx, S, q, fun b env1 H1 Z1 As1 q st S1 => ?_, hx.left⟩
  cases b with
  | true => exact hn true env1 H1 Z1 As1 q (st.mono fun _ h => List.mem_append_left _ h) S1
  | false => exact ⟨env1, Z1, As1, Qn, Qx, S1, q, fun b env2 H2 Z2 As2 q2 st2 S2 => hn b env2 H2 Z2 As2 q2 (st.trans S st2) S2, hx.step S st⟩
theorem ew_and1 (h : ET X W M a t) : EW X W M (.BoolOp .And [a] pos) t := pw_and1 h
theorem ew_or1 (h : ET X W M a t) : EW X W M (.BoolOp .Or [a] pos) t := pw_or1 h
theorem ew_and (h1 : ET X W M1 a t) (h2 : EW X W M2 (.BoolOp .And (b :: rest) pos) u) : EW X W (M1 ++ M2) (.BoolOp .And (a :: b :: rest) pos) (vAndT t u) := pwImp (pw_and h1 h2) and_lt
theorem ew_or (h1 : ET X W M1 a t) (h2 : EW X W M2 (.BoolOp .Or (b :: rest) pos) u) : EW X W (M1 ++ M2) (.BoolOp .Or (a :: b :: rest) pos) (vOrT t u) := pwImp (pw_or h1 h2) or_lt
theorem et_not {e : Expr} (h : ET X W M e t) : ET X W M (.UnaryOp .Not e pos) (vNotT t) := ptImp (pt_not h) fun σ H Q ⟨env, Z, As, Qn, Qx, S, q, hn, hx⟩ =>
  ⟨env, Z, As, _, Qx, S, q, fun b env1 H1 Z1 As1 q st S1 => hn (!b) env1 H1 Z1 As1 q st S1, hx⟩
/-- a if c else b -/
def vIfE (t : VT) (m1 m2 : VE) : VE := fun env Qn Qx => t env (fun b env1 => if b = true then m1 env1 Qn Qx else m2 env1 Qn Qx) Qx
theorem ee_if {c : Expr} {M0 : List Nat} (hc : ET X W M0 c t) (ha : EE X W M1 a m1) (hb : EE X W M1 b m2) : EE X W (M0 ++ M1) (.IfExp c a b pos) (vIfE t m1 m2) := peImp (pe_ifExp hc ha hb) fun σ H Q ⟨env, Z, As, Qn, Qx, S, q, hn, hx⟩ => by
  refine ⟨env, Z, As, _, Qx, S, q, fun b env1 H1 Z1 As1 q st S1 => ?_, hx.left⟩
  have bn : ∀ {H2 : Hp} {B : List Addr}, BNew M1 H1 As1 B → BNew (M0 ++ M1) H As B := fun {H2 B} n z hz => by
    rcases n z hz with e | ⟨j, hj, w⟩
    · exact .inl (st.lv z e)
    · rcases st.an j z w with q | ⟨i, hi, q⟩ | q
      · exact .inr ⟨j, List.mem_append_right _ hj, q⟩
      · exact .inr ⟨i, List.mem_append_left _ hi, q⟩
      · exact .inl q
  cases b with
  | false => exact ⟨env1, Z1, As1, Qn, Qx, S1, q, fun t env2 v H2 Z2 As2 B q2 st2 S2 T n => hn t env2 v H2 Z2 As2 B q2 (st.trans S st2) S2 T (bn (H2 := H2) n), hx.step S st⟩
  | true => exact ⟨env1, Z1, As1, Qn, Qx, S1, q, fun t env2 v H2 Z2 As2 B q2 st2 S2 T n => hn t env2 v H2 Z2 As2 B q2 (st.trans S st2) S2 T (bn (H2 := H2) n), hx.step S st⟩
/-- a test's answer as a value (and, or, not whose parts are True or False) -/
def vBv (t : VT) : VE := fun env Qn Qx => t env (fun b env1 => Qn ⟨.im (.bl b), 0, []⟩ env1) Qx
theorem pe_bool {e : Expr} {tt : TT} (h : PE X e fun σ H Q => tt σ H fun b H1 => Q (.bl b) H1) : PE X e fun σ H Q => tt σ H fun b H1 => Q (.bl b) H1 := h
end
end Kv

namespace Kv
open PySem PySem.Spec L2
open PyProof.Rows hiding St

/-! ### argument lists -/
/-- an argument: an expression, or a slot whose list the callee may change -/
inductive Ag where
  | ex (m : VE) (M : List Nat) | io (j : Nat)
def Ag.m : Ag → List Nat
  | .ex _ M => M
  | .io _ => []
def Ag.isEx : Ag → Bool
  | .ex _ _ => true
  | .io _ => false
def agM : List Ag → List Nat
  | [] => []
  | g :: r => g.m ++ agM r
def vAs : List Ag → En → (List Tv → En → Prop) → (Xd → En → Prop) → Prop
  | [], env, Qn, _ => Qn [] env
  | .ex m _ :: r, env, Qn, Qx => m env (fun a env1 => vAs r env1 (fun ts env2 => Apart a (agM r) ∧ Qn (a :: ts) env2) Qx) Qx
  | .io j :: r, env, Qn, Qx => at_ env j fun _ _ => vAs r env (fun ts env2 => Qn (⟨.im .non, 0, []⟩ :: ts) env2) Qx
def TsOk (K : PySem.W.Frag) (H : Hp) (Z : Addr → Prop) (As : Ow) (σ : St) : List Ag → List Tv → List V → List Addr → Prop
  | [], ts, vs, B => ts = [] ∧ vs = [] ∧ B = []
  | .ex _ _ :: r, ts, vs, B => ∃ t ts' v vs' A1 A2, ts = t :: ts' ∧ vs = v :: vs' ∧ TvOk K H Z As t v A1 ∧ TsOk K H Z As σ r ts' vs' A2 ∧ (∀ z ∈ A1, z ∉ A2) ∧ B = A1 ++ A2
  | .io j :: r, ts, vs, B => ∃ t ts' v vs', ts = t :: ts' ∧ vs = v :: vs' ∧ σ[j]? = some (some v) ∧ TsOk K H Z As σ r ts' vs' B
def LA (X : Cx) (W : WX) (ags : List Ag) : TA := fun σ H Q => ∃ env Z As Qn Qx, SA X.K H Z As σ env ∧ vAs ags env Qn Qx ∧
  (∀ ts env' vs H' Z' As' B, Qn ts env' → Step (agM ags) H Z As H' Z' As' → SA X.K H' Z' As' σ env' → TsOk X.K H' Z' As' σ ags ts vs B → BNew (agM ags) H As B → Q vs H') ∧ XTo X.K W (agM ags) σ H Z As Qx
def EA (X : Cx) (W : WX) (es : List Expr) (ags : List Ag) : Prop := PA X es (LA X W ags)
theorem paImp {X : Cx} {e : List Expr} {t t' : TA} (h : PA X e t) (i : ∀ σ H Q, t' σ H Q → t σ H Q) : PA X e t' := ⟨fun pos pins s σ H Q I hw => h.run pos pins s σ H Q I (i σ H Q hw)⟩
section
variable {X : Cx} {W : WX} {pos : Pos} {M : List Nat} {e : Expr} {es : List Expr} {m : VE} {r : List Ag}
theorem ea_nil : EA X W [] [] := paImp pa_nil fun σ H Q ⟨env, Z, As, Qn, Qx, S, q, hn, hx⟩ => hn [] env [] H Z As [] q Step.refl S ⟨rfl, rfl, rfl⟩ fun b hb => nomatch hb
theorem ea_ex (h : EE X W M e m) (hr : EA X W es r) (hs : starEach (e :: es) X.env = (false, eval e X.env) :: starEach es X.env := by rfl) : EA X W (e :: es) (.ex m M :: r) :=
  paImp (pa_cons h hr hs) fun σ H Q ⟨env, Z, As, Qn, Qx, S, q, hn, hx⟩ => by
    have hx : XTo X.K W (M ++ agM r) σ H Z As Qx := hx
    refine ⟨env, Z, As, _, Qx, S, q, fun a env1 x H1 Z1 As1 A q st1 S1 T1 n1 => ⟨env1, Z1, As1, _, Qx, S1, q, fun ts env2 vs H2 Z2 As2 B q2 st2 S2 T2 n2 => ?_, hx.step S st1⟩, hx.left⟩
    have own1 := RepD.own _ _ _ _ T1.rep
    refine hn (a :: ts) env2 (x :: vs) H2 Z2 As2 (A ++ B) q2.2 (st1.trans S st2) S2 ⟨a, ts, x, vs, A, B, rfl, rfl, T1.step S1 st2 q2.1, T2, fun z hz hb => ?_, rfl⟩ fun z hz => ?_
    · rcases n2 z hb with e | ⟨j, hj, w⟩
      · have m := own1 z hz
        rw [e] at m; exact m
      · exact (T1.dj z hz).2 j w
    · rcases List.mem_append.mp hz with hz | hz
      · exact (n1 z hz).imp id fun ⟨j, hj, w⟩ => ⟨j, List.mem_append_left _ hj, w⟩
      · rcases n2 z hz with e | ⟨j, hj, w⟩
        · exact .inl (st1.lv z e)
        · rcases st1.an j z w with q | ⟨i, hi, q⟩ | q
          · exact .inr ⟨j, List.mem_append_right _ hj, q⟩
          · exact .inr ⟨i, List.mem_append_left _ hi, q⟩
          · exact .inl q
theorem ea_io {j : Nat} {x : Str} (hN : X.N[j]? = some x) (hv : Vis X.env.scope x) (hr : EA X W es r) (hd : (x == ("__debug__" : Str)) = false := by decide) (hcd : (x == ("__classdict__" : Str)) = false := by decide)
    (hs : starEach (.Name x pos :: es) X.env = (false, eval (.Name x pos) X.env) :: starEach es X.env := by rfl) : EA X W (.Name x pos :: es) (.io j :: r) :=
  paImp (pa_cons (pe_var hN hv hd hcd) hr hs) fun σ H Q ⟨env, Z, As, Qn, Qx, S, q, hn, hx⟩ => by
    obtain ⟨d, n, e, q⟩ := at_of q
    obtain ⟨v, hv, _⟩ := S.rep j d n e
    exact ⟨v, hv, env, Z, As, _, Qx, S, q, fun ts env2 vs H2 Z2 As2 B q2 st2 S2 T2 n2 => hn _ env2 (v :: vs) H2 Z2 As2 B q2 st2 S2 ⟨_, ts, v, vs, rfl, rfl, hv, T2⟩ n2, hx⟩
end

/-- what the arguments own is a list of no slot -/
theorem TsOk.own {K : PySem.W.Frag} {H : Hp} {Z : Addr → Prop} {As : Ow} {σ : St} : ∀ {ags : List Ag} {ts : List Tv} {vs : List V} {B : List Addr}, TsOk K H Z As σ ags ts vs B → ∀ b ∈ B, Mut (H b) ∧ ¬ Z b ∧ ∀ j, b ∉ As j
  | [], ts, vs, B, h => by
    obtain ⟨_, _, e⟩ := h
    subst e
    intro b hb
    cases hb
  | .ex _ _ :: r, ts, vs, B, h => by
    obtain ⟨t, ts', v, vs', A1, A2, e1, e2, h1, h2, _, e3⟩ := h
    subst e3
    intro b hb
    rcases List.mem_append.mp hb with hb | hb
    · exact ⟨RepD.own _ _ _ _ h1.rep b hb, h1.dj b hb⟩
    · exact TsOk.own h2 b hb
  | .io j :: r, ts, vs, B, h => by
    obtain ⟨t, ts', v, vs', e1, e2, _, h2⟩ := h
    exact TsOk.own h2
/-- looked at, all frozen -/
theorem TsOk.look {K : PySem.W.Frag} {H : Hp} {Z Zx : Addr → Prop} {As : Ow} {σ : St} : ∀ {ags : List Ag} {ts : List Tv} {vs : List V} {B : List Addr}, TsOk K H Z As σ ags ts vs B → ags.all Ag.isEx = true →
    (∀ a, Zs Z As (ts.flatMap (·.s)) a → Zx a) → (∀ b ∈ B, Zx b) → RepDs K H Zx 0 (ts.map (·.d)) vs []
  | [], ts, vs, B, h, _, _, _ => by
    obtain ⟨e1, e2, e⟩ := h
    subst e1 e2
    show RepDs K H Zx 0 [] [] []
    unfold RepDs
    exact ⟨rfl, rfl⟩
  | .ex _ _ :: r, ts, vs, B, h, ha, hz, hb => by
    obtain ⟨t, ts', v, vs', A1, A2, e1, e2, h1, h2, _, e3⟩ := h
    subst e1 e2 e3
    show RepDs K H Zx 0 (t.d :: ts'.map (·.d)) (v :: vs') []
    unfold RepDs
    refine ⟨v, vs', [], [], rfl, h1.look (fun a q => hz a (Zs.mono (fun _ z => z) (fun j hj => ?_) a q)) fun b q => hb b (List.mem_append_left _ q), TsOk.look h2 (by simpa [Ag.isEx] using ha) (fun a q => hz a (Zs.mono (fun _ z => z) (fun j hj => ?_) a q)) fun b q => hb b (List.mem_append_right _ q), rfl⟩
    · rw [List.flatMap_cons]; exact List.mem_append_left _ hj
    · rw [List.flatMap_cons]; exact List.mem_append_right _ hj
  | .io j :: r, ts, vs, B, h, ha, _, _ => by simp [Ag.isEx] at ha

section
variable {X : Cx} {W : WX} {pos : Pos} {M : List Nat} {e : Expr} {es : List Expr} {m : VE} {ags : List Ag}
/-- a pure operation of all arguments -/
def vOp (op : OpN) (ags : List Ag) : VE := fun env Qn Qx => vAs ags env (fun ts env1 => fin (op (ts.map (·.d))) (ts.flatMap (·.s)) env1 Qn) Qx
theorem opN_ok {op : OpN} {r : List V → Hp → VK → Prop} (ho : OpNOk X op r) (ha : ags.all Ag.isEx = true) : ∀ σ H Q, LE X W (agM ags) (vOp op ags) σ H Q → LA X W ags σ H fun xs H1 => r xs H1 Q := fun σ H Q ⟨env, Z, As, Qn, Qx, S, q, hn, hx⟩ => by
  refine ⟨env, Z, As, _, Qx, S, q, fun ts env1 vs H1 Z1 As1 B q st S1 T n => ?_, hx⟩
  obtain ⟨c, e, hc, q⟩ := fin_of q
  have own := T.own
  have S2 := S1.froze (A := B) fun b hb => ⟨(own b hb).1, (own b hb).2.2⟩
  refine ho _ c _ _ (Zs (fun z => Z1 z ∨ z ∈ B) As1 (ts.flatMap (·.s))) _ e hc (T.look ha (Zs.mono (fun _ z => .inl z) fun _ h => h) fun b hb => .inl (.inr hb)) ?_
  exact kRes (k := hn) q (st.froze n) S2
theorem ee_callB {x : Str} {p : Pos} {id : String} {op : OpN} {r : List V → Hp → VK → Prop} (hr : CallR X (.builtin id) r) (ho : OpNOk X op r) (hg : Gl X x) (hm : X.mg x = none) (hv : bootBuiltins x = some (.builtin id)) (ha : EA X W (e :: es) ags) (hx : ags.all Ag.isEx = true := by rfl)
    (hn : x ≠ "__name__" := by decide) (hdb : (x == ("__debug__" : Str)) = false := by decide)
    (he : starEach (e :: es) X.env = (false, eval e X.env) :: starEach es X.env := by rfl) (hpl : (backTo pos (starEach es X.env)).any (·.1) = false := by rfl) : EE X W (agM ags) (.Call (.Name x p) (e :: es) [] pos) (vOp op ags) :=
  peImp (pe_callB hr hg hm hv ha hn hdb he hpl) (opN_ok ho hx)
theorem ee_callTy {x : Str} {p : Pos} {T : String} {op : OpN} {r : List V → Hp → VK → Prop} (hr : CallR X (.type T) r) (ho : OpNOk X op r) (hg : Gl X x) (hm : X.mg x = none) (hv : bootBuiltins x = some (.type T)) (ha : EA X W (e :: es) ags) (hx : ags.all Ag.isEx = true := by rfl)
    (hn : x ≠ "__name__" := by decide) (hdb : (x == ("__debug__" : Str)) = false := by decide)
    (he : starEach (e :: es) X.env = (false, eval e X.env) :: starEach es X.env := by rfl) (hpl : (backTo pos (starEach es X.env)).any (·.1) = false := by rfl) : EE X W (agM ags) (.Call (.Name x p) (e :: es) [] pos) (vOp op ags) :=
  peImp (pe_callTy hr hg hm hv ha hn hdb he hpl) (opN_ok ho hx)

/-! ### displays -/
/-- all of them things that never change -/
def allI : List D → Option (List I)
  | [] => some []
  | .im i :: l => (allI l).map (i :: ·)
  | _ :: _ => none
def mkTup (l : List D) : D := match allI l with
  | some is => .im (.tup is)
  | none => .tup l
theorem allI_map : ∀ is : List I, allI (is.map D.im) = some is
  | [] => rfl
  | i :: is => by
    show (allI (is.map D.im)).map (i :: ·) = _
    rw [allI_map is]
    rfl
theorem mkTup_map (is : List I) : mkTup (is.map D.im) = .im (.tup is) := by
  unfold mkTup
  rw [allI_map]
theorem allI_rep {K : PySem.W.Frag} {H : Hp} {Z : Addr → Prop} {n : Nat} : ∀ {l : List D} {is : List I} {vs : List V} {A : List Addr}, allI l = some is → RepDs K H Z n l vs A → RepIs K H is vs ∧ A = []
  | [], is, vs, A, e, h => by
    cases e
    unfold RepDs at h
    unfold RepIs
    exact h
  | .im i :: l, is, vs, A, e, h => by
    have e : (allI l).map (i :: ·) = some is := e
    cases e2 : allI l with
    | none => rw [e2] at e; cases e
    | some js =>
      rw [e2] at e
      cases e
      unfold RepDs at h
      obtain ⟨v, r, A1, A2, e3, h1, h2, e4⟩ := h
      obtain ⟨q1, q2⟩ := allI_rep e2 h2
      unfold RepD at h1
      unfold RepIs
      exact ⟨⟨v, r, e3, h1.1, q1⟩, by rw [e4, h1.2, q2]; rfl⟩
  | .tup _ :: l, is, vs, A, e, h => by cases e
  | .lst _ :: l, is, vs, A, e, h => by cases e
theorem mkTup_rep {K : PySem.W.Frag} {H : Hp} {Z : Addr → Prop} {n : Nat} {l : List D} {a : Addr} {vs : List V} {A : List Addr} (ht : SqT K H a vs) (h : RepDs K H Z n l vs A) : RepD K H Z n (mkTup l) (.ref a) A := by
  unfold mkTup
  cases e : allI l with
  | none =>
    show RepD K H Z n (.tup l) _ _
    unfold RepD
    exact ⟨a, vs, rfl, ht, h⟩
  | some is =>
    obtain ⟨q1, q2⟩ := allI_rep e h
    show RepD K H Z n (.im (.tup is)) _ _
    unfold RepD
    refine ⟨?_, q2⟩
    unfold RepI
    exact ⟨a, vs, rfl, ht, q1⟩
theorem same_upd {H : Hp} {p : Addr} {o : HO} (h : H p = none) : Same H (upd H p o) := fun b u e => by
  rw [upd_ne (ne_of_none e h)]
  exact e
theorem RepDs.same {K : PySem.W.Frag} {H H' : Hp} {Z : Addr → Prop} {n : Nat} {l : List D} {vs : List V} {A : List Addr} (s : Same H H') (h : RepDs K H Z n l vs A) : RepDs K H' Z n l vs A :=
  RepDs.keep (fun a o e _ => s a o e) (fun a o z e => ⟨s a o e, z⟩) _ _ _ _ (fun a _ o e => s a o e) h
/-- a new tuple, a new list of frozen things -/
theorem res_newT {K : PySem.W.Frag} {H : Hp} {Zx : Addr → Prop} {l : List D} {vs : List V} {Q : VK} {p : Addr} (k : ResK K H Zx (mkTup l) 0 Q) (h : RepDs K H Zx 0 l vs []) (hp : H p = none) : Q (.ref p) (upd H p (.tup vs)) :=
  k _ _ [] (same_upd hp) (fun b hb => nomatch hb) .nil (mkTup_rep (.inl (.inl upd_same)) (h.same (same_upd hp)))
theorem res_newL {K : PySem.W.Frag} {H : Hp} {Zx : Addr → Prop} {l : List D} {vs : List V} {Q : VK} {p : Addr} (k : ResK K H Zx (.lst l) 1 Q) (h : RepDs K H Zx 0 l vs []) (hp : H p = none) : Q (.ref p) (upd H p (.lst vs)) := by
  refine k _ _ [p] (same_upd hp) (fun b hb => ?_) (List.nodup_cons.mpr ⟨by simp, .nil⟩) ?_
  · rw [List.mem_singleton.mp hb]; exact hp
  · show RepD K (upd H p (.lst vs)) Zx (0 + 1) (.lst l) _ _
    unfold RepD
    exact ⟨p, vs, [], rfl, upd_same, h.same (same_upd hp), rfl⟩
def oTup : OpN := fun l => some ⟨l.length ≤ 16777216, mkTup l, 0⟩
def oLst : OpN := fun l => some ⟨l.length ≤ 16777216, .lst l, 1⟩
theorem ee_tup {x1} (ha : EA X W es ags) (hx : ags.all Ag.isEx = true := by rfl) : EE X W (agM ags) (.Tuple es x1 pos) (vOp oTup ags) :=
  peImp (pe_tup ha) (opN_ok (r := fun xs H1 Q => xs.length ≤ sizeLine ∧ ∀ p, H1 p = none → Q (.ref p) (upd H1 p (.tup xs))) (fun as c xs H Zx Q e hc h k => by
    cases e
    exact ⟨by rw [RepDs.length h, sizeLine_eq]; exact hc, fun p hp => res_newT k h hp⟩) hx)
theorem ee_lst (ha : EA X W es ags) (hx : ags.all Ag.isEx = true := by rfl) : EE X W (agM ags) (.List es pos) (vOp oLst ags) :=
  peImp (pe_lst ha) (opN_ok (r := fun xs H1 Q => xs.length ≤ sizeLine ∧ ∀ p, H1 p = none → Q (.ref p) (upd H1 p (.lst xs))) (fun as c xs H Zx Q e hc h k => by
    cases e
    exact ⟨by rw [RepDs.length h, sizeLine_eq]; exact hc, fun p hp => res_newL k h hp⟩) hx)

/-! ### and, or, not as values -/
def vAndV (m1 m2 : VE) : VE := fun env Qn Qx => m1 env (fun a env1 => match a.d with
  | .im (.bl c) => if c = true then m2 env1 Qn Qx else Qn ⟨.im (.bl false), 0, []⟩ env1
  | _ => False) Qx
def vOrV (m1 m2 : VE) : VE := fun env Qn Qx => m1 env (fun a env1 => match a.d with
  | .im (.bl c) => if c = true then Qn ⟨.im (.bl true), 0, []⟩ env1 else m2 env1 Qn Qx
  | _ => False) Qx
variable {a b : Expr} {M1 M2 : List Nat} {m1 m2 : VE} {rest : List Expr}
theorem bl_of {K : PySem.W.Frag} {H : Hp} {Z : Addr → Prop} {n : Nat} {c : Bool} {x : V} {A : List Addr} (h : RepD K H Z n (.im (.bl c)) x A) : x = .bl c := by
  unfold RepD at h
  exact h.1
theorem BNew.trans {H H1 : Hp} {Z Z1 : Addr → Prop} {As As1 : Ow} {B : List Addr} (st : Step M1 H Z As H1 Z1 As1) (n : BNew M2 H1 As1 B) : BNew (M1 ++ M2) H As B := fun z hz => by
  rcases n z hz with e | ⟨j, hj, w⟩
  · exact .inl (st.lv z e)
  · rcases st.an j z w with q | ⟨i, hi, q⟩ | q
    · exact .inr ⟨j, List.mem_append_right _ hj, q⟩
    · exact .inr ⟨i, List.mem_append_left _ hi, q⟩
    · exact .inl q
theorem ee_one {o : BoolOp} (h : EE X W M a m) : EE X W M (.BoolOp o [a] pos) m := pe_one h
theorem ee_and (h1 : EE X W M1 a m1) (h2 : EE X W M2 (.BoolOp .And (b :: rest) pos) m2) : EE X W (M1 ++ M2) (.BoolOp .And (a :: b :: rest) pos) (vAndV m1 m2) := peImp (pe_and h1 h2) fun σ H Q ⟨env, Z, As, Qn, Qx, S, q, hn, hx⟩ => by
  refine ⟨env, Z, As, _, Qx, S, q, fun a env1 x H1 Z1 As1 A q st S1 T n => ?_, hx.left⟩
  obtain ⟨d, dn, ds⟩ := a
  split at q
  · rename_i c e
    cases e
    refine ⟨c, bl_of T.rep, ?_⟩
    cases c with
    | false => exact kIm hn q (st.mono fun _ h => List.mem_append_left _ h) S1 rfl
    | true => exact ⟨env1, Z1, As1, Qn, Qx, S1, q, fun t env2 v H2 Z2 As2 B q2 st2 S2 T n => hn t env2 v H2 Z2 As2 B q2 (st.trans S st2) S2 T (BNew.trans st n), hx.step S st⟩
  · exact q.elim
theorem ee_or (h1 : EE X W M1 a m1) (h2 : EE X W M2 (.BoolOp .Or (b :: rest) pos) m2) : EE X W (M1 ++ M2) (.BoolOp .Or (a :: b :: rest) pos) (vOrV m1 m2) := peImp (pe_or h1 h2) fun σ H Q ⟨env, Z, As, Qn, Qx, S, q, hn, hx⟩ => by
  refine ⟨env, Z, As, _, Qx, S, q, fun a env1 x H1 Z1 As1 A q st S1 T n => ?_, hx.left⟩
  obtain ⟨d, dn, ds⟩ := a
  split at q
  · rename_i c e
    cases e
    refine ⟨c, bl_of T.rep, ?_⟩
    cases c with
    | true => exact kIm hn q (st.mono fun _ h => List.mem_append_left _ h) S1 rfl
    | false => exact ⟨env1, Z1, As1, Qn, Qx, S1, q, fun t env2 v H2 Z2 As2 B q2 st2 S2 T n => hn t env2 v H2 Z2 As2 B q2 (st.trans S st2) S2 T (BNew.trans st n), hx.step S st⟩
  · exact q.elim
def oNot : Op1 := fun
  | .im (.bl c) => some ⟨True, .im (.bl (!c)), 0⟩
  | _ => none
theorem ee_not (h : EE X W M a m) : EE X W M (.UnaryOp .Not a pos) (vUn oNot m) := peImp (pe_not h) (un_ok (r := fun x H1 Q => ∃ c, x = .bl c ∧ Q (.bl (!c)) H1) fun d c x H Zx Q e hc h k => by
  cases d with
  | im i =>
    cases i with
    | bl c =>
      cases e
      exact ⟨c, bl_of h, k _ H [] (Same.refl H) (fun b hb => nomatch hb) .nil (by unfold RepD; exact ⟨rfl, rfl⟩)⟩
    | _ => cases e
  | _ => cases e)
end
end Kv

namespace Kv
open PySem PySem.Spec L2
open PyProof.Rows hiding St

/-- what statements may have done -/
structure Go (H : Hp) (Z : Addr → Prop) (As : Ow) (H' : Hp) (Z' : Addr → Prop) (As' : Ow) : Prop where
  kp : ∀ a o, H a = some o → (∀ j, a ∉ As j) → H' a = some o
  lv : ∀ a, H' a = none → H a = none
  zm : ∀ a, Z a → Z' a
  zn : ∀ a, Z' a → Z a ∨ (∃ j, a ∈ As j) ∨ H a = none
  an : ∀ j, ∀ a ∈ As' j, (∃ i, a ∈ As i) ∨ H a = none
theorem Go.refl {H : Hp} {Z : Addr → Prop} {As : Ow} : Go H Z As H Z As := ⟨fun _ _ e _ => e, fun _ e => e, fun _ z => z, fun _ z => .inl z, fun j _ h => .inl ⟨j, h⟩⟩
theorem Step.go {M : List Nat} {H H' : Hp} {Z Z' : Addr → Prop} {As As' : Ow} (h : Step M H Z As H' Z' As') : Go H Z As H' Z' As' :=
  ⟨fun a o e k => h.kp a o e fun j _ => k j, h.lv, h.zm, h.zn, fun j a ha => (h.an j a ha).elim (fun z => .inl ⟨j, z⟩) (Or.imp (fun ⟨i, _, z⟩ => ⟨i, z⟩) id)⟩
theorem Go.trans {H H1 H2 : Hp} {Z Z1 Z2 : Addr → Prop} {As As1 As2 : Ow} (a : Go H Z As H1 Z1 As1) (b : Go H1 Z1 As1 H2 Z2 As2) : Go H Z As H2 Z2 As2 := by
  refine ⟨fun x o e k => b.kp x o (a.kp x o e k) fun j hj => ?_, fun x e => a.lv x (b.lv x e), fun x z => b.zm x (a.zm x z), fun x z => ?_, fun j x hx => ?_⟩
  · rcases a.an j x hj with ⟨i, h⟩ | h
    · exact k i h
    · rw [h] at e; cases e
  · rcases b.zn x z with h | ⟨j, h⟩ | h
    · exact a.zn x h
    · exact .inr (a.an j x h)
    · exact .inr (.inr (a.lv x h))
  · rcases b.an j x hx with ⟨i, h⟩ | h
    · exact a.an i x h
    · exact .inr (a.lv x h)
def Fx (U : List Nat) (σ σ' : St) : Prop := σ'.length = σ.length ∧ ∀ j, j ∉ U → σ'[j]? = σ[j]?
theorem Fx.refl {U : List Nat} {σ : St} : Fx U σ σ := ⟨rfl, fun _ _ => rfl⟩
theorem Fx.mono {U U' : List Nat} {σ σ' : St} (h : Fx U σ σ') (hu : ∀ j ∈ U, j ∈ U') : Fx U' σ σ' := ⟨h.1, fun j hj => h.2 j fun z => hj (hu j z)⟩
theorem Fx.trans {U : List Nat} {σ σ1 σ2 : St} (a : Fx U σ σ1) (b : Fx U σ1 σ2) : Fx U σ σ2 := ⟨b.1.trans a.1, fun j hj => (b.2 j hj).trans (a.2 j hj)⟩
theorem Fx.set {U : List Nat} {σ : St} {i : Nat} {v : Option V} (h : i ∈ U) : Fx U σ (σ.set i v) := ⟨by simp, fun j hj => List.getElem?_set_ne fun e => hj (by rw [← e]; exact h)⟩
def BN (H : Hp) (As : Ow) (B : List Addr) : Prop := ∀ b ∈ B, H b = none ∨ ∃ j, b ∈ As j
theorem BN.go {H H1 : Hp} {Z Z1 : Addr → Prop} {As As1 : Ow} {B : List Addr} (g : Go H Z As H1 Z1 As1) (n : BN H1 As1 B) : BN H As B := fun b hb => by
  rcases n b hb with e | ⟨j, h⟩
  · exact .inl (g.lv b e)
  · exact (g.an j b h).symm
theorem BNew.bn {M : List Nat} {H : Hp} {As : Ow} {B : List Addr} (n : BNew M H As B) : BN H As B := fun b hb => (n b hb).imp id fun ⟨j, _, w⟩ => ⟨j, w⟩

/-- what stands behind a statement meets what is wanted there -/
structure Bk (K : PySem.W.Frag) (W : WX) (U : List Nat) (σ : St) (H : Hp) (Z : Addr → Prop) (As : Ow) (P : VD) (D : Ends) : Prop where
  nx : ∀ env' σ' H' Z' As', P.nx env' → Go H Z As H' Z' As' → SA K H' Z' As' σ' env' → Fx U σ σ' → D.nx σ' H'
  bk : ∀ env' σ' H' Z' As', P.bk env' → Go H Z As H' Z' As' → SA K H' Z' As' σ' env' → Fx U σ σ' → D.bk σ' H'
  ct : ∀ env' σ' H' Z' As', P.ct env' → Go H Z As H' Z' As' → SA K H' Z' As' σ' env' → Fx U σ σ' → D.ct σ' H'
  rt : ∀ t env' v σ' H' Z' As' B, P.rt t env' → Go H Z As H' Z' As' → SA K H' Z' As' σ' env' → TvOk K H' Z' As' t v B → BN H As B → Fx U σ σ' → D.rt v H'
  xc : ∀ x env' cls d σ' H' Z' As', P.xc x env' → Go H Z As H' Z' As' → SA K H' Z' As' σ' env' → XOk K x cls d H' → Fx U σ σ' → W cls d σ' H'
def LS (X : Cx) (W : WX) (U : List Nat) (m : VS) : TS := fun D σ H => ∃ env Z As P, SA X.K H Z As σ env ∧ m env P ∧ Bk X.K W U σ H Z As P D
def SS (X : Cx) (W : WX) (U : List Nat) (st : Stmt) (m : VS) : Prop := PS X st (LS X W U m)
def SSs (X : Cx) (W : WX) (U : List Nat) (st : List Stmt) (m : VS) : Prop := PSs X st (LS X W U m)

section
variable {K : PySem.W.Frag} {W : WX} {U U' : List Nat} {σ σ' : St} {H H' : Hp} {Z Z' : Addr → Prop} {As As' : Ow} {P : VD} {D : Ends} {env env' : En}
theorem Bk.step (g : Go H Z As H' Z' As') (f : Fx U σ σ') (b : Bk K W U σ H Z As P D) : Bk K W U σ' H' Z' As' P D :=
  ⟨fun e s h z a p g' S f' => b.nx e s h z a p (g.trans g') S (f.trans f'), fun e s h z a p g' S f' => b.bk e s h z a p (g.trans g') S (f.trans f'), fun e s h z a p g' S f' => b.ct e s h z a p (g.trans g') S (f.trans f'),
    fun t e v s h z a B p g' S T n f' => b.rt t e v s h z a B p (g.trans g') S T (BN.go g n) (f.trans f'), fun x e c d s h z a p g' S o f' => b.xc x e c d s h z a p (g.trans g') S o (f.trans f')⟩
theorem Bk.mono (hu : ∀ j ∈ U, j ∈ U') (b : Bk K W U' σ H Z As P D) : Bk K W U σ H Z As P D :=
  ⟨fun e s h z a p g' S f' => b.nx e s h z a p g' S (f'.mono hu), fun e s h z a p g' S f' => b.bk e s h z a p g' S (f'.mono hu), fun e s h z a p g' S f' => b.ct e s h z a p g' S (f'.mono hu),
    fun t e v s h z a B p g' S T n f' => b.rt t e v s h z a B p g' S T n (f'.mono hu), fun x e c d s h z a p g' S o f' => b.xc x e c d s h z a p g' S o (f'.mono hu)⟩
/-- what an expression within lets out -/
theorem Bk.xto {M : List Nat} (b : Bk K W U σ H Z As P D) : XTo K W M σ H Z As P.xc := fun x env' H' Z' As' cls d q s a o => b.xc x env' cls d σ H' Z' As' q s.go a o .refl
end

section
variable {X : Cx} {W : WX} {U U1 U2 : List Nat} {pos : Pos} {M : List Nat} {e : Expr} {m : VE} {st : Stmt} {rest : List Stmt} {a b : List Stmt} {s s1 s2 : VS} {t : VT}
theorem SS.mono (h : SS X W U st s) (hu : ∀ j ∈ U, j ∈ U1) : SS X W U1 st s := psImp h fun D σ H ⟨env, Z, As, P, S, q, bk⟩ => ⟨env, Z, As, P, S, q, bk.mono hu⟩
theorem SSs.mono (h : SSs X W U rest s) (hu : ∀ j ∈ U, j ∈ U1) : SSs X W U1 rest s := pssImp h fun D σ H ⟨env, Z, As, P, S, q, bk⟩ => ⟨env, Z, As, P, S, q, bk.mono hu⟩
/-! ### blocks -/
def vSkip : VS := fun env P => P.nx env
def vSeq (s1 s2 : VS) : VS := fun env P => s1 env { P with nx := fun env' => s2 env' P }
theorem ss_nil : SSs X W U [] vSkip := pssImp pss_nil fun D σ H ⟨env, Z, As, P, S, q, bk⟩ => bk.nx env σ H Z As q .refl S .refl
theorem ss_cons (h1 : SS X W U1 st s1) (h2 : SSs X W U2 rest s2) : SSs X W (U1 ++ U2) (st :: rest) (vSeq s1 s2) := pssImp (pss_cons (h1.mono fun _ h => List.mem_append_left U2 h) (h2.mono fun _ h => List.mem_append_right U1 h)) fun D σ H ⟨env, Z, As, P, S, q, bk⟩ =>
  ⟨env, Z, As, _, S, q, fun env' σ' H' Z' As' p g S' f => ⟨env', Z', As', P, S', p, bk.step g f⟩, bk.bk, bk.ct, bk.rt, bk.xc⟩
theorem ss_one (h1 : SS X W U st s) : SSs X W U [st] s := pss_one h1
def vBreak : VS := fun env P => P.bk env
def vCont : VS := fun env P => P.ct env
theorem ss_pass : SS X W U (.Pass pos) vSkip := psImp ps_pass fun D σ H ⟨env, Z, As, P, S, q, bk⟩ => bk.nx env σ H Z As q .refl S .refl
theorem ss_break : SS X W U (.Break pos) vBreak := psImp ps_break fun D σ H ⟨env, Z, As, P, S, q, bk⟩ => bk.bk env σ H Z As q .refl S .refl
theorem ss_cont : SS X W U (.Continue pos) vCont := psImp ps_continue fun D σ H ⟨env, Z, As, P, S, q, bk⟩ => bk.ct env σ H Z As q .refl S .refl
/-- an expression whose value is dropped -/
def vDrop (m : VE) : VS := fun env P => m env (fun _ env1 => P.nx env1) P.xc
theorem ss_expr (he : EE X W M e m) (hs : swapsWith e none pos.line X.env = pure false := by rfl) : SS X W U (.Expr e pos) (vDrop m) := psImp (ps_expr he hs) fun D σ H ⟨env, Z, As, P, S, q, bk⟩ =>
  ⟨env, Z, As, _, _, S, q, fun t env' v H' Z' As' B q st S' T n => bk.nx env' σ H' Z' As' q st.go S' .refl, bk.xto⟩
def vRet (m : VE) : VS := fun env P => m env P.rt P.xc
theorem ss_ret (he : EE X W M e m) : SS X W U (.Return (some e) pos) (vRet m) := psImp (ps_ret he) fun D σ H ⟨env, Z, As, P, S, q, bk⟩ =>
  ⟨env, Z, As, _, _, S, q, fun t env' v H' Z' As' B q st S' T n => bk.rt t env' v σ H' Z' As' B q st.go S' T n.bn .refl, bk.xto⟩
def vRetN : VS := fun env P => P.rt ⟨.im .non, 0, []⟩ env
theorem ss_retN : SS X W U (.Return none pos) vRetN := psImp ps_retN fun D σ H ⟨env, Z, As, P, S, q, bk⟩ =>
  bk.rt _ env .non σ H Z As [] q .refl S ⟨by unfold RepD; exact ⟨rfl, rfl⟩, .nil, fun b hb => nomatch hb⟩ (fun b hb => nomatch hb) .refl
theorem getElem?_set_some {α : Type} {l : List α} {i j : Nat} {x y : α} (h : (l.set i x)[j]? = some y) : (j = i ∧ y = x) ∨ (j ≠ i ∧ l[j]? = some y) := by
  by_cases e : j = i
  · subst e
    by_cases hl : j < l.length
    · rw [List.getElem?_set_self hl] at h
      exact .inl ⟨rfl, (Option.some.inj h).symm⟩
    · rw [List.getElem?_eq_none (by simpa using hl)] at h
      cases h
  · rw [List.getElem?_set_ne (fun z => e z.symm)] at h
    exact .inr ⟨e, h⟩
/-- what a slot held goes (its own lists with it) -/
theorem SA.drop {K : PySem.W.Frag} {H : Hp} {Z : Addr → Prop} {As : Ow} {σ : St} {env : En} (S : SA K H Z As σ env) (j : Nat) : SA K H Z (fun i => if i = j then [] else As i) σ (env.set j none) := by
  have sub : ∀ i a, a ∈ (if i = j then [] else As i) → a ∈ As i := fun i a h => by
    by_cases e : i = j
    · rw [if_pos e] at h; cases h
    · rw [if_neg e] at h; exact h
  refine ⟨by rw [List.length_set]; exact S.len, fun i d n e => ?_, fun i => ?_, fun i k hik a h1 h2 => S.dj i k hik a (sub i a h1) (sub k a h2), fun i a h => S.mu i a (sub i a h), fun i a h => S.dz i a (sub i a h), S.zt⟩
  · rcases getElem?_set_some e with ⟨_, e2⟩ | ⟨h, e2⟩
    · cases e2
    · rw [if_neg h]; exact S.rep i d n e2
  · by_cases e : i = j
    · rw [if_pos e]; exact .nil
    · rw [if_neg e]; exact S.nd i
/-- return of a name: its lists go out with it -/
def vRetV (j : Nat) : VS := fun env P => at_ env j fun d n => P.rt ⟨d, n, []⟩ (env.set j none)
theorem ss_retV {j : Nat} {x : Str} {p : Pos} (hN : X.N[j]? = some x) (hv : Vis X.env.scope x) (hd : (x == ("__debug__" : Str)) = false := by decide) (hcd : (x == ("__classdict__" : Str)) = false := by decide) : SS X W U (.Return (some (.Name x p)) pos) (vRetV j) :=
  psImp (ps_ret (pe_var hN hv hd hcd)) fun D σ H ⟨env, Z, As, P, S, q, bk⟩ => by
    obtain ⟨d, n, e, q⟩ := at_of q
    obtain ⟨v, h1, h2⟩ := S.rep j d n e
    refine ⟨v, h1, bk.rt _ _ v σ H Z _ (As j) q ⟨fun _ _ e _ => e, fun _ e => e, fun _ z => z, fun _ z => .inl z, fun i a ha => .inl ⟨i, ?_⟩⟩ (S.drop j) ⟨?_, S.nd j, fun b hb => ⟨S.dz j b hb, fun i hi => ?_⟩⟩ (fun b hb => .inr ⟨j, hb⟩) .refl⟩
    · by_cases e : i = j
      · rw [if_pos e] at ha; cases ha
      · rw [if_neg e] at ha; exact ha
    · exact RepD.keep (fun _ _ e _ => e) (fun a o z e => ⟨e, .inl z⟩) _ _ _ _ (fun _ _ _ e => e) h2
    · by_cases e : i = j
      · rw [if_pos e] at hi; cases hi
      · rw [if_neg e] at hi; exact S.dj i j e b hi hb
def vIf (t : VT) (s1 s2 : VS) : VS := fun env P => t env (fun b env1 => if b = true then s1 env1 P else s2 env1 P) P.xc
theorem ss_if {c : Expr} (hc : ET X W M c t) (ha : SSs X W U1 a s1) (hb : SSs X W U2 b s2) : SS X W (U1 ++ U2) (.If c a b pos) (vIf t s1 s2) := psImp (ps_if hc (ha.mono fun _ h => List.mem_append_left U2 h) (hb.mono fun _ h => List.mem_append_right U1 h)) fun D σ H ⟨env, Z, As, P, S, q, bk⟩ => by
  refine ⟨env, Z, As, _, _, S, q, fun b env' H' Z' As' q st S' => ?_, bk.xto⟩
  cases b with
  | true => exact ⟨env', Z', As', P, S', q, bk.step st.go .refl⟩
  | false => exact ⟨env', Z', As', P, S', q, bk.step st.go .refl⟩

/-! ### freezing slots, storing -/
def frz1 (j : Nat) (env : En) : En := match env[j]? with
  | some (some (d, _)) => env.set j (some (d, 0))
  | _ => env
def frz : List Nat → En → En
  | [], env => env
  | j :: s, env => frz s (frz1 j env)
@[simp] theorem frz_nil (env : En) : frz [] env = env := rfl
@[simp] theorem frz_cons (j : Nat) (s : List Nat) (env : En) : frz (j :: s) env = frz s (frz1 j env) := rfl
theorem SA.frz1 {K : PySem.W.Frag} {H : Hp} {Z : Addr → Prop} {As : Ow} {σ : St} {env : En} (S : SA K H Z As σ env) (j : Nat) : SA K H (fun a => Z a ∨ a ∈ As j) (fun i => if i = j then [] else As i) σ (Kv.frz1 j env) := by
  have sub : ∀ i a, a ∈ (if i = j then [] else As i) → a ∈ As i ∧ i ≠ j := fun i a h => by
    by_cases e : i = j
    · rw [if_pos e] at h; cases h
    · rw [if_neg e] at h; exact ⟨h, e⟩
  have up : ∀ {d n v A}, RepD K H Z n d v A → RepD K H (fun a => Z a ∨ a ∈ As j) n d v A := fun {d n v A} h => RepD.keep (fun _ _ e _ => e) (fun a o z e => ⟨e, .inl z⟩) _ _ _ _ (fun _ _ _ e => e) h
  refine ⟨?_, fun i d n e => ?_, fun i => ?_, fun i k hik a h1 h2 => S.dj i k hik a (sub i a h1).1 (sub k a h2).1, fun i a h => S.mu i a (sub i a h).1, fun i a h z => ?_, fun a z => z.elim (S.zt a) (S.mu j a)⟩
  · unfold Kv.frz1
    split
    · rw [List.length_set]; exact S.len
    · exact S.len
  · have alt : (i = j ∧ n = 0 ∧ ∃ n0, env[j]? = some (some (d, n0))) ∨ (i ≠ j ∧ env[i]? = some (some (d, n))) := by
      unfold Kv.frz1 at e
      split at e
      · rename_i d0 n0 q
        rcases getElem?_set_some e with ⟨h1, h2⟩ | h
        · cases h2; exact .inl ⟨h1, rfl, n0, q⟩
        · exact .inr h
      · rename_i q
        by_cases hij : i = j
        · subst hij; exact absurd e (q d n)
        · exact .inr ⟨hij, e⟩
    rcases alt with ⟨h1, h2, n0, h3⟩ | ⟨h1, h2⟩
    · subst h1 h2
      obtain ⟨v, r1, r2⟩ := S.rep i d n0 h3
      rw [if_pos rfl]
      exact ⟨v, r1, RepD.freeze (fun a z => .inl z) _ _ _ _ (fun a ha => .inr ha) r2⟩
    · obtain ⟨v, r1, r2⟩ := S.rep i d n h2
      rw [if_neg h1]
      exact ⟨v, r1, up r2⟩
  · by_cases e : i = j
    · rw [if_pos e]; exact .nil
    · rw [if_neg e]; exact S.nd i
  · obtain ⟨h1, h2⟩ := sub i a h
    rcases z with z | z
    · exact S.dz i a h1 z
    · exact S.dj i j h2 a h1 z
/-- the world behind a freezing -/
def zF (Z : Addr → Prop) (As : Ow) (s : List Nat) : Addr → Prop := Zs Z As s
def aF (As : Ow) (s : List Nat) : Ow := fun i => if i ∈ s then [] else As i
theorem SA.cong {K : PySem.W.Frag} {H : Hp} {Z Z' : Addr → Prop} {As As' : Ow} {σ : St} {env : En} (S : SA K H Z As σ env) (hz : ∀ a, Z a ↔ Z' a) (ha : ∀ i, As i = As' i) : SA K H Z' As' σ env := by
  have e1 : Z = Z' := funext fun a => propext (hz a)
  have e2 : As = As' := funext ha
  rw [← e1, ← e2]; exact S
theorem SA.frz {K : PySem.W.Frag} {H : Hp} {σ : St} : ∀ (s : List Nat) {Z : Addr → Prop} {As : Ow} {env : En}, SA K H Z As σ env → SA K H (zF Z As s) (aF As s) σ (Kv.frz s env)
  | [], Z, As, env, S => S.cong (fun a => ⟨.inl, fun h => h.elim id fun ⟨j, hj, _⟩ => nomatch hj⟩) fun i => rfl
  | j :: s, Z, As, env, S => by
    refine (SA.frz s (S.frz1 j)).cong (fun a => ⟨fun h => ?_, fun h => ?_⟩) fun i => ?_
    · rcases h with (h | h) | ⟨k, hk, h⟩
      · exact .inl h
      · exact .inr ⟨j, List.mem_cons_self, h⟩
      · have h : a ∈ (if k = j then [] else As k) := h
        by_cases e : k = j
        · rw [if_pos e] at h; cases h
        · rw [if_neg e] at h; exact .inr ⟨k, List.mem_cons_of_mem _ hk, h⟩
    · rcases h with h | ⟨k, hk, h⟩
      · exact .inl (.inl h)
      · by_cases e : k = j
        · subst e; exact .inl (.inr h)
        · rcases List.mem_cons.mp hk with q | q
          · exact absurd q e
          · exact .inr ⟨k, q, by show a ∈ (if k = j then [] else As k); rw [if_neg e]; exact h⟩
    · unfold aF
      by_cases e : i = j
      · subst e; simp
      · simp [e]
theorem go_frz {H : Hp} {Z : Addr → Prop} {As : Ow} (s : List Nat) : Go H Z As H (zF Z As s) (aF As s) :=
  ⟨fun _ _ e _ => e, fun _ e => e, fun _ z => .inl z, fun a z => z.elim .inl fun ⟨j, _, h⟩ => .inr (.inl ⟨j, h⟩), fun i a ha => .inl ⟨i, by
    unfold aF at ha
    split at ha
    · cases ha
    · exact ha⟩⟩
theorem step_frz {H : Hp} {Z : Addr → Prop} {As : Ow} (M : List Nat) (s : List Nat) : Step M H Z As H (zF Z As s) (aF As s) :=
  ⟨fun _ _ e _ => e, fun _ e => e, fun _ z => .inl z, fun a z => z.elim .inl fun ⟨j, _, h⟩ => .inr (.inl ⟨j, h⟩), fun i a ha => .inl (by
    unfold aF at ha
    split at ha
    · cases ha
    · exact ha), fun j _ a ha => by
    by_cases h : j ∈ s
    · exact .inr (.inr ⟨j, h, ha⟩)
    · exact .inl (by unfold aF; rw [if_neg h]; exact ha)⟩
theorem Step.trans' {M : List Nat} {K : PySem.W.Frag} {σ : St} {env : En} {H H1 H2 : Hp} {Z Z1 Z2 : Addr → Prop} {As As1 As2 : Ow} (S : SA K H Z As σ env) (a : Step M H Z As H1 Z1 As1) (b : Step M H1 Z1 As1 H2 Z2 As2) : Step M H Z As H2 Z2 As2 :=
  (a.trans S b).mono fun j hj => (List.mem_append.mp hj).elim id id
/-- a value goes into a slot -/
def asg (env : En) (i : Nat) (t : Tv) : En := (frz t.s env).set i (some (t.d, t.n))
theorem SA.store {K : PySem.W.Frag} {H : Hp} {Z : Addr → Prop} {As : Ow} {σ : St} {env : En} {t : Tv} {v : V} {B : List Addr} {i : Nat} (S : SA K H Z As σ env) (T : TvOk K H Z As t v B) :
    ∃ Z' As', SA K H Z' As' (σ.set i (some v)) (asg env i t) ∧ ∀ H0 Z0 As0, Go H0 Z0 As0 H Z As → BN H0 As0 B → Go H0 Z0 As0 H Z' As' := by
  have S1 := SA.frz t.s S
  have own := RepD.own _ _ _ _ T.rep
  have subF : ∀ k a, a ∈ aF As t.s k → a ∈ As k ∧ k ∉ t.s := fun k a h => by
    unfold aF at h
    split at h
    · cases h
    · rename_i q; exact ⟨h, q⟩
  have bz : ∀ b ∈ B, ¬ zF Z As t.s b := fun b hb z => by
    rcases z with z | ⟨j, _, z⟩
    · exact (T.dj b hb).1 z
    · exact (T.dj b hb).2 j z
  refine ⟨zF Z As t.s, fun k => if k = i then B else aF As t.s k, ⟨by unfold asg; rw [List.length_set, List.length_set]; exact S1.len, fun k d n e => ?_, fun k => ?_, fun k l hkl a h1 h2 => ?_, fun k a h => ?_, fun k a h => ?_, S1.zt⟩, fun H0 Z0 As0 g n => ?_⟩
  · rcases getElem?_set_some e with ⟨h1, h2⟩ | ⟨h1, h2⟩
    · cases h2
      subst h1
      rw [if_pos rfl]
      refine ⟨v, List.getElem?_set_self ?_, T.rep⟩
      have hk : k < (asg env k t).length := (List.getElem?_eq_some_iff.mp e).1
      unfold asg at hk
      rw [List.length_set, S1.len] at hk
      exact hk
    · rw [if_neg h1]
      obtain ⟨v', r1, r2⟩ := S1.rep k d n h2
      exact ⟨v', by rw [List.getElem?_set_ne (fun z => h1 z.symm)]; exact r1, r2⟩
  · by_cases e : k = i
    · rw [if_pos e]; exact T.nd
    · rw [if_neg e]; exact S1.nd k
  · by_cases ek : k = i
    · rw [if_pos ek] at h1
      rw [if_neg (fun q => hkl (ek.trans q.symm))] at h2
      exact (T.dj a h1).2 l (subF l a h2).1
    · rw [if_neg ek] at h1
      by_cases el : l = i
      · rw [if_pos el] at h2
        exact (T.dj a h2).2 k (subF k a h1).1
      · rw [if_neg el] at h2
        exact S1.dj k l hkl a h1 h2
  · by_cases e : k = i
    · rw [if_pos e] at h; exact own a h
    · rw [if_neg e] at h; exact S1.mu k a h
  · by_cases e : k = i
    · rw [if_pos e] at h; exact bz a h
    · rw [if_neg e] at h; exact S1.dz k a h
  · have g1 := g.trans (go_frz t.s)
    refine ⟨g1.kp, g1.lv, g1.zm, g1.zn, fun k a h => ?_⟩
    by_cases e : k = i
    · rw [if_pos e] at h; exact (n a h).symm
    · rw [if_neg e] at h; exact g1.an k a h
def vSet (i : Nat) (m : VE) : VS := fun env P => m env (fun t env1 => P.nx (asg env1 i t)) P.xc
theorem set_ls {i : Nat} : ∀ D σ H, LS X W [i] (vSet i m) D σ H → LE X W M m σ H fun x H1 => D.nx (σ.set i (some x)) H1 := fun D σ H ⟨env, Z, As, P, S, q, bk⟩ => by
  refine ⟨env, Z, As, _, _, S, q, fun t env' v H' Z' As' B q st S' T n => ?_, bk.xto⟩
  obtain ⟨Z2, As2, S2, g2⟩ := SA.store (i := i) S' T
  exact bk.nx _ _ H' Z2 As2 q (g2 _ _ _ st.go n.bn) S2 (Fx.set (List.mem_singleton.mpr rfl))
theorem ss_set {i : Nat} {x : Str} {pos' : Pos} (hN : X.N.Nodup) (hi : X.N[i]? = some x) (hx : Loc X.env.scope x) (he : EE X W M e m) (hs : swapsWith e (some (.Name x pos')) pos.line X.env = pure false := by rfl)
    (hf : X.fn x = true ∨ X.env.scope.names.lookup x = some .local := by first | exact .inl rfl | exact .inr rfl | assumption) : SS X W [i] (.Assign [.Name x pos'] e pos) (vSet i m) :=
  psImp (ps_set hN hi hx he hs hf) set_ls
end
end Kv

namespace Kv
open PySem PySem.Spec L2
open PyProof.Rows hiding St

/-! ### targets -/
inductive Tg where
  | nm (i : Nat) | tp (l : List Tg)
/-- a tuple's items -/
def items : D → Option (List D)
  | .im (.tup l) => some (l.map D.im)
  | .tup l => some l
  | _ => none
mutual
def Tg.slots : Tg → List Nat
  | .nm i => [i]
  | .tp l => Tg.slotss l
def Tg.slotss : List Tg → List Nat
  | [] => []
  | t :: r => t.slots ++ Tg.slotss r
end
mutual
def bindT : Tg → D → En → (En → Prop) → Prop
  | .nm i, d, env, k => k (env.set i (some (d, 0)))
  | .tp l, d, env, k => match items d with
    | some ds => ds.length = l.length ∧ bindTs l ds env k
    | none => False
def bindTs : List Tg → List D → En → (En → Prop) → Prop
  | [], _, env, k => k env
  | t :: r, ds, env, k => match ds with
    | d :: ds => bindT t d env fun e => bindTs r ds e k
    | [] => False
end
mutual
def gT (K : PySem.W.Frag) : Tg → TG
  | .nm i => gName i
  | .tp l => gTup K l.length (gTs K l)
def gTs (K : PySem.W.Frag) : List Tg → TGs
  | [] => gNil
  | t :: r => gCons (gT K t) (gTs K r)
end
theorem RepIs.toD {K : PySem.W.Frag} {H : Hp} {Z : Addr → Prop} {n : Nat} : ∀ {l : List I} {vs : List V}, RepIs K H l vs → RepDs K H Z n (l.map D.im) vs []
  | [], vs, h => by
    unfold RepIs at h
    show RepDs K H Z n [] vs []
    unfold RepDs
    exact ⟨h, rfl⟩
  | i :: l, vs, h => by
    unfold RepIs at h
    obtain ⟨v, r, e, h1, h2⟩ := h
    show RepDs K H Z n (.im i :: l.map D.im) vs []
    unfold RepDs
    refine ⟨v, r, [], [], e, ?_, RepIs.toD h2, rfl⟩
    unfold RepD
    exact ⟨h1, rfl⟩
theorem items_rep {K : PySem.W.Frag} {H : Hp} {Z : Addr → Prop} {d : D} {ds : List D} {v : V} (e : items d = some ds) (h : RepD K H Z 0 d v []) : ∃ a vs, v = .ref a ∧ SqT K H a vs ∧ RepDs K H Z 0 ds vs [] := by
  cases d with
  | im i =>
    cases i with
    | tup l =>
      cases e
      unfold RepD at h
      obtain ⟨a, vs, e, h1, h2⟩ := (show ∃ a vs, v = .ref a ∧ SqT K H a vs ∧ RepIs K H l vs from h.1)
      exact ⟨a, vs, e, h1, h2.toD⟩
    | _ => cases e
  | tup l =>
    cases e
    unfold RepD at h
    exact h
  | lst l => cases e
/-- what a binding leaves -/
def BdOk (K : PySem.W.Frag) (U : List Nat) (σ : St) (H : Hp) (Z : Addr → Prop) (As : Ow) (k : En → Prop) (σ' : St) (H' : Hp) : Prop :=
  ∃ env' As', k env' ∧ SA K H' Z As' σ' env' ∧ H' = H ∧ Fx U σ σ' ∧ Go H Z As H Z As'
theorem tv0 {K : PySem.W.Frag} {H : Hp} {Z : Addr → Prop} {As : Ow} {d : D} {v : V} (h : RepD K H Z 0 d v []) : TvOk K H Z As ⟨d, 0, []⟩ v [] :=
  ⟨RepD.keep (fun _ _ e _ => e) (fun a o z e => ⟨e, .inl z⟩) _ _ _ _ (fun _ _ _ e => e) h, .nil, fun b hb => nomatch hb⟩
/-- a frozen value goes into a slot; the frozen ones stay the same -/
theorem SA.put {K : PySem.W.Frag} {H : Hp} {Z : Addr → Prop} {As : Ow} {σ : St} {env : En} {d : D} {v : V} {i : Nat} (S : SA K H Z As σ env) (h : RepD K H Z 0 d v []) :
    SA K H Z (fun j => if j = i then [] else As j) (σ.set i (some v)) (env.set i (some (d, 0))) := by
  have sub : ∀ k a, a ∈ (if k = i then [] else As k) → a ∈ As k := fun k a h => by
    by_cases e : k = i
    · rw [if_pos e] at h; cases h
    · rw [if_neg e] at h; exact h
  refine ⟨by rw [List.length_set, List.length_set]; exact S.len, fun k c n e => ?_, fun k => ?_, fun k l hkl a h1 h2 => S.dj k l hkl a (sub k a h1) (sub l a h2), fun k a h => S.mu k a (sub k a h), fun k a h => S.dz k a (sub k a h), S.zt⟩
  · rcases getElem?_set_some e with ⟨h1, h2⟩ | ⟨h1, h2⟩
    · cases h2
      subst h1
      rw [if_pos rfl]
      have hk : k < (env.set k (some (d, 0))).length := (List.getElem?_eq_some_iff.mp e).1
      rw [List.length_set, S.len] at hk
      exact ⟨v, List.getElem?_set_self hk, h⟩
    · rw [if_neg h1]
      obtain ⟨v', r1, r2⟩ := S.rep k c n h2
      exact ⟨v', by rw [List.getElem?_set_ne (fun z => h1 z.symm)]; exact r1, r2⟩
  · by_cases e : k = i
    · rw [if_pos e]; exact .nil
    · rw [if_neg e]; exact S.nd k
theorem go_put {H : Hp} {Z : Addr → Prop} {As : Ow} (i : Nat) : Go H Z As H Z (fun j => if j = i then [] else As j) :=
  ⟨fun _ _ e _ => e, fun _ e => e, fun _ z => z, fun _ z => .inl z, fun k a h => .inl ⟨k, by
    by_cases e : k = i
    · rw [if_pos e] at h; cases h
    · rw [if_neg e] at h; exact h⟩⟩
mutual
theorem bind_ok {K : PySem.W.Frag} {H : Hp} {Z : Addr → Prop} {U : List Nat} : ∀ (T : Tg) {d : D} {v : V} {σ : St} {env : En} {As : Ow} {k : En → Prop} {Q : St → Hp → Prop}, (∀ j ∈ T.slots, j ∈ U) → SA K H Z As σ env → RepD K H Z 0 d v [] → bindT T d env k →
    (∀ σ' H', BdOk K U σ H Z As k σ' H' → Q σ' H') → gT K T v σ H Q
  | .nm i, d, v, σ, env, As, k, Q, hu, S, h, q, hq => by
    unfold bindT at q
    unfold gT
    exact hq _ H ⟨_, _, q, S.put h, rfl, Fx.set (hu i (by unfold Tg.slots; exact List.mem_singleton.mpr rfl)), go_put i⟩
  | .tp l, d, v, σ, env, As, k, Q, hu, S, h, q, hq => by
    unfold bindT at q
    unfold gT
    split at q
    · rename_i ds e
      obtain ⟨a, vs, e1, h1, h2⟩ := items_rep e h
      exact ⟨a, vs, e1, h1, by rw [RepDs.length h2]; exact q.1, binds_ok l (fun j hj => hu j (by unfold Tg.slots; exact hj)) q.1 S h2 q.2 hq⟩
    · exact q.elim
theorem binds_ok {K : PySem.W.Frag} {H : Hp} {Z : Addr → Prop} {U : List Nat} : ∀ (l : List Tg) {ds : List D} {vs : List V} {σ : St} {env : En} {As : Ow} {k : En → Prop} {Q : St → Hp → Prop}, (∀ j ∈ Tg.slotss l, j ∈ U) → ds.length = l.length → SA K H Z As σ env → RepDs K H Z 0 ds vs [] → bindTs l ds env k →
    (∀ σ' H', BdOk K U σ H Z As k σ' H' → Q σ' H') → gTs K l vs σ H Q
  | [], ds, vs, σ, env, As, k, Q, hu, hl, S, h, q, hq => by
    unfold bindTs at q
    unfold gTs
    have e : ds = [] := List.eq_nil_of_length_eq_zero hl
    subst e
    unfold RepDs at h
    exact ⟨h.1, hq σ H ⟨env, As, q, S, rfl, .refl, .refl⟩⟩
  | t :: r, ds, vs, σ, env, As, k, Q, hu, hl, S, h, q, hq => by
    unfold bindTs at q
    unfold gTs
    cases ds with
    | nil => exact q.elim
    | cons d ds =>
      unfold RepDs at h
      obtain ⟨v, vr, A1, A2, e, h1, h2, e2⟩ := h
      have e3 := List.append_eq_nil_iff.mp e2.symm
      rw [e3.1] at h1
      rw [e3.2] at h2
      refine ⟨v, vr, e, bind_ok t (fun j hj => hu j (by unfold Tg.slotss; exact List.mem_append_left _ hj)) S h1 q fun σ' H' hb => ?_⟩
      obtain ⟨env', As', q', S', eH, f, g⟩ := hb
      subst eH
      refine binds_ok r (fun j hj => hu j (by unfold Tg.slotss; exact List.mem_append_right _ hj)) (by simpa using hl) S' h2 q' fun σ2 H2 hb => ?_
      obtain ⟨env2, As2, q2, S2, eH, f2, g2⟩ := hb
      subst eH
      exact hq _ _ ⟨env2, As2, q2, S2, rfl, f.trans f2, g.trans g2⟩
end
section
variable {X : Cx} {W : WX} {U U1 U2 : List Nat} {pos : Pos} {M : List Nat} {e tg : Expr} {m : VE} {T : Tg}
/-- a value that is frozen wholly -/
theorem fz {M : List Nat} {σ : St} {H : Hp} {env env' : En} {Z Z' : Addr → Prop} {As As' : Ow} {H' : Hp} {t : Tv} {v : V} {B : List Addr} (S0 : SA X.K H Z As σ env) (st : Step M H Z As H' Z' As') (S : SA X.K H' Z' As' σ env') (T : TvOk X.K H' Z' As' t v B) (n : BNew M H As B) :
    ∃ Z2 As2, SA X.K H' Z2 As2 σ (frz t.s env') ∧ RepD X.K H' Z2 0 t.d v [] ∧ Step M H Z As H' Z2 As2 := by
  have own := RepD.own _ _ _ _ T.rep
  have S2 := S.froze (A := B) fun b hb => ⟨own b hb, (T.dj b hb).2⟩
  refine ⟨_, _, SA.frz t.s S2, T.look (Zs.mono (fun _ z => .inl z) fun _ h => h) fun b hb => .inl (.inr hb), (st.froze n).trans' S0 (step_frz M t.s)⟩
def vAsg (T : Tg) (m : VE) : VS := fun env P => m env (fun t env1 => bindT T t.d (frz t.s env1) P.nx) P.xc
theorem ss_asg (he : EE X W M e m) (hg : PG X tg (gT X.K T)) (hs : swapsWithSole [tg] e pos.line X.env = pure false := by rfl) (hw : swappedStores [tg] e X.env = pure none := by rfl)
    (h1 : (assignEach [tg] X.env).map (·.2) = [assign tg X.env] := by rfl) : SS X W T.slots (.Assign [tg] e pos) (vAsg T m) :=
  psImp (ps_asg he hg hs hw h1) fun D σ H ⟨env, Z, As, P, S, q, bk⟩ => by
    refine ⟨env, Z, As, _, _, S, q, fun t env' v H' Z' As' B q st S' T' n => ?_, bk.xto⟩
    obtain ⟨Z2, As2, S2, r, g⟩ := fz S st S' T' n
    refine bind_ok (U := T.slots) T (fun _ h => h) S2 r q fun σ' H2 hb => ?_
    obtain ⟨env2, As3, q2, S3, eH, f, g2⟩ := hb
    subst eH
    exact bk.nx _ _ _ _ _ q2 (g.go.trans g2) S3 f

/-! ### what a loop walks -/
abbrev VI := En → (List D → En → Prop) → (Xd → En → Prop) → Prop
/-- what never changes and what is frozen stay -/
def Pers (H : Hp) (Z : Addr → Prop) (H' : Hp) (Z' : Addr → Prop) : Prop := (∀ a o, Z a → H a = some o → H' a = some o ∧ Z' a) ∧ ∀ a o, H a = some o → ¬ Mut (some o) → H' a = some o
structure Wk (K : PySem.W.Frag) (J : It) (ds : List D) (H : Hp) (Z : Addr → Prop) : Prop where
  go : ∀ i H2 Z2, i < ds.length → Pers H Z H2 Z2 → J.go i H2
  yl : ∀ i d H2 Z2 x H3, ds[i]? = some d → Pers H Z H2 Z2 → J.yld i H2 x H3 → Same H2 H3 ∧ RepD K H3 Z2 0 d x []
  st : ∀ H2 Z2, Pers H Z H2 Z2 → J.stop ds.length H2
def LI (X : Cx) (W : WX) (M : List Nat) (m : VI) : TI := fun σ H R => ∃ env Z As Qn Qx, SA X.K H Z As σ env ∧ m env Qn Qx ∧
  (∀ ds env' H' Z' As' J, Qn ds env' → Step M H Z As H' Z' As' → SA X.K H' Z' As' σ env' → Wk X.K J ds H' Z' → R J H') ∧ XTo X.K W M σ H Z As Qx
def EI (X : Cx) (W : WX) (M : List Nat) (tg iter : Expr) (m : VI) : Prop := PI X tg iter (LI X W M m)
theorem piImp {it : Expr} {t t' : TI} (h : PI X tg it t) (i : ∀ σ H Q, t' σ H Q → t σ H Q) : PI X tg it t' := ⟨fun pins s σ H Q I hw => h.run pins s σ H Q I (i σ H Q hw)⟩
/-- the frozen ones stay -/
theorem Go.fz {K : PySem.W.Frag} {σ : St} {env : En} {H H' : Hp} {Z Z' : Addr → Prop} {As As' : Ow} (S : SA K H Z As σ env) (g : Go H Z As H' Z' As') : Pers H Z H' Z' :=
  ⟨fun a o z e => ⟨g.kp a o e fun j ha => S.dz j a ha z, g.zm a z⟩, fun a o e m => g.kp a o e fun j ha => m (by
    have := S.mu j a ha
    rw [e] at this; exact this)⟩
theorem RepD.go {K : PySem.W.Frag} {σ : St} {env : En} {H H' : Hp} {Z Z' : Addr → Prop} {As As' : Ow} {d : D} {v : V} (S : SA K H Z As σ env) (g : Go H Z As H' Z' As') (h : RepD K H Z 0 d v []) : RepD K H' Z' 0 d v [] :=
  RepD.keep (g.fz S).2 (g.fz S).1 _ _ _ _ (fun _ ha => nomatch ha) h
theorem RepD.pers {K : PySem.W.Frag} {H H' : Hp} {Z Z' : Addr → Prop} {d : D} {v : V} (g : Pers H Z H' Z') (h : RepD K H Z 0 d v []) : RepD K H' Z' 0 d v [] :=
  RepD.keep g.2 g.1 _ _ _ _ (fun _ ha => nomatch ha) h
theorem RepDs.get {K : PySem.W.Frag} {H : Hp} {Z : Addr → Prop} : ∀ {ds : List D} {vs : List V} {i : Nat} {d : D}, RepDs K H Z 0 ds vs [] → ds[i]? = some d → ∃ v, vs[i]? = some v ∧ RepD K H Z 0 d v []
  | [], vs, i, d, h, e => by simp at e
  | c :: ds, vs, 0, d, h, e => by
    unfold RepDs at h
    obtain ⟨v, r, A1, A2, e1, h1, h2, e2⟩ := h
    simp at e
    subst e e1
    have e3 := List.append_eq_nil_iff.mp e2.symm
    rw [e3.1] at h1
    exact ⟨v, rfl, h1⟩
  | c :: ds, vs, i + 1, d, h, e => by
    unfold RepDs at h
    obtain ⟨v, r, A1, A2, e1, h1, h2, e2⟩ := h
    subst e1
    have e3 := List.append_eq_nil_iff.mp e2.symm
    rw [e3.2] at h2
    obtain ⟨w, q1, q2⟩ := RepDs.get (i := i) (d := d) h2 (by simpa using e)
    exact ⟨w, by simpa using q1, q2⟩
theorem get_some {α β : Type} {l : List α} {m : List β} (h : m.length = l.length) {i : Nat} (hi : i < l.length) : ∃ x, m[i]? = some x := ⟨m[i]'(by omega), List.getElem?_eq_getElem (by omega)⟩
/-- a list or a tuple, item by item -/
def seqI : D → Option (List D)
  | .lst l => some l
  | .im (.fl l) => some (l.map fun i => .im (.int i))
  | d => items d
def iSeq (K : PySem.W.Frag) (tl : TE) : TI := fun σ H R => tl σ H fun x H1 => ∃ a, x = .ref a ∧ (((∃ xs, SqL K H1 a xs) ∧ R (Itl K a) H1) ∨ ((∃ xs, SqT K H1 a xs) ∧ R (Itt K a) H1))
theorem pi_seq {l : Expr} {tl : TE} (hl : PE X l tl) : PI X tg l (iSeq X.K tl) := by
  refine ⟨fun pins s σ H R I h => ?_⟩
  refine thn (hl.run pins s σ H _ I h) fun v s1 ⟨x, H1, I1, r1, q1⟩ => ?_
  obtain ⟨a, e, q⟩ := q1
  subst e
  cases r1
  rcases q with ⟨⟨xs, hq⟩, q⟩ | ⟨⟨xs, hq⟩, q⟩
  · obtain ⟨its, rv, p, hz⟩ := I1.list hq
    refine wpAny_pyIter_list p.isList ?_
    refine ⟨s1.heap.objs.size, [s1.heap.objs.size], _, _, H1, rfl, I1.kept (t' := s1.toks) fun b o e => Heap.get?_push_of_some _ e, turn_list a _, ⟨_, Heap.get?_push_size _ rfl, rfl, rfl⟩, fun b hb => ?_, q⟩
    have e : b = s1.heap.objs.size := by simpa using hb
    subst e
    exact I1.fpOk (Nat.le_refl _) (I1.hok.fresh (Nat.le_refl _))
  · obtain ⟨its, rv, p, hz⟩ := I1.tuple hq
    refine wpAny_pyIter_tuple (show s1.heap.IsTuple a its.toArray from p) ?_
    refine ⟨s1.heap.objs.size, [s1.heap.objs.size], _, _, H1, rfl, I1.kept (t' := s1.toks) fun b o e => Heap.get?_push_of_some _ e, turn_tuple a _, ⟨_, Heap.get?_push_size _ rfl, rfl, rfl⟩, fun b hb => ?_, q⟩
    have e : b = s1.heap.objs.size := by simpa using hb
    subst e
    exact I1.fpOk (Nat.le_refl _) (I1.hok.fresh (Nat.le_refl _))
theorem wk_list {K : PySem.W.Frag} {H : Hp} {Z : Addr → Prop} {a : Addr} {ds : List D} {vs : List V} (h : FzL K H Z a vs) (r : RepDs K H Z 0 ds vs []) : Wk K (Itl K a) ds H Z := by
  have hl := RepDs.length r
  have st : ∀ {H2 Z2}, Pers H Z H2 Z2 → SqL K H2 a vs := fun g => (h.keep g.2 g.1).sq
  refine ⟨fun i H2 Z2 hi g => ?_, fun i d H2 Z2 x H3 e g y => ?_, fun H2 Z2 g => ⟨vs, st g, by omega⟩⟩
  · obtain ⟨x, hx⟩ := get_some (m := vs) hl hi
    exact ⟨vs, x, st g, hx⟩
  · obtain ⟨e3, q⟩ := y
    subst e3
    obtain ⟨v, e1, r1⟩ := RepDs.get r e
    have e2 := (q vs (st g)).symm.trans e1
    cases e2
    exact ⟨Same.refl _, RepD.pers g r1⟩
theorem wk_fl {K : PySem.W.Frag} {H : Hp} {Z : Addr → Prop} {a : Addr} {l : List Int} (h : FrL K H a (l.map V.int)) : Wk K (Itl K a) (l.map fun i => D.im (.int i)) H Z := by
  have st : ∀ {H2 Z2}, Pers H Z H2 Z2 → SqL K H2 a (l.map V.int) := fun g => (h.keep g.2).sq
  refine ⟨fun i H2 Z2 hi g => ?_, fun i d H2 Z2 x H3 e g y => ?_, fun H2 Z2 g => ⟨_, st g, by rw [List.length_map, List.length_map]; exact Nat.le_refl _⟩⟩
  · rw [List.length_map] at hi
    exact ⟨_, .int l[i], st g, by rw [List.getElem?_map, List.getElem?_eq_getElem hi]; rfl⟩
  · obtain ⟨e3, q⟩ := y
    subst e3
    have e1 := q _ (st g)
    rw [List.getElem?_map] at e e1
    cases ek : l[i]? with
    | none => rw [ek] at e; cases e
    | some k =>
      rw [ek] at e e1
      cases e
      cases e1
      refine ⟨Same.refl _, ?_⟩
      unfold RepD
      exact ⟨rfl, rfl⟩
theorem wk_tup {K : PySem.W.Frag} {H : Hp} {Z : Addr → Prop} {a : Addr} {ds : List D} {vs : List V} (h : SqT K H a vs) (r : RepDs K H Z 0 ds vs []) : Wk K (Itt K a) ds H Z := by
  have hl := RepDs.length r
  have st : ∀ {H2 Z2}, Pers H Z H2 Z2 → SqT K H2 a vs := fun g => SqT.keep g.2 h
  refine ⟨fun i H2 Z2 hi g => ?_, fun i d H2 Z2 x H3 e g y => ?_, fun H2 Z2 g => ⟨vs, st g, by omega⟩⟩
  · obtain ⟨x, hx⟩ := get_some (m := vs) hl hi
    exact ⟨vs, x, st g, hx⟩
  · obtain ⟨e3, q⟩ := y
    subst e3
    obtain ⟨v, e1, r1⟩ := RepDs.get r e
    have e2 := (q vs (st g)).symm.trans e1
    cases e2
    exact ⟨Same.refl _, RepD.pers g r1⟩
def vItE (m : VE) : VI := fun env Qn Qx => m env (fun t env1 => match seqI t.d with
  | some ds => Qn ds (frz t.s env1)
  | none => False) Qx
theorem ei_seq {l : Expr} (h : EE X W M l m) : EI X W M tg l (vItE m) := piImp (pi_seq h) fun σ H R ⟨env, Z, As, Qn, Qx, S, q, hn, hx⟩ => by
  refine ⟨env, Z, As, _, Qx, S, q, fun t env' v H' Z' As' B q st S' T n => ?_, hx⟩
  split at q
  · rename_i ds e
    obtain ⟨Z2, As2, S2, r, g⟩ := fz S st S' T n
    cases ht : t.d with
    | lst l =>
      rw [ht] at e r
      cases e
      unfold RepD at r
      obtain ⟨a, vs, e1, h1, h2⟩ := r
      exact ⟨a, e1, .inl ⟨⟨vs, h1.sq⟩, hn _ _ H' Z2 As2 _ q g S2 (wk_list h1 h2)⟩⟩
    | im i =>
      rw [ht] at e r
      cases i with
      | fl l =>
        cases e
        unfold RepD at r
        obtain ⟨a, e1, h1⟩ := (show ∃ a, v = .ref a ∧ FrL X.K H' a (l.map V.int) from r.1)
        exact ⟨a, e1, .inl ⟨⟨_, h1.sq⟩, hn _ _ H' Z2 As2 _ q g S2 (wk_fl h1)⟩⟩
      | tup l =>
        obtain ⟨a, vs, e1, h1, h2⟩ := items_rep (show items (.im (.tup l)) = some ds from e) r
        exact ⟨a, e1, .inr ⟨⟨vs, h1⟩, hn _ _ H' Z2 As2 _ q g S2 (wk_tup h1 h2)⟩⟩
      | _ => cases e
    | tup l =>
      rw [ht] at e r
      obtain ⟨a, vs, e1, h1, h2⟩ := items_rep (show items (.tup l) = some ds from e) r
      exact ⟨a, e1, .inr ⟨⟨vs, h1⟩, hn _ _ H' Z2 As2 _ q g S2 (wk_tup h1 h2)⟩⟩
  · exact q.elim
/-- range -/
def rgD (lo hi : Int) : List D := (List.range (hi - lo).toNat).map fun (i : Nat) => D.im (.int (lo + (i : Int)))
theorem rgD_length (lo hi : Int) : (rgD lo hi).length = (hi - lo).toNat := by unfold rgD; rw [List.length_map, List.length_range]
theorem rgD_get {lo hi : Int} {i : Nat} {d : D} (e : (rgD lo hi)[i]? = some d) : d = .im (.int (lo + (i : Int))) := by
  unfold rgD at e
  rw [List.getElem?_map] at e
  cases q : (List.range (hi - lo).toNat)[i]? with
  | none => rw [q] at e; cases e
  | some k =>
    rw [q] at e
    have hk : k = i := by
      obtain ⟨h1, h2⟩ := List.getElem?_eq_some_iff.mp q
      rw [List.getElem_range] at h2
      exact h2.symm
    subst hk
    exact (Option.some.inj e).symm
theorem wk_rng {K : PySem.W.Frag} {H : Hp} {Z : Addr → Prop} {lo hi : Int} : Wk K (Itr lo (hi - lo).toNat) (rgD lo hi) H Z := by
  refine ⟨fun i H2 Z2 hi g => by rw [rgD_length] at hi; exact hi, fun i d H2 Z2 x H3 e g y => ?_, fun H2 Z2 g => by rw [rgD_length]; exact Nat.le_refl _⟩
  obtain ⟨e3, e4⟩ := y
  subst e3 e4
  rw [rgD_get e]
  exact ⟨Same.refl _, by unfold RepD; exact ⟨rfl, rfl⟩⟩
def R62 (i : Int) : Prop := -4611686018427387904 ≤ i ∧ i < 4611686018427387904
def vRg1 (ags : List Ag) : VI := fun env Qn Qx => vAs ags env (fun ts env1 => match ts with
  | [t] => (match t.d with
    | .im (.int j) => R62 j ∧ Qn (rgD 0 j) env1
    | _ => False)
  | _ => False) Qx
def vRg2 (ags : List Ag) : VI := fun env Qn Qx => vAs ags env (fun ts env1 => match ts with
  | [t, u] => (match t.d, u.d with
    | .im (.int i), .im (.int j) => (R62 i ∧ R62 j) ∧ Qn (rgD i j) env1
    | _, _ => False)
  | _ => False) Qx
theorem int_of {K : PySem.W.Frag} {H : Hp} {Z : Addr → Prop} {n : Nat} {c : Int} {x : V} {A : List Addr} (h : RepD K H Z n (.im (.int c)) x A) : x = .int c := by
  unfold RepD at h
  exact h.1
theorem ei_rg1 {a : Expr} {ags : List Ag} {p : Pos} (hg : Gl X "range") (hm : X.mg "range" = none) (ha : EA X W [a] ags) (hx : ags.all Ag.isEx = true := by rfl) (hs : starEach [a] X.env = [(false, eval a X.env)] := by rfl) : EI X W (agM ags) tg (.Call (.Name "range" p) [a] [] pos) (vRg1 ags) :=
  piImp (pi_range1 hg hm ha hs) fun σ H R ⟨env, Z, As, Qn, Qx, S, q, hn, hxx⟩ => by
    refine ⟨env, Z, As, _, Qx, S, q, fun ts env' vs H' Z' As' B q st S' T n => ?_, hxx⟩
    have own := T.own
    have S2 := S'.froze (A := B) fun b hb => ⟨(own b hb).1, (own b hb).2.2⟩
    have r := T.look (Zx := Zs (fun z => Z' z ∨ z ∈ B) As' (ts.flatMap (·.s))) hx (Zs.mono (fun _ z => .inl z) fun _ h => h) fun b hb => .inl (.inr hb)
    split at q
    · split at q
      · rename_i t j e
        simp only [List.map_cons, List.map_nil] at r
        rw [e] at r
        unfold RepDs at r
        obtain ⟨v, vr, A1, A2, e1, h1, h2, _⟩ := r
        unfold RepDs at h2
        rw [h2.1] at e1
        have ev := int_of h1
        subst ev
        refine ⟨j, e1, q.1.1, q.1.2, ?_⟩
        have := hn _ _ H' _ As' (Itr 0 (j - 0).toNat) q.2 (st.froze n) S2 wk_rng
        rwa [Int.sub_zero] at this
      · exact q.elim
    · exact q.elim
theorem ei_rg2 {a b : Expr} {ags : List Ag} {p : Pos} (hg : Gl X "range") (hm : X.mg "range" = none) (ha : EA X W [a, b] ags) (hx : ags.all Ag.isEx = true := by rfl) (hs : starEach [a, b] X.env = [(false, eval a X.env), (false, eval b X.env)] := by rfl) (hs2 : starEach [b] X.env = [(false, eval b X.env)] := by rfl) :
    EI X W (agM ags) tg (.Call (.Name "range" p) [a, b] [] pos) (vRg2 ags) :=
  piImp (pi_range2 hg hm ha hs hs2) fun σ H R ⟨env, Z, As, Qn, Qx, S, q, hn, hxx⟩ => by
    refine ⟨env, Z, As, _, Qx, S, q, fun ts env' vs H' Z' As' B q st S' T n => ?_, hxx⟩
    have own := T.own
    have S2 := S'.froze (A := B) fun b hb => ⟨(own b hb).1, (own b hb).2.2⟩
    have r := T.look (Zx := Zs (fun z => Z' z ∨ z ∈ B) As' (ts.flatMap (·.s))) hx (Zs.mono (fun _ z => .inl z) fun _ h => h) fun b hb => .inl (.inr hb)
    split at q
    · split at q
      · rename_i t u i j e e'
        simp only [List.map_cons, List.map_nil] at r
        rw [e, e'] at r
        unfold RepDs at r
        obtain ⟨v, vr, A1, A2, e1, h1, h2, _⟩ := r
        unfold RepDs at h2
        obtain ⟨v2, vr2, A3, A4, e2, h3, h4, _⟩ := h2
        unfold RepDs at h4
        rw [e2, h4.1] at e1
        have ev := int_of h1
        have ev2 := int_of h3
        subst ev ev2
        exact ⟨i, j, e1, ⟨q.1.1.1, q.1.1.2, q.1.2.1, q.1.2.2⟩, hn _ _ H' _ As' _ q.2 (st.froze n) S2 wk_rng⟩
      · exact q.elim
    · exact q.elim
/-- zip of two lists or two tuples -/
def zipD : List D → List D → List D
  | d :: l, e :: m => mkTup [d, e] :: zipD l m
  | _, _ => []
def vZip (ags : List Ag) : VI := fun env Qn Qx => vAs ags env (fun ts env1 => match ts with
  | [t, u] => (match t.d, u.d with
    | .lst l, .lst m => Qn (zipD l m) (frz (ts.flatMap (·.s)) env1)
    | d, e => (match items d, items e with
      | some l, some m => Qn (zipD l m) (frz (ts.flatMap (·.s)) env1)
      | _, _ => False))
  | _ => False) Qx
theorem zipD_length : ∀ l m : List D, (zipD l m).length = min l.length m.length
  | [], m => by simp [zipD]
  | d :: l, [] => by simp [zipD]
  | d :: l, e :: m => by
    show (zipD l m).length + 1 = _
    rw [zipD_length l m, List.length_cons, List.length_cons]
    omega
theorem zipD_get : ∀ {l m : List D} {i : Nat} {d : D}, (zipD l m)[i]? = some d → ∃ a b, l[i]? = some a ∧ m[i]? = some b ∧ d = mkTup [a, b]
  | [], m, i, d, e => by simp [zipD] at e
  | a :: l, [], i, d, e => by simp [zipD] at e
  | a :: l, b :: m, 0, d, e => by
    simp [zipD] at e
    exact ⟨a, b, rfl, rfl, e.symm⟩
  | a :: l, b :: m, i + 1, d, e => by
    have e : (zipD l m)[i]? = some d := by simpa [zipD] using e
    obtain ⟨x, y, h1, h2, h3⟩ := zipD_get e
    exact ⟨x, y, by simpa using h1, by simpa using h2, h3⟩
theorem pair_rep {K : PySem.W.Frag} {H : Hp} {Z : Addr → Prop} {a b : D} {x y : V} {T : Addr} (h1 : RepD K H Z 0 a x []) (h2 : RepD K H Z 0 b y []) (hT : H T = none) : RepD K (upd H T (.tup [x, y])) Z 0 (mkTup [a, b]) (.ref T) [] := by
  refine mkTup_rep (.inl (.inl upd_same)) (RepDs.same (same_upd hT) ?_)
  unfold RepDs
  refine ⟨x, [y], [], [], rfl, h1, ?_, rfl⟩
  unfold RepDs
  refine ⟨y, [], [], [], rfl, h2, ?_, rfl⟩
  unfold RepDs
  exact ⟨rfl, rfl⟩
theorem wk_zipL {K : PySem.W.Frag} {H : Hp} {Z : Addr → Prop} {a b : Addr} {ds es : List D} {vs ws : List V} (h : FzL K H Z a vs) (h' : FzL K H Z b ws) (r : RepDs K H Z 0 ds vs []) (r' : RepDs K H Z 0 es ws []) : Wk K (Itz K a b) (zipD ds es) H Z := by
  have hl := RepDs.length r
  have hl' := RepDs.length r'
  have st : ∀ {H2 Z2}, Pers H Z H2 Z2 → SqL K H2 a vs := fun g => (h.keep g.2 g.1).sq
  have st' : ∀ {H2 Z2}, Pers H Z H2 Z2 → SqL K H2 b ws := fun g => (h'.keep g.2 g.1).sq
  refine ⟨fun i H2 Z2 hi g => ?_, fun i d H2 Z2 x H3 e g y => ?_, fun H2 Z2 g => ⟨vs, ws, st g, st' g, by rw [zipD_length]; omega⟩⟩
  · rw [zipD_length] at hi
    obtain ⟨x, hx⟩ := get_some (m := vs) hl (show i < ds.length by omega)
    obtain ⟨y, hy⟩ := get_some (m := ws) hl' (show i < es.length by omega)
    exact ⟨vs, ws, x, y, st g, st' g, hx, hy⟩
  · obtain ⟨T, x1, y1, e1, hT, e2, q1, q2⟩ := y
    subst e1 e2
    obtain ⟨da, db, g1, g2, e3⟩ := zipD_get e
    subst e3
    obtain ⟨v, k1, r1⟩ := RepDs.get r g1
    obtain ⟨w, k2, r2⟩ := RepDs.get r' g2
    have c1 := (q1 vs (st g)).symm.trans k1
    have c2 := (q2 ws (st' g)).symm.trans k2
    cases c1
    cases c2
    exact ⟨same_upd hT, pair_rep (RepD.pers g r1) (RepD.pers g r2) hT⟩
theorem wk_zipT {K : PySem.W.Frag} {H : Hp} {Z : Addr → Prop} {a b : Addr} {ds es : List D} {vs ws : List V} (h : SqT K H a vs) (h' : SqT K H b ws) (r : RepDs K H Z 0 ds vs []) (r' : RepDs K H Z 0 es ws []) : Wk K (RZ.ItzT K a b) (zipD ds es) H Z := by
  have hl := RepDs.length r
  have hl' := RepDs.length r'
  have st : ∀ {H2 Z2}, Pers H Z H2 Z2 → SqT K H2 a vs := fun g => SqT.keep g.2 h
  have st' : ∀ {H2 Z2}, Pers H Z H2 Z2 → SqT K H2 b ws := fun g => SqT.keep g.2 h'
  refine ⟨fun i H2 Z2 hi g => ?_, fun i d H2 Z2 x H3 e g y => ?_, fun H2 Z2 g => ⟨vs, ws, st g, st' g, by rw [zipD_length]; omega⟩⟩
  · rw [zipD_length] at hi
    obtain ⟨x, hx⟩ := get_some (m := vs) hl (show i < ds.length by omega)
    obtain ⟨y, hy⟩ := get_some (m := ws) hl' (show i < es.length by omega)
    exact ⟨vs, ws, x, y, st g, st' g, hx, hy⟩
  · obtain ⟨T, x1, y1, e1, hT, e2, q1, q2⟩ := y
    subst e1 e2
    obtain ⟨da, db, g1, g2, e3⟩ := zipD_get e
    subst e3
    obtain ⟨v, k1, r1⟩ := RepDs.get r g1
    obtain ⟨w, k2, r2⟩ := RepDs.get r' g2
    have c1 := (q1 vs (st g)).symm.trans k1
    have c2 := (q2 ws (st' g)).symm.trans k2
    cases c1
    cases c2
    exact ⟨same_upd hT, pair_rep (RepD.pers g r1) (RepD.pers g r2) hT⟩
end
end Kv

namespace Kv
open PySem PySem.Spec L2
open PyProof.Rows hiding St
section
variable {X : Cx} {W : WX} {U U1 U2 : List Nat} {pos : Pos} {M : List Nat} {e tg iter : Expr} {m : VE} {T : Tg} {body : List Stmt} {b : VS} {mi : VI} {t : VT}
theorem ei_zip {e2 : Expr} {ags : List Ag} {p tpos : Pos} {elts : List Expr} {kk : Nat} (hg : Gl X "zip") (hm : X.mg "zip" = none) (ha : EA X W [e, e2] ags) (hx : ags.all Ag.isEx = true := by rfl)
    (hs : starEach [e, e2] X.env = (false, eval e X.env) :: starEach [e2] X.env := by rfl) (hpl : (backTo pos (starEach [e2] X.env)).any (·.1) = false := by rfl) : EI X W (agM ags) (.Tuple elts kk tpos) (.Call (.Name "zip" p) [e, e2] [] pos) (vZip ags) :=
  piImp (RZ.pi_zipA hg hm ha hs hpl) fun σ H R ⟨env, Z, As, Qn, Qx, S, q, hn, hxx⟩ => by
    refine ⟨env, Z, As, _, Qx, S, q, fun ts env' vs H' Z' As' B q st S' T n => ?_, hxx⟩
    have own := T.own
    have S2 := S'.froze (A := B) fun b hb => ⟨(own b hb).1, (own b hb).2.2⟩
    have r := T.look (Zx := Zs (fun z => Z' z ∨ z ∈ B) As' (ts.flatMap (·.s))) hx (Zs.mono (fun _ z => .inl z) fun _ h => h) fun b hb => .inl (.inr hb)
    have S3 := SA.frz (ts.flatMap (·.s)) S2
    have g3 := (st.froze n).trans' S (step_frz (agM ags) (ts.flatMap (·.s)))
    split at q
    · rename_i t u
      simp only [List.map_cons, List.map_nil] at r
      unfold RepDs at r
      obtain ⟨v, vr, A1, A2, e1, h1, h2, e3⟩ := r
      have e4 := List.append_eq_nil_iff.mp e3.symm
      rw [e4.1] at h1
      rw [e4.2] at h2
      unfold RepDs at h2
      obtain ⟨v2, vr2, A3, A4, e2, h3, h4, e5⟩ := h2
      have e6 := List.append_eq_nil_iff.mp e5.symm
      rw [e6.1] at h3
      unfold RepDs at h4
      rw [e2, h4.1] at e1
      split at q
      · rename_i l m' el em
        rw [el] at h1
        rw [em] at h3
        unfold RepD at h1 h3
        obtain ⟨a, xs, ea, f1, r1⟩ := h1
        obtain ⟨b, ys, eb, f2, r2⟩ := h3
        rw [ea, eb] at e1
        exact ⟨a, b, xs, ys, e1, .inl ⟨f1.sq, f2.sq, hn _ _ H' _ _ _ q g3 S3 (wk_zipL f1 f2 r1 r2)⟩⟩
      · split at q
        · rename_i l m' el em
          obtain ⟨a, xs, ea, f1, r1⟩ := items_rep el h1
          obtain ⟨b, ys, eb, f2, r2⟩ := items_rep em h3
          rw [ea, eb] at e1
          exact ⟨a, b, xs, ys, e1, .inr ⟨f1, f2, hn _ _ H' _ _ _ q g3 S3 (wk_zipT f1 f2 r1 r2)⟩⟩
        · exact q.elim
    · exact q.elim

/-! ### for, while -/
def forV (T : Tg) (b : VS) : List D → VS
  | [], env, P => P.nx env
  | d :: r, env, P => bindT T d env fun env1 => b env1 { P with nx := fun e => forV T b r e P, ct := fun e => forV T b r e P, bk := P.nx }
def vFor (T : Tg) (mi : VI) (b : VS) : VS := fun env P => mi env (fun ds env1 => forV T b ds env1 P) P.xc
theorem ss_for (hp : PassesOwn (model X.prog X.w) X.A X.env X.xe) (hc : X.calm = true) (hi : EI X W M tg iter mi) (hg : PG X tg (gT X.K T)) (hb : SSs X W U body b)
    (hs : ∀ x, foldedSetIterable iter X.env x = pure x := by intro _; rfl) : SS X W (T.slots ++ U) (.For tg iter body [] pos) (vFor T mi b) :=
  psImp (ps_for hp hc hi hg hb hs) fun D σ H ⟨env, Z, As, P, S, q, bk⟩ => by
    refine ⟨env, Z, As, _, _, S, q, fun ds env1 H1 Z1 As1 J q g1' S1 wk => ?_, bk.xto (M := M)⟩
    have g1 := g1'.go
    refine ⟨fun i m σ2 H2 => m = ds.length - i ∧ i ≤ ds.length ∧ ∃ env2 Z2 As2, SA X.K H2 Z2 As2 σ2 env2 ∧ Go H1 Z1 As1 H2 Z2 As2 ∧ Fx (T.slots ++ U) σ σ2 ∧ forV T b (ds.drop i) env2 P, ⟨ds.length, by omega, Nat.zero_le _, env1, Z1, As1, S1, .refl, .refl, q⟩, ?_⟩
    rintro i m σ2 H2 ⟨rfl, hi, env2, Z2, As2, S2, g2, f2, q2⟩
    by_cases hlt : i < ds.length
    · refine .inr ⟨wk.go i H2 Z2 hlt (g2.fz S1), fun σ3 H3 => i + 1 ≤ ds.length ∧ ∃ env3 Z3 As3, SA X.K H3 Z3 As3 σ3 env3 ∧ Go H1 Z1 As1 H3 Z3 As3 ∧ Fx (T.slots ++ U) σ σ3 ∧ forV T b (ds.drop (i + 1)) env3 P, fun σ3 H3 ⟨h1, h2⟩ => ⟨ds.length - (i + 1), by omega, rfl, h1, h2⟩, fun x H3 y => ?_⟩
      obtain ⟨sm, r⟩ := wk.yl i ds[i] H2 Z2 x H3 (List.getElem?_eq_getElem hlt) (g2.fz S1) y
      rw [List.drop_eq_getElem_cons hlt] at q2
      have S3 := S2.same sm
      have g3 : Go H1 Z1 As1 H3 Z2 As2 := ⟨fun a o e k => sm a o (g2.kp a o e k), fun a e => g2.lv a (sm.free e), g2.zm, g2.zn, g2.an⟩
      refine bind_ok (U := T.slots ++ U) T (fun _ h => List.mem_append_left _ h) S3 r q2 fun σ4 H4 hb4 => ?_
      obtain ⟨env4, As4, q4, S4, eH, f4, g4⟩ := hb4
      subst eH
      have gA : Go H1 Z1 As1 H4 Z2 As4 := g3.trans g4
      have gO : Go H Z As H4 Z2 As4 := g1.trans gA
      have fA : Fx (T.slots ++ U) σ σ4 := f2.trans f4
      have up : ∀ {σ5 : St}, Fx U σ4 σ5 → Fx (T.slots ++ U) σ σ5 := fun f => fA.trans (f.mono fun _ h => List.mem_append_right _ h)
      refine ⟨env4, Z2, As4, _, S4, q4, ?_, ?_, ?_, ?_, ?_⟩
      · intro env5 σ5 H5 Z5 As5 p5 g5 S5 f5
        exact ⟨hlt, env5, Z5, As5, S5, gA.trans g5, up f5, p5⟩
      · intro env5 σ5 H5 Z5 As5 p5 g5 S5 f5
        exact bk.nx env5 σ5 H5 Z5 As5 p5 (gO.trans g5) S5 (up f5)
      · intro env5 σ5 H5 Z5 As5 p5 g5 S5 f5
        exact ⟨hlt, env5, Z5, As5, S5, gA.trans g5, up f5, p5⟩
      · intro t5 env5 v5 σ5 H5 Z5 As5 B5 p5 g5 S5 T5 n5 f5
        exact bk.rt t5 env5 v5 σ5 H5 Z5 As5 B5 p5 (gO.trans g5) S5 T5 (n5.go gO) (up f5)
      · intro x5 env5 c5 d5 σ5 H5 Z5 As5 p5 g5 S5 o5 f5
        exact bk.xc x5 env5 c5 d5 σ5 H5 Z5 As5 p5 (gO.trans g5) S5 o5 (up f5)
    · have e : i = ds.length := by omega
      subst e
      rw [List.drop_length] at q2
      exact .inl ⟨wk.st H2 Z2 (g2.fz S1), bk.nx env2 σ2 H2 Z2 As2 q2 (g1.trans g2) S2 f2⟩
/-- while: an invariant by a measure -/
def vWhile (t : VT) (b : VS) : VS := fun env P => ∃ Iv : Nat → En → Prop, (∃ m, Iv m env) ∧ ∀ m env, Iv m env → t env (fun c env1 => if c = true then
  b env1 { P with nx := fun e => ∃ m', m' < m ∧ Iv m' e, ct := fun e => ∃ m', m' < m ∧ Iv m' e, bk := P.nx } else P.nx env1) P.xc
theorem ss_while {c : Expr} (hp : PassesOwn (model X.prog X.w) X.A X.env X.xe) (hc : ET X W M c t) (hb : SSs X W U body b) : SS X W U (.While c body [] pos) (vWhile t b) :=
  psImp (ps_while hp hc hb) fun D σ H ⟨env, Z, As, P, S, q, bk⟩ => by
    obtain ⟨Iv, ⟨m0, i0⟩, turn⟩ := q
    refine ⟨fun m σ2 H2 => ∃ env2 Z2 As2, SA X.K H2 Z2 As2 σ2 env2 ∧ Go H Z As H2 Z2 As2 ∧ Fx U σ σ2 ∧ Iv m env2, ⟨m0, env, Z, As, S, .refl, .refl, i0⟩, ?_⟩
    rintro m σ2 H2 ⟨env2, Z2, As2, S2, g2, f2, i2⟩
    refine ⟨env2, Z2, As2, _, _, S2, turn m env2 i2, fun c env3 H3 Z3 As3 q st S3 => ?_, (bk.step g2 f2).xto⟩
    have g3 := g2.trans st.go
    cases c with
    | false => exact bk.nx env3 σ2 H3 Z3 As3 q g3 S3 f2
    | true =>
      refine ⟨fun σ4 H4 => ∃ env4 Z4 As4, SA X.K H4 Z4 As4 σ4 env4 ∧ Go H Z As H4 Z4 As4 ∧ Fx U σ σ4 ∧ ∃ m', m' < m ∧ Iv m' env4, fun σ4 H4 ⟨env4, Z4, As4, S4, g4, f4, m', hm, i4⟩ => ⟨m', hm, env4, Z4, As4, S4, g4, f4, i4⟩, env3, Z3, As3, _, S3, q, ?_, ?_, ?_, ?_, ?_⟩
      · intro env5 σ5 H5 Z5 As5 p5 g5 S5 f5
        exact ⟨env5, Z5, As5, S5, g3.trans g5, f2.trans f5, p5⟩
      · intro env5 σ5 H5 Z5 As5 p5 g5 S5 f5
        exact bk.nx env5 σ5 H5 Z5 As5 p5 (g3.trans g5) S5 (f2.trans f5)
      · intro env5 σ5 H5 Z5 As5 p5 g5 S5 f5
        exact ⟨env5, Z5, As5, S5, g3.trans g5, f2.trans f5, p5⟩
      · intro t5 env5 v5 σ5 H5 Z5 As5 B5 p5 g5 S5 T5 n5 f5
        exact bk.rt t5 env5 v5 σ5 H5 Z5 As5 B5 p5 (g3.trans g5) S5 T5 (n5.go g3) (f2.trans f5)
      · intro x5 env5 c5 d5 σ5 H5 Z5 As5 p5 g5 S5 o5 f5
        exact bk.xc x5 env5 c5 d5 σ5 H5 Z5 As5 p5 (g3.trans g5) S5 o5 (f2.trans f5)
end
end Kv

namespace Kv
open PySem PySem.Spec L2
open PyProof.Rows hiding St

/-! ### comprehensions -/
def wipeE : List Nat → En → En
  | [], env => env
  | j :: vs, env => (wipeE vs env).set j none
@[simp] theorem wipeE_nil (env : En) : wipeE [] env = env := rfl
@[simp] theorem wipeE_cons (j : Nat) (vs : List Nat) (env : En) : wipeE (j :: vs) env = (wipeE vs env).set j none := rfl
/-- behind the block its slots hold what they held -/
def resE : List Nat → En → En → En
  | [], _, e => e
  | j :: vs, o, e => (resE vs o e).set j (o.getD j none)
@[simp] theorem resE_nil (o e : En) : resE [] o e = e := rfl
@[simp] theorem resE_cons (j : Nat) (vs : List Nat) (o e : En) : resE (j :: vs) o e = (resE vs o e).set j (o.getD j none) := rfl
/-- nothing is owned there -/
def lowE : List Nat → En → Prop
  | [], _ => True
  | j :: vs, env => (match env[j]? with
    | some (some (_, n)) => n = 0
    | _ => True) ∧ lowE vs env
theorem lowE_at : ∀ {vs : List Nat} {env : En} {j : Nat} {d : D} {n : Nat}, lowE vs env → j ∈ vs → env[j]? = some (some (d, n)) → n = 0
  | k :: vs, env, j, d, n, h, hj, e => by
    unfold lowE at h
    rcases List.mem_cons.mp hj with q | q
    · subst q
      have h1 := h.1
      rw [e] at h1
      exact h1
    · exact lowE_at h.2 q e
theorem wipe_get {σ : St} : ∀ {vs : List Nat} {i : Nat}, (wipe σ vs)[i]? = if i ∈ vs then (if i < σ.length then some none else none) else σ[i]?
  | [], i => by simp [wipe]
  | v :: vs, i => by
    unfold wipe
    by_cases e : i = v
    · subst e
      rw [if_pos List.mem_cons_self]
      by_cases hl : i < σ.length
      · rw [if_pos hl, List.getElem?_set_self (by rw [wipe_length]; exact hl)]
      · rw [if_neg hl, List.getElem?_eq_none (by rw [List.length_set, wipe_length]; omega)]
    · rw [List.getElem?_set_ne (fun z => e z.symm), wipe_get]
      by_cases h : i ∈ vs
      · rw [if_pos h, if_pos (List.mem_cons_of_mem _ h)]
      · rw [if_neg h, if_neg (by simp [e, h])]
theorem wipe_fx {σ σ2 : St} {vs U : List Nat} (f : Fx U (wipe σ vs) σ2) (hu : ∀ j ∈ U, j ∈ vs) : wipe σ2 vs = wipe σ vs := by
  refine List.ext_getElem? fun i => ?_
  have hl : σ2.length = σ.length := by rw [f.1, wipe_length]
  rw [wipe_get, wipe_get, hl]
  by_cases h : i ∈ vs
  · rw [if_pos h, if_pos h]
  · rw [if_neg h, if_neg h, f.2 i fun z => h (hu i z), wipe_get, if_neg h]
theorem wipeE_get : ∀ {vs : List Nat} {env : En} {i : Nat} {d : D} {n : Nat}, (wipeE vs env)[i]? = some (some (d, n)) → i ∉ vs ∧ env[i]? = some (some (d, n))
  | [], env, i, d, n, e => ⟨by simp, e⟩
  | v :: vs, env, i, d, n, e => by
    rcases getElem?_set_some (show ((wipeE vs env).set v none)[i]? = some (some (d, n)) from e) with ⟨_, q⟩ | ⟨h, q⟩
    · cases q
    · obtain ⟨h1, h2⟩ := wipeE_get q
      exact ⟨by simp [h, h1], h2⟩
theorem wipeE_length : ∀ {vs : List Nat} {env : En}, (wipeE vs env).length = env.length
  | [], env => rfl
  | v :: vs, env => by
    show ((wipeE vs env).set v none).length = _
    rw [List.length_set, wipeE_length]
theorem resE_length : ∀ {vs : List Nat} {o e : En}, (resE vs o e).length = e.length
  | [], _, e => rfl
  | v :: vs, o, e => by
    show ((resE vs o e).set v _).length = _
    rw [List.length_set, resE_length]
theorem resE_get : ∀ {vs : List Nat} {o e : En} {i : Nat} {d : D} {n : Nat}, (resE vs o e)[i]? = some (some (d, n)) → (i ∈ vs ∧ o[i]? = some (some (d, n))) ∨ (i ∉ vs ∧ e[i]? = some (some (d, n)))
  | [], o, e, i, d, n, h => .inr ⟨by simp, h⟩
  | v :: vs, o, e, i, d, n, h => by
    rcases getElem?_set_some (show ((resE vs o e).set v (o.getD v none))[i]? = some (some (d, n)) from h) with ⟨h1, h2⟩ | ⟨h1, h2⟩
    · subst h1
      refine .inl ⟨List.mem_cons_self, ?_⟩
      rw [List.getD_eq_getElem?_getD] at h2
      cases q : o[i]? with
      | none => rw [q] at h2; cases h2
      | some x =>
        rw [q] at h2
        exact congrArg some h2.symm
    · rcases resE_get h2 with ⟨a, b⟩ | ⟨a, b⟩
      · exact .inl ⟨List.mem_cons_of_mem _ a, b⟩
      · exact .inr ⟨by simp [h1, a], b⟩
section
variable {K : PySem.W.Frag} {H H' : Hp} {Z Z' : Addr → Prop} {As As' : Ow} {σ : St} {env env1 : En} {vs M : List Nat}
def aW (As : Ow) (vs : List Nat) : Ow := fun i => if i ∈ vs then [] else As i
theorem aW_sub {i : Nat} {a : Addr} (h : a ∈ aW As vs i) : a ∈ As i ∧ i ∉ vs := by
  unfold aW at h
  split at h
  · cases h
  · rename_i q; exact ⟨h, q⟩
theorem SA.wipe (S : SA K H Z As σ env) : SA K H Z (aW As vs) (L2.wipe σ vs) (wipeE vs env) := by
  refine ⟨by rw [wipeE_length, wipe_length]; exact S.len, fun i d n e => ?_, fun i => ?_, fun i k hik a h1 h2 => S.dj i k hik a (aW_sub h1).1 (aW_sub h2).1, fun i a h => S.mu i a (aW_sub h).1, fun i a h => S.dz i a (aW_sub h).1, S.zt⟩
  · obtain ⟨h1, h2⟩ := wipeE_get e
    obtain ⟨v, r1, r2⟩ := S.rep i d n h2
    unfold aW
    rw [if_neg h1, wipe_get, if_neg h1]
    exact ⟨v, r1, r2⟩
  · unfold aW
    split
    · exact .nil
    · exact S.nd i
theorem Step.wipe (h : Step M H Z As H' Z' As') (hv : ∀ j ∈ vs, j ∈ M) : Step M H Z As H' Z' (aW As' vs) :=
  ⟨h.kp, h.lv, h.zm, h.zn, fun j a ha => h.an j a (aW_sub ha).1, fun j hj a ha => (h.sl j hj a ha).imp (fun q => by
    unfold aW
    rw [if_neg fun z => hj (hv j z)]
    exact q) id⟩
/-- a list that is no slot's and not frozen is written -/
theorem SA.updL {D0 : Addr} {o : HO} (S : SA K H Z As σ env) (h1 : ∀ j, D0 ∉ As j) (h2 : ¬ Z D0) (hm : Mut (H D0)) : SA K (L2.upd H D0 o) Z As σ env := by
  have mt : ∀ a, a ≠ D0 → Mut (H a) → Mut (L2.upd H D0 o a) := fun a ne m => by rw [upd_ne ne]; exact m
  have neA : ∀ i, ∀ a ∈ As i, a ≠ D0 := fun i a ha e => h1 i (by rw [← e]; exact ha)
  refine ⟨S.len, fun i d n e => ?_, S.nd, S.dj, fun i a ha => mt a (neA i a ha) (S.mu i a ha), S.dz, fun a z => mt a (fun e => h2 (by rw [← e]; exact z)) (S.zt a z)⟩
  obtain ⟨v, r1, r2⟩ := S.rep i d n e
  refine ⟨v, r1, RepD.keep (fun a o e m => ?_) (fun a o z e => ⟨?_, z⟩) _ _ _ _ (fun a ha o e => ?_) r2⟩
  · rw [upd_ne (fun q => m (by rw [← e, q]; exact hm))]; exact e
  · rw [upd_ne (fun q => h2 (by rw [← q]; exact z))]; exact e
  · rw [upd_ne (neA i a ha)]; exact e
theorem RepDs.updL {D0 : Addr} {o : HO} {l : List D} {ws : List V} (h2 : ¬ Z D0) (hm : Mut (H D0)) (r : RepDs K H Z 0 l ws []) : RepDs K (L2.upd H D0 o) Z 0 l ws [] :=
  RepDs.keep (fun a o e m => by rw [upd_ne (fun q => m (by rw [← e, q]; exact hm))]; exact e) (fun a o z e => ⟨by rw [upd_ne (fun q => h2 (by rw [← q]; exact z))]; exact e, z⟩) _ _ _ _ (fun _ ha => nomatch ha) r
theorem RepDs.snoc {d : D} {v : V} : ∀ {l : List D} {ws : List V}, RepDs K H Z 0 l ws [] → RepD K H Z 0 d v [] → RepDs K H Z 0 (l ++ [d]) (ws ++ [v]) []
  | [], ws, h, r => by
    unfold RepDs at h
    rw [h.1]
    show RepDs K H Z 0 [d] [v] []
    unfold RepDs
    refine ⟨v, [], [], [], rfl, r, ?_, rfl⟩
    unfold RepDs
    exact ⟨rfl, rfl⟩
  | c :: l, ws, h, r => by
    unfold RepDs at h
    obtain ⟨w, wr, A1, A2, e, h1, h2, e2⟩ := h
    subst e
    have e3 := List.append_eq_nil_iff.mp e2.symm
    rw [e3.1] at h1
    rw [e3.2] at h2
    show RepDs K H Z 0 (c :: (l ++ [d])) (w :: (wr ++ [v])) []
    unfold RepDs
    exact ⟨w, wr ++ [v], [], [], rfl, h1, RepDs.snoc h2 r, rfl⟩
end

def NoX : Xd → En → Prop := fun _ _ => False
def W0 : WX := fun _ _ _ _ => False
theorem xto0 {K : PySem.W.Frag} {M : List Nat} {σ : St} {H : Hp} {Z : Addr → Prop} {As : Ow} : XTo K W0 M σ H Z As NoX := fun _ _ _ _ _ _ _ q => q.elim
/-- item by item -/
def lcV (vs : List Nat) (T : Tg) (tt : VT) (me : VE) : List D → List D → En → (List D → En → Prop) → Prop
  | [], acc, env, k => k acc env
  | d :: r, acc, env, k => bindT T d env fun env1 => tt env1 (fun b env2 => if b = true then me env2 (fun t env3 => acc.length < 16777216 ∧ lcV vs T tt me r (acc ++ [t.d]) (wipeE vs (frz t.s env3)) k) NoX else lcV vs T tt me r acc (wipeE vs env2) k) NoX
def vLc (vs : List Nat) (T : Tg) (mi : VI) (tt : VT) (me : VE) : VE := fun env Qn Qx => mi env (fun ds env1 => lowE vs env1 ∧ lcV vs T tt me ds [] (wipeE vs env1) fun acc env2 => Qn ⟨.lst acc, 1, []⟩ (resE vs env1 env2)) Qx
def vYes : VT := fun env Qn _ => Qn true env
section
variable {X : Cx} {W : WX} {Mi Mb vs : List Nat} {T : Tg} {mi : VI} {tt : VT} {me : VE}
/-- the new list under way -/
structure Bld (K : PySem.W.Frag) (H : Hp) (Z : Addr → Prop) (As : Ow) (D0 : Addr) (acc : List D) : Prop where
  at_ : ∃ ws, H D0 = some (.lst ws) ∧ RepDs K H Z 0 acc ws []
  na : ∀ j, D0 ∉ As j
  nz : ¬ Z D0
theorem Bld.step {K : PySem.W.Frag} {σ : St} {env : En} {M : List Nat} {H H' : Hp} {Z Z' : Addr → Prop} {As As' : Ow} {D0 : Addr} {acc : List D} (S : SA K H Z As σ env) (st : Step M H Z As H' Z' As') (b : Bld K H Z As D0 acc) : Bld K H' Z' As' D0 acc := by
  obtain ⟨ws, h1, h2⟩ := b.at_
  have ne : H D0 ≠ none := fun e => by rw [h1] at e; cases e
  refine ⟨⟨ws, st.kp _ _ h1 fun j _ => b.na j, RepDs.keep (st.fix S) (fun a o z e => ⟨st.kp a o e fun j _ ha => S.dz j a ha z, st.zm a z⟩) _ _ _ _ (fun _ ha => nomatch ha) h2⟩, fun j hj => ?_, fun z => ?_⟩
  · rcases st.an j D0 hj with q | ⟨i, _, q⟩ | q
    · exact b.na j q
    · exact b.na i q
    · exact ne q
  · rcases st.zn D0 z with q | ⟨j, q⟩ | q
    · exact b.nz q
    · exact b.na j q
    · exact ne q
theorem Bld.same {K : PySem.W.Frag} {H H' : Hp} {Z : Addr → Prop} {As : Ow} {D0 : Addr} {acc : List D} (s : Same H H') (b : Bld K H Z As D0 acc) : Bld K H' Z As D0 acc := by
  obtain ⟨ws, h1, h2⟩ := b.at_
  exact ⟨⟨ws, s _ _ h1, h2.same s⟩, b.na, b.nz⟩
theorem BdOk.step {K : PySem.W.Frag} {U : List Nat} {σ σ' : St} {H H' : Hp} {Z : Addr → Prop} {As : Ow} {k : En → Prop} (h : BdOk K U σ H Z As k σ' H') : True := trivial

/-- as bind_ok, slot by slot -/
def BdS (K : PySem.W.Frag) (U : List Nat) (σ : St) (H : Hp) (Z : Addr → Prop) (As : Ow) (k : En → Prop) (σ' : St) (H' : Hp) : Prop :=
  ∃ env' As', k env' ∧ SA K H' Z As' σ' env' ∧ H' = H ∧ Fx U σ σ' ∧ Step U H Z As H Z As'
theorem step_put {H : Hp} {Z : Addr → Prop} {As : Ow} {U : List Nat} {i : Nat} (h : i ∈ U) : Step U H Z As H Z (fun j => if j = i then [] else As j) :=
  ⟨fun _ _ e _ => e, fun _ e => e, fun _ z => z, fun _ z => .inl z, fun k a q => .inl (by
    by_cases e : k = i
    · rw [if_pos e] at q; cases q
    · rw [if_neg e] at q; exact q), fun k hk a q => .inl (by rw [if_neg fun e => hk (by rw [e]; exact h)]; exact q)⟩
mutual
theorem bindS_ok {K : PySem.W.Frag} {H : Hp} {Z : Addr → Prop} {U : List Nat} : ∀ (T : Tg) {d : D} {v : V} {σ : St} {env : En} {As : Ow} {k : En → Prop} {Q : St → Hp → Prop}, (∀ j ∈ T.slots, j ∈ U) → SA K H Z As σ env → RepD K H Z 0 d v [] → bindT T d env k →
    (∀ σ' H', BdS K U σ H Z As k σ' H' → Q σ' H') → gT K T v σ H Q
  | .nm i, d, v, σ, env, As, k, Q, hu, S, h, q, hq => by
    unfold bindT at q
    unfold gT
    have hi : i ∈ U := hu i (by unfold Tg.slots; exact List.mem_singleton.mpr rfl)
    exact hq _ H ⟨_, _, q, S.put h, rfl, Fx.set hi, step_put hi⟩
  | .tp l, d, v, σ, env, As, k, Q, hu, S, h, q, hq => by
    unfold bindT at q
    unfold gT
    split at q
    · rename_i ds e
      obtain ⟨a, vs, e1, h1, h2⟩ := items_rep e h
      exact ⟨a, vs, e1, h1, by rw [RepDs.length h2]; exact q.1, bindsS_ok l (fun j hj => hu j (by unfold Tg.slots; exact hj)) q.1 S h2 q.2 hq⟩
    · exact q.elim
theorem bindsS_ok {K : PySem.W.Frag} {H : Hp} {Z : Addr → Prop} {U : List Nat} : ∀ (l : List Tg) {ds : List D} {vs : List V} {σ : St} {env : En} {As : Ow} {k : En → Prop} {Q : St → Hp → Prop}, (∀ j ∈ Tg.slotss l, j ∈ U) → ds.length = l.length → SA K H Z As σ env → RepDs K H Z 0 ds vs [] → bindTs l ds env k →
    (∀ σ' H', BdS K U σ H Z As k σ' H' → Q σ' H') → gTs K l vs σ H Q
  | [], ds, vs, σ, env, As, k, Q, hu, hl, S, h, q, hq => by
    unfold bindTs at q
    unfold gTs
    have e : ds = [] := List.eq_nil_of_length_eq_zero hl
    subst e
    unfold RepDs at h
    exact ⟨h.1, hq σ H ⟨env, As, q, S, rfl, .refl, .refl⟩⟩
  | t :: r, ds, vs, σ, env, As, k, Q, hu, hl, S, h, q, hq => by
    unfold bindTs at q
    unfold gTs
    cases ds with
    | nil => exact q.elim
    | cons d ds =>
      unfold RepDs at h
      obtain ⟨v, vr, A1, A2, e, h1, h2, e2⟩ := h
      have e3 := List.append_eq_nil_iff.mp e2.symm
      rw [e3.1] at h1
      rw [e3.2] at h2
      refine ⟨v, vr, e, bindS_ok t (fun j hj => hu j (by unfold Tg.slotss; exact List.mem_append_left _ hj)) S h1 q fun σ' H' hb => ?_⟩
      obtain ⟨env', As', q', S', eH, f, g⟩ := hb
      subst eH
      refine bindsS_ok r (fun j hj => hu j (by unfold Tg.slotss; exact List.mem_append_right _ hj)) (by simpa using hl) S' h2 q' fun σ2 H2 hb => ?_
      obtain ⟨env2, As2, q2, S2, eH, f2, g2⟩ := hb
      subst eH
      exact hq _ _ ⟨env2, As2, q2, S2, rfl, f.trans f2, g.trans' S g2⟩
end
/-- an own list of nobody, filled by one more -/
theorem lc_more {M : List Nat} {σ0 σ2 : St} {env env3 : En} {H0 H4 : Hp} {Z0 Z4 : Addr → Prop} {As0 As4 : Ow} {D0 : Addr} {acc : List D} {t : Tv} {y : V} {B : List Addr} {vs : List Nat} (hv : ∀ j ∈ vs, j ∈ M) (S0 : SA X.K H0 Z0 As0 σ0 env) (st : Step M H0 Z0 As0 H4 Z4 As4) (hn : H0 D0 = none)
    (S4 : SA X.K H4 Z4 As4 σ2 env3) (T : TvOk X.K H4 Z4 As4 t y B) (n : BNew M H0 As0 B) (b : Bld X.K H4 Z4 As4 D0 acc) (nb : D0 ∉ B) :
    ∃ ws Z5 As5, H4 D0 = some (.lst ws) ∧ ws.length = acc.length ∧ SA X.K (upd H4 D0 (.lst (ws ++ [y]))) Z5 As5 (L2.wipe σ2 vs) (wipeE vs (frz t.s env3)) ∧ Step M H0 Z0 As0 (upd H4 D0 (.lst (ws ++ [y]))) Z5 As5 ∧ Bld X.K (upd H4 D0 (.lst (ws ++ [y]))) Z5 As5 D0 (acc ++ [t.d]) ∧ (∀ a, Z4 a → Z5 a) := by
  obtain ⟨ws, h1, h2⟩ := b.at_
  have own := RepD.own _ _ _ _ T.rep
  have hm : Mut (H4 D0) := by rw [h1]; exact True.intro
  have S5 := SA.frz t.s (S4.froze (A := B) fun b hb => ⟨own b hb, (T.dj b hb).2⟩)
  have r5 := T.look (Zx := zF (fun z => Z4 z ∨ z ∈ B) As4 t.s) (Zs.mono (fun _ z => .inl z) fun _ h => h) fun b hb => .inl (.inr hb)
  have nz : ¬ zF (fun z => Z4 z ∨ z ∈ B) As4 t.s D0 := fun z => by
    rcases z with (z | z) | ⟨j, _, z⟩
    · exact b.nz z
    · exact nb z
    · exact b.na j z
  have na : ∀ j, D0 ∉ aW (aF As4 t.s) vs j := fun j hj => by
    have := (aW_sub hj).1
    unfold aF at this
    split at this
    · cases this
    · exact b.na j this
  have st5 : Step M H0 Z0 As0 H4 (zF (fun z => Z4 z ∨ z ∈ B) As4 t.s) (aW (aF As4 t.s) vs) := by
    have st1 := st.froze n
    refine Step.wipe ⟨st1.kp, st1.lv, fun a z => .inl (st1.zm a z), fun a z => ?_, fun j a ha => ?_, fun j hj a ha => ?_⟩ hv
    · rcases z with z | ⟨j, _, z⟩
      · exact st1.zn a z
      · rcases st1.an j a z with q | ⟨i, _, q⟩ | q
        · exact .inr (.inl ⟨j, q⟩)
        · exact .inr (.inl ⟨i, q⟩)
        · exact .inr (.inr q)
    · unfold aF at ha
      split at ha
      · cases ha
      · exact st1.an j a ha
    · rcases st1.sl j hj a ha with q | q
      · by_cases hs : j ∈ t.s
        · exact .inr (.inr ⟨j, hs, q⟩)
        · exact .inl (by unfold aF; rw [if_neg hs]; exact q)
      · exact .inr (.inl q)
  refine ⟨ws, _, _, h1, RepDs.length h2, SA.updL (SA.wipe S5) na nz hm, ⟨fun a o e k => ?_, fun a e => ?_, st5.zm, st5.zn, st5.an, st5.sl⟩, ⟨⟨ws ++ [y], upd_same, ?_⟩, na, nz⟩, fun a z => .inl (.inl z)⟩
  · rw [upd_ne (fun q => by rw [q, hn] at e; cases e)]
    exact st5.kp a o e k
  · by_cases q : a = D0
    · rw [q, upd_same] at e; cases e
    · rw [upd_ne q] at e
      exact st5.lv a e
  · refine RepDs.updL nz hm (RepDs.snoc ?_ r5)
    exact RepDs.keep (fun _ _ e _ => e) (fun a o z e => ⟨e, .inl (.inl z)⟩) _ _ _ _ (fun _ ha => nomatch ha) h2
theorem lc_ls {te : TE} {tt' : TT} (hT : ∀ j ∈ T.slots, j ∈ vs) (hte : ∀ σ H Q, LE X W0 (Mb ++ vs) me σ H Q → te σ H Q) (htt : ∀ σ H Q, LT X W0 (Mb ++ vs) tt σ H Q → tt' σ H Q) {wi : TI} (hwi : ∀ σ H R, LI X W Mi mi σ H R → wi σ H R)
    : ∀ σ H Q, LE X W (Mi ++ (Mb ++ vs)) (vLc vs T mi tt me) σ H Q → tLc wi (gT X.K T) tt' te vs σ H Q := fun σ H Q ⟨env, Z, As, Qn, Qx, S, q, hn, hx⟩ => by
  refine hwi σ H _ ⟨env, Z, As, _, Qx, S, q, fun ds env1 H1 Z1 As1 J q g1 S1 wk D0 hD => ?_, hx.left⟩
  obtain ⟨low, q⟩ := q
  have S1w := S1.wipe (vs := vs)
  have hvM : ∀ j ∈ vs, j ∈ Mb ++ vs := fun j hj => List.mem_append_right _ hj
  have n1 : ∀ j, D0 ∉ As1 j := fun j hj => by
    have := S1.mu j D0 hj
    rw [hD] at this; exact this
  have nz1 : ¬ Z1 D0 := fun z => by
    have := S1.zt D0 z
    rw [hD] at this; exact this
  have st0 : Step (Mb ++ vs) H1 Z1 (aW As1 vs) (upd H1 D0 (.lst [])) Z1 (aW As1 vs) := Step.refl.same (same_upd hD)
  refine ⟨fun i m H2 => m = ds.length - i ∧ i ≤ ds.length ∧ ∃ env2 Z2 As2 acc, SA X.K H2 Z2 As2 (wipe σ vs) env2 ∧ Step (Mb ++ vs) H1 Z1 (aW As1 vs) H2 Z2 As2 ∧ Bld X.K H2 Z2 As2 D0 acc ∧ lcV vs T tt me (ds.drop i) acc env2 fun acc env2 => Qn ⟨.lst acc, 1, []⟩ (resE vs env1 env2),
    ⟨ds.length, by omega, Nat.zero_le _, wipeE vs env1, Z1, aW As1 vs, [], S1w.same (same_upd hD), st0, ⟨⟨[], upd_same, by unfold RepDs; exact ⟨rfl, rfl⟩⟩, fun j hj => n1 j (aW_sub hj).1, nz1⟩, q⟩, ?_⟩
  rintro i m H2 ⟨rfl, hi, env2, Z2, As2, acc, S2, st2, bl2, q2⟩
  have go12 : Go H1 Z1 As1 H2 Z2 As2 := ⟨fun a o e k => st2.kp a o e fun j _ ha => k j (aW_sub ha).1, st2.lv, st2.zm, fun a z => (st2.zn a z).imp id (Or.imp (fun ⟨j, h⟩ => ⟨j, (aW_sub h).1⟩) id), fun j a ha => by
    rcases st2.an j a ha with h | ⟨k, _, h⟩ | h
    · exact .inl ⟨j, (aW_sub h).1⟩
    · exact .inl ⟨k, (aW_sub h).1⟩
    · exact .inr h⟩
  by_cases hlt : i < ds.length
  · refine .inr ⟨wk.go i H2 Z2 hlt (go12.fz S1), fun H3 => i + 1 ≤ ds.length ∧ ∃ env3 Z3 As3 acc, SA X.K H3 Z3 As3 (wipe σ vs) env3 ∧ Step (Mb ++ vs) H1 Z1 (aW As1 vs) H3 Z3 As3 ∧ Bld X.K H3 Z3 As3 D0 acc ∧ lcV vs T tt me (ds.drop (i + 1)) acc env3 fun acc env2 => Qn ⟨.lst acc, 1, []⟩ (resE vs env1 env2), fun H3 ⟨h1, h2⟩ => ⟨ds.length - (i + 1), by omega, rfl, h1, h2⟩, fun x H3 y => ?_⟩
    obtain ⟨sm, r⟩ := wk.yl i ds[i] H2 Z2 x H3 (List.getElem?_eq_getElem hlt) (go12.fz S1) y
    rw [List.drop_eq_getElem_cons hlt] at q2
    have S3 := S2.same sm
    have st3 := st2.same sm
    have bl3 := bl2.same sm
    refine bindS_ok (U := vs) T hT S3 r q2 fun σ4 H4 hb4 => ?_
    obtain ⟨env4, As4, q4, S4, eH, f4, g4⟩ := hb4
    subst eH
    have ew : wipe σ4 vs = wipe σ vs := wipe_fx f4 fun _ h => h
    have st4 : Step (Mb ++ vs) H1 Z1 (aW As1 vs) H4 Z2 As4 := st3.trans' S1w (g4.mono hvM)
    have bl4 := bl3.step S3 g4
    refine ⟨ew, htt _ _ _ ⟨env4, Z2, As4, _, NoX, S4, q4, fun b env5 H5 Z5 As5 q5 st5 S5 => ?_, xto0⟩⟩
    have st15 := st4.trans' S1w st5
    have bl5 := bl4.step S4 st5
    cases b with
    | false =>
      refine ⟨hlt, wipeE vs env5, Z5, aW As5 vs, acc, by rw [← ew]; exact S5.wipe, st15.wipe hvM, ⟨bl5.at_, fun j hj => bl5.na j (aW_sub hj).1, bl5.nz⟩, q5⟩
    | true =>
      refine hte _ _ _ ⟨env5, Z5, As5, _, NoX, S5, q5, fun t env6 y6 H6 Z6 As6 B6 q6 st6 S6 T6 n6 => ?_, xto0⟩
      have bl6 := bl5.step S5 st6
      have st16 := st15.trans' S1w st6
      have own := RepD.own _ _ _ _ T6.rep
      have nb : D0 ∉ B6 := fun hb => by
        rcases n6 D0 hb with e | ⟨j, _, h⟩
        · obtain ⟨ws, h1, _⟩ := bl5.at_
          rw [h1] at e; cases e
        · exact bl5.na j h
      have n16 : BNew (Mb ++ vs) H1 (aW As1 vs) B6 := fun z hz => by
        rcases n6 z hz with e | ⟨j, hj, w⟩
        · exact .inl (st15.lv z e)
        · rcases st15.an j z w with q | ⟨k, hk, q⟩ | q
          · exact .inr ⟨j, hj, q⟩
          · exact .inr ⟨k, hk, q⟩
          · exact .inl q
      obtain ⟨ws, Z7, As7, e7, l7, S7, st7, bl7, _⟩ := lc_more (X := X) (vs := vs) hvM S1w st16 hD S6 T6 n16 bl6 nb
      refine ⟨ws, e7, by rw [l7, sizeLine_eq]; exact q6.1, hlt, _, Z7, As7, acc ++ [t.d], by rw [← ew]; exact S7, st7, bl7, q6.2⟩
  · have e : i = ds.length := by omega
    subst e
    rw [List.drop_length] at q2
    have q2 : Qn ⟨.lst acc, 1, []⟩ (resE vs env1 env2) := q2
    obtain ⟨ws, h1, h2⟩ := bl2.at_
    refine .inl ⟨wk.st H2 Z2 (go12.fz S1), ?_⟩
    have st12 : Step (Mb ++ vs) H1 Z1 As1 H2 Z2 (aW As2 vs) := by
      refine Step.wipe ⟨fun a o e k => st2.kp a o e fun j hj ha => k j hj (aW_sub ha).1, st2.lv, st2.zm, go12.zn, fun j a ha => ?_, fun j hj a ha => st2.sl j hj a (by unfold aW; rw [if_neg fun z => hj (hvM j z)]; exact ha)⟩ hvM
      rcases st2.an j a ha with h | ⟨k, hk, h⟩ | h
      · exact .inl (aW_sub h).1
      · exact .inr (.inl ⟨k, hk, (aW_sub h).1⟩)
      · exact .inr (.inr h)
    refine hn _ _ (.ref D0) H2 Z2 (aW As2 vs) [D0] q2 (g1.trans S st12) ?_ ⟨?_, List.nodup_cons.mpr ⟨by simp, .nil⟩, fun b hb => ?_⟩ fun b hb => ?_
    · refine ⟨by rw [resE_length, ← wipe_length σ vs]; exact S2.len, fun k d n e => ?_, (SA.wipe (vs := vs) S2).nd, (SA.wipe (vs := vs) S2).dj, (SA.wipe (vs := vs) S2).mu, (SA.wipe (vs := vs) S2).dz, S2.zt⟩
      rcases resE_get e with ⟨hk, e⟩ | ⟨hk, e⟩
      · have e0 := lowE_at low hk e
        subst e0
        obtain ⟨v, r1, r2⟩ := S1.rep k d 0 e
        have r3 := RepD.nil _ _ _ r2
        rw [r3] at r2
        refine ⟨v, r1, ?_⟩
        unfold aW
        rw [if_pos hk]
        exact RepD.go S1 go12 r2
      · obtain ⟨v, r1, r2⟩ := S2.rep k d n e
        rw [wipe_get, if_neg hk] at r1
        refine ⟨v, r1, ?_⟩
        unfold aW
        rw [if_neg hk]
        exact r2
    · show RepD X.K H2 (Zs Z2 (aW As2 vs) []) (0 + 1) (.lst acc) _ _
      unfold RepD
      exact ⟨D0, ws, [], rfl, h1, RepDs.keep (fun _ _ e _ => e) (fun a o z e => ⟨e, .inl z⟩) _ _ _ _ (fun _ ha => nomatch ha) h2, rfl⟩
    · rw [List.mem_singleton.mp hb]
      exact ⟨bl2.nz, fun j hj => bl2.na j (aW_sub hj).1⟩
    · rw [List.mem_singleton.mp hb]
      exact .inl (g1.lv D0 hD)
end
end Kv

namespace Kv
open PySem PySem.Spec L2
open PyProof.Rows hiding St

section
variable {X : Cx} {W : WX} {Mi Mb : List Nat} {T : Tg} {mi : VI} {tt : VT} {me : VE} {elt tg iter : Expr} {ifs : List Expr} {scope : Scope} {own : List (Str × Nat)} {pos : Pos}
/-- the tests of a clause -/
def ETs (X : Cx) (W : WX) (M : List Nat) (ifs : List Expr) (m : VT) : Prop := PTs X ifs (LT X W M m)
theorem ets_nil {M : List Nat} : ETs X W M [] vYes := ⟨fun pins s σ H Q I ⟨env, Z, As, Qn, Qx, S, q, hn, hx⟩ => pts_nil.run pins s σ H Q I (hn true env H Z As q Step.refl S)⟩
theorem ets_one {M : List Nat} {c : Expr} (h : ET X W M c tt) : ETs X W M [c] tt := pts_one h
theorem ET.mono {M M' : List Nat} {e : Expr} {m : VT} (h : ET X W M e m) (hm : ∀ j ∈ M, j ∈ M') : ET X W M' e m :=
  ptImp h fun σ H Q ⟨env, Z, As, Qn, Qx, S, q, hn, hx⟩ => ⟨env, Z, As, Qn, Qx, S, q, fun b env' H' Z' As' h1 h2 h3 => hn b env' H' Z' As' h1 (h2.mono hm) h3,
    fun x env' H' Z' As' cls d q s a o => hx x env' H' Z' As' cls d q (s.mono hm) a o⟩
theorem ee_lc (hc : X.calm = true) (hN : X.N.Nodup) (hi : EI X W Mi tg iter mi) (ok : BlkOk X.N X.env.scope scope own) (hT : ∀ j ∈ T.slots, j ∈ own.map (·.2))
    (hg : ∀ (s : Shared) (H : Hp) (C : Addr) (cl : List (Str × Addr)) (fp : List Addr), PG (X.blk s H scope (compEnvC scope cl C X.env) fp) tg (gT X.K T))
    (ht : ∀ (s : Shared) (H : Hp) (C : Addr) (cl : List (Str × Addr)) (fp : List Addr), ETs (X.blk s H scope (compEnvC scope cl C X.env) fp) W0 (Mb ++ own.map (·.2)) ifs tt)
    (he : ∀ (s : Shared) (H : Hp) (C : Addr) (cl : List (Str × Addr)) (fp : List Addr), EE (X.blk s H scope (compEnvC scope cl C X.env) fp) W0 (Mb ++ own.map (·.2)) elt me) (hs : ∀ x, foldedSetIterable iter X.env x = pure x := by intro _; rfl) :
    EE X W (Mi ++ (Mb ++ own.map (·.2))) (.ListComp elt [⟨tg, iter, ifs, 0⟩] scope pos) (vLc (own.map (·.2)) T mi tt me) :=
  peImp (pe_lc (tt := LT X W0 (Mb ++ own.map (·.2)) tt) (te := LE X W0 (Mb ++ own.map (·.2)) me) hc hN hi ok hg ht he hs) (lc_ls hT (fun _ _ _ h => h) (fun _ _ _ h => h) fun _ _ _ h => h)
theorem ss_setLc {U : List Nat} {i : Nat} {y : Str} {py spos : Pos} (hc : X.calm = true) (hN : X.N.Nodup) (hy : X.N[i]? = some y) (hyl : X.env.scope.names.lookup y = some .local)
    (hsw : swapsWith (.ListComp elt [⟨tg, iter, ifs, 0⟩] scope pos) (some (.Name y py)) spos.line X.env = pure true) (hi : EI X W Mi tg iter mi) (ok : BlkOk X.N X.env.scope scope own) (hT : ∀ j ∈ T.slots, j ∈ own.map (·.2))
    (hg : ∀ (s : Shared) (H : Hp) (C : Addr) (cl : List (Str × Addr)) (fp : List Addr), PG (X.blk s H scope (compEnvC scope cl C X.env) fp) tg (gT X.K T))
    (ht : ∀ (s : Shared) (H : Hp) (C : Addr) (cl : List (Str × Addr)) (fp : List Addr), ETs (X.blk s H scope (compEnvC scope cl C X.env) fp) W0 (Mb ++ own.map (·.2)) ifs tt)
    (he : ∀ (s : Shared) (H : Hp) (C : Addr) (cl : List (Str × Addr)) (fp : List Addr), EE (X.blk s H scope (compEnvC scope cl C X.env) fp) W0 (Mb ++ own.map (·.2)) elt me) (hs : ∀ x, foldedSetIterable iter X.env x = pure x := by intro _; rfl) :
    SS X W [i] (.Assign [.Name y py] (.ListComp elt [⟨tg, iter, ifs, 0⟩] scope pos) spos) (vSet i (vLc (own.map (·.2)) T mi tt me)) :=
  psImp (ps_setLc (tt := LT X W0 (Mb ++ own.map (·.2)) tt) (te := LE X W0 (Mb ++ own.map (·.2)) me) hc hN hy hyl hsw hi ok hg ht he hs) fun D σ H h => lc_ls (W := W) (Mi := Mi) (Mb := Mb) hT (fun _ _ _ h => h) (fun _ _ _ h => h) (fun _ _ _ h => h) σ H (fun x H1 => gName i x σ H1 D.nx) (set_ls D σ H h)
end

/-! ### what a def promises, over trees -/
abbrev VF := List D → (Tv → List D → Prop) → (Xd → List D → Prop) → Prop
def argE (ds : List D) (io : List Nat) : En := (ds.zip io).map some
structure Exit (K : PySem.W.Frag) (io : List Nat) (vs : List V) (H : Hp) (Z : Addr → Prop) (As : Ow) (H' : Hp) (Z' : Addr → Prop) (As' : Ow) (outs : List D) : Prop where
  len : outs.length = io.length
  go : Go H Z As H' Z' As'
  sa : SA K H' Z' As' (vs.map some) (argE outs io)
  no : ∀ i, (∀ n, io[i]? ≠ some (n + 1)) → As' i = []
def spOf (K : PySem.W.Frag) (io : List Nat) (run : VF) : Sp := fun vs H Q E => ∃ ds Z As Qn Qx, ds.length = io.length ∧ vs.length = io.length ∧ SA K H Z As (vs.map some) (argE ds io) ∧ (∀ i, (∀ n, io[i]? ≠ some (n + 1)) → As i = []) ∧ run ds Qn Qx ∧
  (∀ t outs v H' Z' As' B, Qn t outs → Exit K io vs H Z As H' Z' As' outs → TvOk K H' Z' As' t v B → BN H As B → Q v H') ∧
  (∀ x outs cls d H' Z' As', Qx x outs → Exit K io vs H Z As H' Z' As' outs → XOk K x cls d H' → E cls d H')
/-- what the slots of changed arguments hold at the end -/
def outV : List Nat → List D → En → (List D → Prop) → Prop
  | [], _, _, k => k []
  | 0 :: io, ds, e, k => match ds with
    | d :: ds => outV io ds e.tail fun o => k (d :: o)
    | [] => False
  | (n + 1) :: io, ds, e, k => match e with
    | some (d, n') :: e => n' = n + 1 ∧ outV io ds.tail e fun o => k (d :: o)
    | _ => False
def isIo (io : List Nat) (j : Nat) : Bool := match io[j]? with
  | some (_ + 1) => true
  | _ => false
def runOf (n : Nat) (io : List Nat) (m : VS) : VF := fun ds Qn Qx => m (argE ds io ++ List.replicate (n - io.length) none)
  ⟨fun e => outV io ds e fun o => Qn ⟨.im .non, 0, []⟩ o, fun t e => outV io ds e fun o => Qn ⟨t.d, t.n, t.s.filter (isIo io)⟩ o, fun _ => False, fun _ => False, fun x e => outV io ds e fun o => Qx x o⟩
theorem outV_of : ∀ {io : List Nat} {ds : List D} {e : En} {k : List D → Prop}, outV io ds e k → ds.length = io.length → ∃ outs : List D, k outs ∧ outs.length = io.length ∧ ∀ (i : Nat) d n, (argE outs io)[i]? = some (some (d, n)) →
    (n = 0 ∧ io[i]? = some 0 ∧ ds[i]? = some d) ∨ (∃ m, n = m + 1 ∧ io[i]? = some (m + 1) ∧ e[i]? = some (some (d, n)))
  | [], ds, e, k, h, hl => ⟨[], h, rfl, fun i d n q => by simp [argE] at q⟩
  | 0 :: io, [], e, k, h, hl => h.elim
  | 0 :: io, c :: ds, e, k, h, hl => by
    obtain ⟨o, h1, h2, h3⟩ := outV_of (show outV io ds e.tail (fun o => k (c :: o)) from h) (by simpa using hl)
    refine ⟨c :: o, h1, by simp [h2], fun i d n q => ?_⟩
    cases i with
    | zero =>
      simp [argE] at q
      obtain ⟨q1, q2⟩ := q
      subst q1 q2
      exact .inl ⟨rfl, rfl, rfl⟩
    | succ i =>
      rcases h3 i d n (by simpa [argE] using q) with ⟨a, b, c'⟩ | ⟨m, a, b, c'⟩
      · exact .inl ⟨a, by simpa using b, by simpa using c'⟩
      · exact .inr ⟨m, a, by simpa using b, by
          cases e with
          | nil => simp at c'
          | cons x e => simpa using c'⟩
  | (m + 1) :: io, ds, e, k, h, hl => by
    unfold outV at h
    split at h
    · rename_i d' n' e'
      obtain ⟨hn, h⟩ := h
      subst hn
      cases ds with
      | nil => simp at hl
      | cons c ds =>
        obtain ⟨o, h1, h2, h3⟩ := outV_of (show outV io ds e' (fun o => k (d' :: o)) from h) (by simpa using hl)
        refine ⟨d' :: o, h1, by simp [h2], fun i d n q => ?_⟩
        cases i with
        | zero =>
          simp [argE] at q
          obtain ⟨q1, q2⟩ := q
          subst q1 q2
          exact .inr ⟨m, rfl, rfl, rfl⟩
        | succ i =>
          rcases h3 i d n (by simpa [argE] using q) with ⟨a, b, c'⟩ | ⟨m', a, b, c'⟩
          · exact .inl ⟨a, by simpa using b, by simpa using c'⟩
          · exact .inr ⟨m', a, by simpa using b, by simpa using c'⟩
    · exact h.elim
theorem argE_length {ds : List D} {io : List Nat} (h : ds.length = io.length) : (argE ds io).length = io.length := by
  unfold argE
  rw [List.length_map, List.length_zip]
  omega
theorem argE_get {ds : List D} {io : List Nat} {i : Nat} {d : D} {n : Nat} (hd : ds[i]? = some d) (hn : io[i]? = some n) : (argE ds io)[i]? = some (some (d, n)) := by
  unfold argE
  rw [List.getElem?_map, List.getElem?_zip_eq_some (z := (d, n)) |>.mpr ⟨hd, hn⟩]
  rfl
/-- the end of a body: what the caller sees -/
theorem exit_of {K : PySem.W.Frag} {io U : List Nat} {vs : List V} {N : Nat} {H H' : Hp} {Z Z' : Addr → Prop} {As As' : Ow} {ds : List D} {σ' : St} {e : En} {k : List D → Prop} (S : SA K H Z As (vs.map some) (argE ds io)) (hds : ds.length = io.length) (hvs : vs.length = io.length) (hN : io.length ≤ N)
    (hU : ∀ i n, io[i]? = some (n + 1) → i ∉ U) (g : Go H Z As H' Z' As') (S' : SA K H' Z' As' σ' e) (f : Fx U (vs.map some ++ List.replicate (N - io.length) none) σ') (h : outV io ds e k) (s : List Nat) (hs : ∀ j ∈ s, isIo io j = false) :
    ∃ outs Z2 As2, k outs ∧ Exit K io vs H Z As H' Z2 As2 outs ∧ (∀ a, Z' a → Z2 a) ∧ (∀ j ∈ s, ∀ a ∈ As' j, Z2 a) ∧ (∀ j, isIo io j = true → As2 j = As' j) ∧ (∀ j a, a ∈ As2 j → a ∈ As' j) ∧ ∀ a, Z2 a → Z' a ∨ ∃ j, a ∈ As' j := by
  obtain ⟨outs, ko, hl, ho⟩ := outV_of h hds
  have sub : ∀ i a, a ∈ (if isIo io i = true then As' i else []) → a ∈ As' i ∧ isIo io i = true := fun i a h => by
    by_cases q : isIo io i = true
    · rw [if_pos q] at h; exact ⟨h, q⟩
    · rw [if_neg q] at h; cases h
  have io1 : ∀ {i m}, io[i]? = some (m + 1) → isIo io i = true := fun {i m} q => by unfold isIo; rw [q]
  have kz : ∀ a, Z' a → zF Z' As' s a := fun a z => .inl z
  refine ⟨outs, zF Z' As' s, fun i => if isIo io i = true then As' i else [], ko, ⟨hl, ⟨g.kp, g.lv, fun a z => .inl (g.zm a z), fun a z => ?_, fun j a ha => g.an j a (sub j a ha).1⟩, ⟨by rw [argE_length hl, List.length_map, hvs], fun i d n q => ?_, fun i => ?_, fun i j hij a h1 h2 => S'.dj i j hij a (sub i a h1).1 (sub j a h2).1, fun i a ha => S'.mu i a (sub i a ha).1, fun i a ha z => ?_, fun a z => ?_⟩, fun i hi => ?_⟩,
    kz, fun j hj a ha => .inr ⟨j, hj, ha⟩, fun j hj => if_pos hj, fun j a ha => (sub j a ha).1, fun a z => z.imp id fun ⟨j, _, h⟩ => ⟨j, h⟩⟩
  · rcases z with z | ⟨j, _, z⟩
    · exact g.zn a z
    · exact .inr (g.an j a z)
  · rcases ho i d n q with ⟨e0, i0, q0⟩ | ⟨m, e0, i0, q0⟩
    · subst e0
      obtain ⟨v, r1, r2⟩ := S.rep i d 0 (argE_get q0 i0)
      have r3 := RepD.nil _ _ _ r2
      rw [r3] at r2
      refine ⟨v, r1, ?_⟩
      have nio : isIo io i = false := by unfold isIo; rw [i0]
      rw [nio, if_neg Bool.false_ne_true]
      exact RepD.keep (fun _ _ e _ => e) (fun a o z e => ⟨e, kz a z⟩) _ _ _ _ (fun _ ha => nomatch ha) (RepD.go S g r2)
    · obtain ⟨v, r1, r2⟩ := S'.rep i d n q0
      have hi : i < vs.length := by
        rw [hvs]
        exact (List.getElem?_eq_some_iff.mp i0).1
      rw [f.2 i (hU i m i0), List.getElem?_append_left (by rw [List.length_map]; exact hi)] at r1
      refine ⟨v, r1, ?_⟩
      rw [if_pos (io1 i0)]
      exact RepD.keep (fun _ _ e _ => e) (fun a o z e => ⟨e, kz a z⟩) _ _ _ _ (fun _ _ _ e => e) r2
  · show List.Nodup (if isIo io i = true then As' i else [])
    split
    · exact S'.nd i
    · exact .nil
  · obtain ⟨h1, h2⟩ := sub i a ha
    rcases z with z | ⟨j, hj, z⟩
    · exact S'.dz i a h1 z
    · have nij : i ≠ j := fun q => by
        subst q
        rw [hs i hj] at h2
        cases h2
      exact S'.dj i j nij a h1 z
  · rcases z with z | ⟨j, _, z⟩
    · exact S'.zt a z
    · exact S'.mu j a z
  · show (if isIo io i = true then As' i else []) = []
    have nio : isIo io i = false := by
      unfold isIo
      split
      · rename_i m q; exact absurd q (hi m)
      · rfl
    rw [nio]
    rfl
/-- THE RULE for a def: its body's reading over trees -/
theorem def_ok {P : Program} {w : World} {K : PySem.W.Frag} {mg : Str → Option Value} {base : Heap} {x qual : Str} {params : Arguments} {body : List Stmt} {scope : Scope} {dvs : List V} {kws : List (Str × V)} {f : Addr} {fd : FuncData} {N ps : List Str} {k : Nat} {io U : List Nat} {m : VS}
    (F : FunD K x qual params body scope dvs kws f fd) (S : FnScope N ps scope) (hio : io.length = ps.length) (hU : ∀ i n, io[i]? = some (n + 1) → i ∉ U)
    (hb : ∀ (cdv : Value) (A : Around) (outer : List PySem.Env) (s : Shared) (H : Hp) (E : XK), Room k (A.deeper (envOfC qual scope s.heap.objs.size f cdv)) → SSs (cxOf (L2N.CX P w) P w K mg base N qual scope f cdv A outer s H E) (fun cls d _ H => E cls d H) U body m) :
    FnOk P w K mg base (L2N.CX P w) (k + 1) f fd ps (spOf K io (runOf N.length io m)) := by
  refine FunD.ok F S (fun vs H Q E h => ?_) fun cdv A outer s H vs Q E hr h => ⟨_, hb cdv A outer s H E hr, ?_⟩
  · obtain ⟨_, _, _, _, _, _, h, _⟩ := h
    exact h.trans hio
  · obtain ⟨ds, Z, As, Qn, Qx, hds, hvs, SS, hno, q, hn, hx⟩ := h
    have hN : io.length ≤ N.length := by
      have := congrArg List.length S.pre
      rw [List.length_take] at this
      omega
    have e0 : L2.start N vs = vs.map some ++ List.replicate (N.length - io.length) none := by unfold L2.start; rw [hvs]
    refine ⟨_, Z, As, _, ?_, q, ?_, ?_, ?_, ?_, ?_⟩
    · rw [e0]
      refine ⟨by rw [List.length_append, List.length_append, List.length_map, argE_length hds, hvs, List.length_replicate, List.length_replicate], fun i d n e => ?_, SS.nd, SS.dj, SS.mu, SS.dz, SS.zt⟩
      by_cases hi : i < (argE ds io).length
      · rw [List.getElem?_append_left hi] at e
        obtain ⟨v, r1, r2⟩ := SS.rep i d n e
        exact ⟨v, by rw [List.getElem?_append_left (by rw [List.length_map, hvs, ← argE_length hds]; exact hi)]; exact r1, r2⟩
      · rw [List.getElem?_append_right (by omega), List.getElem?_replicate] at e
        split at e <;> cases e
    · intro e σ' H' Z' As' p g S' fx
      rw [e0] at fx
      obtain ⟨outs, Z2, As2, k1, ex, _⟩ := exit_of SS hds hvs hN hU g S' fx p [] (fun _ h => nomatch h)
      exact hn _ outs .non H' Z2 As2 [] k1 ex ⟨by unfold RepD; exact ⟨rfl, rfl⟩, .nil, fun b hb => nomatch hb⟩ fun b hb => nomatch hb
    · intro e σ' H' Z' As' p g S' fx
      exact p.elim
    · intro e σ' H' Z' As' p g S' fx
      exact p.elim
    · intro t e v σ' H' Z' As' B p g S' T n fx
      rw [e0] at fx
      obtain ⟨outs, Z2, As2, k1, ex, hz, hz2, ha, hs, hzz⟩ := exit_of SS hds hvs hN hU g S' fx p (t.s.filter fun j => !isIo io j) (fun j hj => by simpa using (List.mem_filter.mp hj).2)
      refine hn _ outs v H' Z2 As2 B k1 ex ⟨RepD.keep (fun _ _ e _ => e) (fun a o z e => ⟨e, ?_⟩) _ _ _ _ (fun _ _ _ e => e) T.rep, T.nd, fun b hb => ⟨fun z => ?_, fun j hj => (T.dj b hb).2 j (hs j b hj)⟩⟩ n
      · rcases z with z | ⟨j, hj, z⟩
        · exact .inl (hz a z)
        · by_cases q : isIo io j = true
          · exact .inr ⟨j, List.mem_filter.mpr ⟨hj, q⟩, by rw [ha j q]; exact z⟩
          · exact .inl (hz2 j (List.mem_filter.mpr ⟨hj, by simpa using q⟩) a z)
      · rcases hzz b z with h | ⟨j, h⟩
        · exact (T.dj b hb).1 h
        · exact (T.dj b hb).2 j h
    · intro x e cls d σ' H' Z' As' p g S' o fx
      rw [e0] at fx
      obtain ⟨outs, Z2, As2, k1, ex, _⟩ := exit_of SS hds hvs hN hU g S' fx p [] (fun _ h => nomatch h)
      exact hx x outs cls d H' Z2 As2 k1 ex o
end Kv

namespace Kv
open PySem PySem.Spec L2
open PyProof.Rows hiding St

mutual
/-- no frozen list within -/
def clean : Nat → D → Bool
  | _, .im _ => true
  | n, .tup l => cleans n l
  | 0, .lst _ => false
  | n + 1, .lst l => cleans n l
def cleans : Nat → List D → Bool
  | _, [] => true
  | n, d :: l => clean n d && cleans n l
end
mutual
theorem clean_rep {K : PySem.W.Frag} {H : Hp} {Z Z' : Addr → Prop} : ∀ (n : Nat) (d : D) {v : V} {A : List Addr}, clean n d = true → RepD K H Z n d v A → RepD K H Z' n d v A
  | n, .im i, v, A, _, h => by
    unfold RepD at h ⊢
    exact h
  | n, .tup l, v, A, c, h => by
    unfold RepD at h ⊢
    unfold clean at c
    obtain ⟨a, vs, e, h1, h2⟩ := h
    exact ⟨a, vs, e, h1, cleans_rep n l c h2⟩
  | 0, .lst l, v, A, c, h => by
    unfold clean at c
    cases c
  | n + 1, .lst l, v, A, c, h => by
    unfold RepD at h ⊢
    unfold clean at c
    obtain ⟨a, vs, A', e, h1, h2, e2⟩ := h
    exact ⟨a, vs, A', e, h1, cleans_rep n l c h2, e2⟩
theorem cleans_rep {K : PySem.W.Frag} {H : Hp} {Z Z' : Addr → Prop} : ∀ (n : Nat) (l : List D) {vs : List V} {A : List Addr}, cleans n l = true → RepDs K H Z n l vs A → RepDs K H Z' n l vs A
  | n, [], vs, A, _, h => by
    unfold RepDs at h ⊢
    exact h
  | n, d :: l, vs, A, c, h => by
    unfold RepDs at h ⊢
    unfold cleans at c
    obtain ⟨c1, c2⟩ := Bool.and_eq_true_iff.mp c
    obtain ⟨v, r, A1, A2, e, h1, h2, e2⟩ := h
    exact ⟨v, r, A1, A2, e, clean_rep n d c1 h1, cleans_rep n l c2 h2, e2⟩
end
theorem cleans_im (n : Nat) : ∀ is : List I, cleans n (is.map D.im) = true
  | [] => rfl
  | i :: is => by
    show cleans n (.im i :: is.map D.im) = true
    unfold cleans
    rw [cleans_im n is]
    unfold clean
    rfl

/-! ### calls of defs -/
/-- the slots that a call may change -/
def ioS : List Ag → List Nat
  | [] => []
  | .ex _ _ :: r => ioS r
  | .io j :: r => j :: ioS r
/-- the trees that a call hands over -/
def argD : List Ag → List Tv → List Nat → En → (List D → Prop) → Prop
  | [], _, io, _, k => io = [] ∧ k []
  | .ex _ _ :: r, t :: ts, io, e, k => (match io with
    | 0 :: io => argD r ts io e fun ds => k (t.d :: ds)
    | _ => False)
  | .io j :: r, _ :: ts, io, e, k => (match io with
    | (n + 1) :: io => at_ e j fun d n' => n' = n + 1 ∧ argD r ts io e fun ds => k (d :: ds)
    | _ => False)
  | _ :: _, [], _, _, _ => False
def put1 (e : En) (j : Nat) (d : D) : En := match e[j]? with
  | some (some (_, n)) => e.set j (some (d, n))
  | _ => e
def setO : List Ag → List D → En → En
  | .ex _ _ :: r, _ :: os, e => setO r os e
  | .io j :: r, o :: os, e => setO r os (put1 e j o)
  | _, _, e => e
/-- the slot of the i-th argument -/
def slotOf : List Ag → Nat → List Nat
  | .io j :: _, 0 => [j]
  | .ex _ _ :: _, 0 => []
  | _ :: r, i + 1 => slotOf r i
  | [], _ => []
def outsClean : List Nat → List D → Bool
  | 0 :: io, _ :: os => outsClean io os
  | n :: io, o :: os => clean n o && outsClean io os
  | _, _ => true
def vCall (run : VF) (io : List Nat) (ags : List Ag) : VE := fun env Qn Qx => vAs ags env (fun ts env1 =>
  ((∀ j ∈ ts.flatMap (·.s), j ∉ ioS ags) ∧ (ioS ags).Nodup) ∧ argD ags ts io env1 fun ds =>
    run ds (fun t outs => (ts.flatMap (·.s) = [] ∨ outsClean io outs = true) ∧ Qn (res (t.d, t.n) ((if clean t.n t.d = true then [] else ts.flatMap (·.s)) ++ t.s.flatMap (slotOf ags))) (setO ags outs env1))
      (fun x outs => (ts.flatMap (·.s) = [] ∨ outsClean io outs = true) ∧ Qx x (setO ags outs env1))) Qx

/-- the callee's lists: those of the changed arguments' slots -/
def aC (As : Ow) (ags : List Ag) : Ow := fun i => match slotOf ags i with
  | [j] => As j
  | _ => []
/-- what argD says of each argument -/
theorem argD_of {K : PySem.W.Frag} {H : Hp} {Z Zc : Addr → Prop} {As : Ow} {σ : St} : ∀ {ags : List Ag} {ts : List Tv} {io : List Nat} {e : En} {k : List D → Prop} {vs : List V} {B : List Addr}, argD ags ts io e k → TsOk K H Z As σ ags ts vs B → SA K H Z As σ e →
    (∀ a, Zs Z As (ts.flatMap (·.s)) a → Zc a) → (∀ b ∈ B, Zc b) → ∃ ds, k ds ∧ ds.length = io.length ∧ vs.length = io.length ∧ io.length = ags.length ∧
      (∀ (i : Nat) d n, (argE ds io)[i]? = some (some (d, n)) → ∃ v, (vs.map some)[i]? = some (some v) ∧ RepD K H Zc n d v (aC As ags i)) ∧
      (∀ (i : Nat) j, slotOf ags i = [j] → j ∈ ioS ags ∧ (∃ v, vs[i]? = some v ∧ σ[j]? = some (some v)) ∧ ∃ d n, io[i]? = some (n + 1) ∧ e[j]? = some (some (d, n + 1))) ∧
      (∀ (i : Nat), (∀ n, io[i]? ≠ some (n + 1)) → slotOf ags i = []) ∧ (∀ (i : Nat) n, io[i]? = some (n + 1) → ∃ j, slotOf ags i = [j])
  | [], ts, io, e, k, vs, B, h, T, S, hz, hb => by
    obtain ⟨e1, e2, _⟩ := T
    obtain ⟨e3, hk⟩ := (show io = [] ∧ k [] from h)
    subst e1 e2 e3
    exact ⟨[], hk, rfl, rfl, rfl, fun i d n q => by simp [argE] at q, fun i j q => by simp [slotOf] at q, fun i _ => rfl, fun i n q => by simp at q⟩
  | .ex _ _ :: r, ts, io, e, k, vs, B, h, T, S, hz, hb => by
    obtain ⟨t, ts', v, vs', A1, A2, e1, e2, h1, h2, _, e3⟩ := T
    subst e1 e2 e3
    unfold argD at h
    split at h
    · rename_i io'
      obtain ⟨ds, hk, l1, l2, l3, h4, h5, h6, h7⟩ := argD_of h h2 S (fun a q => hz a (Zs.mono (fun _ z => z) (fun j hj => by rw [List.flatMap_cons]; exact List.mem_append_right _ hj) a q)) fun b q => hb b (List.mem_append_right _ q)
      refine ⟨t.d :: ds, hk, by simp [l1], by simp [l2], by simp [l3], fun i d n q => ?_, fun i j q => ?_, fun i q => ?_, fun i n q => ?_⟩
      · cases i with
        | zero =>
          simp [argE] at q
          obtain ⟨q1, q2⟩ := q
          subst q1 q2
          exact ⟨v, rfl, h1.look (fun a q => hz a (Zs.mono (fun _ z => z) (fun j hj => by rw [List.flatMap_cons]; exact List.mem_append_left _ hj) a q)) fun b q => hb b (List.mem_append_left _ q)⟩
        | succ i =>
          obtain ⟨w, w1, w2⟩ := h4 i d n (by simpa [argE] using q)
          exact ⟨w, by simpa using w1, w2⟩
      · cases i with
        | zero => simp [slotOf] at q
        | succ i =>
          obtain ⟨w1, ⟨w, w2, w3⟩, d, n, w4, w5⟩ := h5 i j q
          exact ⟨w1, ⟨w, by simpa using w2, w3⟩, d, n, by simpa using w4, w5⟩
      · cases i with
        | zero => rfl
        | succ i => exact h6 i fun n z => q n (by simpa using z)
      · cases i with
        | zero => simp at q
        | succ i => exact h7 i n (by simpa using q)
    · exact h.elim
  | .io j0 :: r, ts, io, e, k, vs, B, h, T, S, hz, hb => by
    obtain ⟨t, ts', v, vs', e1, e2, hv, h2⟩ := T
    subst e1 e2
    unfold argD at h
    split at h
    · rename_i m io'
      obtain ⟨d0, n0, e0, hn, h⟩ := at_of h
      subst hn
      obtain ⟨ds, hk, l1, l2, l3, h4, h5, h6, h7⟩ := argD_of h h2 S (fun a q => hz a (Zs.mono (fun _ z => z) (fun j hj => by rw [List.flatMap_cons]; exact List.mem_append_right _ hj) a q)) hb
      obtain ⟨v', r1, r2⟩ := S.rep j0 d0 (m + 1) e0
      rw [hv] at r1
      have ev : v = v' := Option.some.inj (Option.some.inj r1)
      subst ev
      refine ⟨d0 :: ds, hk, by simp [l1], by simp [l2], by simp [l3], fun i d n q => ?_, fun i j q => ?_, fun i q => ?_, fun i n q => ?_⟩
      · cases i with
        | zero =>
          simp [argE] at q
          obtain ⟨q1, q2⟩ := q
          subst q1 q2
          exact ⟨v, rfl, RepD.keep (fun _ _ e _ => e) (fun a o z e => ⟨e, hz a (.inl z)⟩) _ _ _ _ (fun _ _ _ e => e) r2⟩
        | succ i =>
          obtain ⟨w, w1, w2⟩ := h4 i d n (by simpa [argE] using q)
          exact ⟨w, by simpa using w1, w2⟩
      · cases i with
        | zero =>
          simp [slotOf] at q
          subst q
          exact ⟨List.mem_cons_self, ⟨v, rfl, hv⟩, d0, m, rfl, e0⟩
        | succ i =>
          obtain ⟨w1, ⟨w, w2, w3⟩, d, n, w4, w5⟩ := h5 i j q
          exact ⟨List.mem_cons_of_mem _ w1, ⟨w, by simpa using w2, w3⟩, d, n, by simpa using w4, w5⟩
      · cases i with
        | zero => exact absurd rfl (q m)
        | succ i => exact h6 i fun n z => q n (by simpa using z)
      · cases i with
        | zero => exact ⟨j0, rfl⟩
        | succ i => exact h7 i n (by simpa using q)
    · exact h.elim
theorem slotOf_one : ∀ {ags : List Ag} {i : Nat}, slotOf ags i = [] ∨ ∃ j, slotOf ags i = [j] ∧ j ∈ ioS ags
  | [], i => .inl rfl
  | .ex _ _ :: r, 0 => .inl rfl
  | .io j :: r, 0 => .inr ⟨j, rfl, List.mem_cons_self⟩
  | .ex _ _ :: r, i + 1 => slotOf_one (ags := r) (i := i)
  | .io j :: r, i + 1 => (slotOf_one (ags := r) (i := i)).imp id fun ⟨k, h1, h2⟩ => ⟨k, h1, List.mem_cons_of_mem _ h2⟩
theorem slotOf_at : ∀ {ags : List Ag} {j : Nat}, j ∈ ioS ags → ∃ i, slotOf ags i = [j]
  | .ex _ _ :: r, j, h => let ⟨i, e⟩ := slotOf_at (ags := r) (j := j) h; ⟨i + 1, e⟩
  | .io k :: r, j, h => by
    rcases List.mem_cons.mp h with e | h
    · subst e; exact ⟨0, rfl⟩
    · obtain ⟨i, e⟩ := slotOf_at (ags := r) (j := j) h
      exact ⟨i + 1, e⟩
theorem slotOf_inj : ∀ {ags : List Ag} {i k j : Nat}, (ioS ags).Nodup → slotOf ags i = [j] → slotOf ags k = [j] → i = k
  | [], i, k, j, _, h, _ => by simp [slotOf] at h
  | .ex _ _ :: r, 0, k, j, _, h, _ => by simp [slotOf] at h
  | .ex _ _ :: r, i + 1, 0, j, _, _, h => by simp [slotOf] at h
  | .ex _ _ :: r, i + 1, k + 1, j, n, h1, h2 => by rw [slotOf_inj (ags := r) n h1 h2]
  | .io a :: r, 0, 0, j, _, _, _ => rfl
  | .io a :: r, 0, k + 1, j, n, h1, h2 => by
    simp [slotOf] at h1
    subst h1
    rcases slotOf_one (ags := r) (i := k) with h | ⟨j', h, m⟩
    · rw [show slotOf (.io a :: r) (k + 1) = slotOf r k from rfl, h] at h2; cases h2
    · rw [show slotOf (.io a :: r) (k + 1) = slotOf r k from rfl, h] at h2
      cases h2
      exact absurd m (List.nodup_cons.mp n).1
  | .io a :: r, i + 1, 0, j, n, h1, h2 => by
    simp [slotOf] at h2
    subst h2
    rcases slotOf_one (ags := r) (i := i) with h | ⟨j', h, m⟩
    · rw [show slotOf (.io a :: r) (i + 1) = slotOf r i from rfl, h] at h1; cases h1
    · rw [show slotOf (.io a :: r) (i + 1) = slotOf r i from rfl, h] at h1
      cases h1
      exact absurd m (List.nodup_cons.mp n).1
  | .io a :: r, i + 1, k + 1, j, n, h1, h2 => by rw [slotOf_inj (ags := r) (List.nodup_cons.mp n).2 h1 h2]
theorem put1_get {e : En} {j i : Nat} {o d : D} {n : Nat} (h : (put1 e j o)[i]? = some (some (d, n))) : (i = j ∧ d = o ∧ ∃ d0, e[j]? = some (some (d0, n))) ∨ (i ≠ j ∧ e[i]? = some (some (d, n))) := by
  unfold put1 at h
  split at h
  · rename_i d0 n0 q
    rcases getElem?_set_some h with ⟨h1, h2⟩ | h
    · cases h2; exact .inl ⟨h1, rfl, d0, q⟩
    · exact .inr h
  · rename_i q
    by_cases hij : i = j
    · subst hij; exact absurd h (q d n)
    · exact .inr ⟨hij, h⟩
theorem put1_length {e : En} {j : Nat} {o : D} : (put1 e j o).length = e.length := by
  unfold put1
  split
  · rw [List.length_set]
  · rfl
theorem setO_length : ∀ {ags : List Ag} {os : List D} {e : En}, (setO ags os e).length = e.length
  | [], os, e => by unfold setO; rfl
  | .ex _ _ :: r, [], e => rfl
  | .ex _ _ :: r, o :: os, e => setO_length (ags := r) (os := os) (e := e)
  | .io j :: r, [], e => rfl
  | .io j :: r, o :: os, e => (setO_length (ags := r) (os := os) (e := put1 e j o)).trans put1_length
theorem setO_get : ∀ {ags : List Ag} {os : List D} {e : En} {j : Nat} {d : D} {n : Nat}, (ioS ags).Nodup → (setO ags os e)[j]? = some (some (d, n)) → os.length = ags.length →
    (∃ i, slotOf ags i = [j] ∧ os[i]? = some d ∧ ∃ d0, e[j]? = some (some (d0, n))) ∨ (j ∉ ioS ags ∧ e[j]? = some (some (d, n)))
  | [], os, e, j, d, n, _, h, _ => .inr ⟨by simp [ioS], by unfold setO at h; exact h⟩
  | .ex _ _ :: r, [], e, j, d, n, _, h, hl => by simp at hl
  | .ex _ _ :: r, o :: os, e, j, d, n, hn, h, hl => by
    rcases setO_get (ags := r) (os := os) hn h (by simpa using hl) with ⟨i, h1, h2, h3⟩ | h
    · exact .inl ⟨i + 1, h1, by simpa using h2, h3⟩
    · exact .inr h
  | .io k :: r, [], e, j, d, n, _, h, hl => by simp at hl
  | .io k :: r, o :: os, e, j, d, n, hn, h, hl => by
    have hn' := List.nodup_cons.mp hn
    rcases setO_get (ags := r) (os := os) hn'.2 h (by simpa using hl) with ⟨i, h1, h2, d0, h3⟩ | ⟨h1, h2⟩
    · refine .inl ⟨i + 1, h1, by simpa using h2, ?_⟩
      rcases put1_get h3 with ⟨q, _, d1, q3⟩ | ⟨_, q⟩
      · exact ⟨d1, by rw [q]; exact q3⟩
      · exact ⟨d0, q⟩
    · rcases put1_get h2 with ⟨q1, q2, d1, q3⟩ | ⟨q1, q2⟩
      · subst q1 q2
        exact .inl ⟨0, rfl, rfl, d1, q3⟩
      · exact .inr ⟨by simp [ioS, q1, h1], q2⟩
theorem outsClean_at : ∀ {io : List Nat} {os : List D} {i n : Nat} {o : D}, outsClean io os = true → io[i]? = some (n + 1) → os[i]? = some o → clean (n + 1) o = true
  | [], os, i, n, o, _, h, _ => by simp at h
  | m :: io, [], i, n, o, _, _, h => by simp at h
  | 0 :: io, o' :: os, 0, n, o, c, h, _ => by simp at h
  | 0 :: io, o' :: os, i + 1, n, o, c, h, h' => outsClean_at (io := io) (os := os) c (by simpa using h) (by simpa using h')
  | (m + 1) :: io, o' :: os, 0, n, o, c, h, h' => by
    simp at h h'
    subst h h'
    exact (Bool.and_eq_true_iff.mp (show (clean (m + 1) o' && outsClean io os) = true from c)).1
  | (m + 1) :: io, o' :: os, i + 1, n, o, c, h, h' => outsClean_at (io := io) (os := os) (Bool.and_eq_true_iff.mp (show (clean (m + 1) o' && outsClean io os) = true from c)).2 (by simpa using h) (by simpa using h')
end Kv

namespace Kv
open PySem PySem.Spec L2
open PyProof.Rows hiding St

theorem aC_mem {As : Ow} {ags : List Ag} {i : Nat} {a : Addr} (h : a ∈ aC As ags i) : ∃ j, slotOf ags i = [j] ∧ j ∈ ioS ags ∧ a ∈ As j := by
  unfold aC at h
  rcases slotOf_one (ags := ags) (i := i) with e | ⟨j, e, m⟩
  · rw [e] at h; cases h
  · rw [e] at h; exact ⟨j, e, m, h⟩
theorem aC_at {As : Ow} {ags : List Ag} {i j : Nat} (e : slotOf ags i = [j]) : aC As ags i = As j := by
  unfold aC
  rw [e]
open Classical in
/-- the caller's lists behind the call -/
noncomputable def aB (As1 As' : Ow) (ags : List Ag) : Ow := fun j => if h : j ∈ ioS ags then As' (choose (slotOf_at h)) else As1 j
theorem aB_io {As1 As' : Ow} {ags : List Ag} {i j : Nat} (nd : (ioS ags).Nodup) (e : slotOf ags i = [j]) (h : j ∈ ioS ags) : aB As1 As' ags j = As' i := by
  unfold aB
  rw [dif_pos h]
  have q := Classical.choose_spec (slotOf_at h)
  rw [slotOf_inj nd q e]
theorem aB_ex {As1 As' : Ow} {ags : List Ag} {j : Nat} (h : j ∉ ioS ags) : aB As1 As' ags j = As1 j := by
  unfold aB
  rw [dif_neg h]
theorem aB_mem {As1 As' : Ow} {ags : List Ag} {j : Nat} {a : Addr} (h : a ∈ aB As1 As' ags j) : (j ∈ ioS ags ∧ ∃ i, slotOf ags i = [j] ∧ a ∈ As' i) ∨ (j ∉ ioS ags ∧ a ∈ As1 j) := by
  unfold aB at h
  by_cases q : j ∈ ioS ags
  · rw [dif_pos q] at h
    exact .inl ⟨q, _, Classical.choose_spec (slotOf_at q), h⟩
  · rw [dif_neg q] at h
    exact .inr ⟨q, h⟩
section
variable {K : PySem.W.Frag} {σ : St} {env1 : En} {H1 H' : Hp} {Z1 Z' : Addr → Prop} {As1 As' : Ow} {ags : List Ag} {srcs : List Nat} {B : List Addr} {vs : List V} {io : List Nat} {outs ds : List D}
/-- frozen for the callee -/
def zC (Z1 : Addr → Prop) (As1 : Ow) (srcs : List Nat) (B : List Addr) : Addr → Prop := fun a => Zs Z1 As1 srcs a ∨ a ∈ B
/-- frozen for the caller behind the call -/
def zB (Z1 : Addr → Prop) (As1 : Ow) (ags : List Ag) (B : List Addr) (Z' : Addr → Prop) : Addr → Prop := fun a => (Z1 a ∨ a ∈ B) ∨ (Z' a ∧ ∀ j, j ∉ ioS ags → a ∉ As1 j)
theorem call_in (S : SA K H1 Z1 As1 σ env1) (nd : (ioS ags).Nodup) (ap : ∀ j ∈ srcs, j ∉ ioS ags) (own : ∀ b ∈ B, Mut (H1 b) ∧ ¬ Z1 b ∧ ∀ j, b ∉ As1 j) (hl : ds.length = io.length) (hv : vs.length = io.length)
    (h4 : ∀ (i : Nat) d n, (argE ds io)[i]? = some (some (d, n)) → ∃ v, (vs.map some)[i]? = some (some v) ∧ RepD K H1 (zC Z1 As1 srcs B) n d v (aC As1 ags i)) : SA K H1 (zC Z1 As1 srcs B) (aC As1 ags) (vs.map some) (argE ds io) := by
  refine ⟨by rw [argE_length hl, List.length_map, hv], h4, fun i => ?_, fun i k hik a h1 h2 => ?_, fun i a ha => ?_, fun i a ha z => ?_, fun a z => ?_⟩
  · rcases slotOf_one (ags := ags) (i := i) with e | ⟨j, e, m⟩
    · unfold aC; rw [e]; exact .nil
    · rw [aC_at e]; exact S.nd j
  · obtain ⟨j, e1, m1, q1⟩ := aC_mem h1
    obtain ⟨j2, e2, m2, q2⟩ := aC_mem h2
    by_cases q : j = j2
    · subst q; exact hik (slotOf_inj nd e1 e2)
    · exact S.dj j j2 q a q1 q2
  · obtain ⟨j, e1, m1, q1⟩ := aC_mem ha
    exact S.mu j a q1
  · obtain ⟨j, e1, m1, q1⟩ := aC_mem ha
    rcases z with (z | ⟨k, hk, z⟩) | z
    · exact S.dz j a q1 z
    · exact S.dj j k (fun q => ap k hk (by rw [← q]; exact m1)) a q1 z
    · exact (own a z).2.2 j q1
  · rcases z with (z | ⟨k, hk, z⟩) | z
    · exact S.zt a z
    · exact S.mu k a z
    · exact (own a z).1
/-- what is frozen for the callee's end and stands in a slot of ours that it may not change: the slot is one that an argument leans on -/
theorem call_src (S : SA K H1 Z1 As1 σ env1) (own : ∀ b ∈ B, Mut (H1 b) ∧ ¬ Z1 b ∧ ∀ j, b ∉ As1 j) (g : Go H1 (zC Z1 As1 srcs B) (aC As1 ags) H' Z' As') {a : Addr} {j : Nat} (z : Z' a) (hj : j ∉ ioS ags) (ha : a ∈ As1 j) : ∃ k ∈ srcs, a ∈ As1 k := by
  rcases g.zn a z with ((q | q) | q) | ⟨i, q⟩ | q
  · exact absurd q (S.dz j a ha)
  · exact q
  · exact absurd ha ((own a q).2.2 j)
  · obtain ⟨k, e, m, q⟩ := aC_mem q
    exact absurd q (S.dj j k (fun e => hj (by rw [e]; exact m)) a ha)
  · have m := S.mu j a ha
    rw [q] at m; exact m.elim
theorem call_out (S : SA K H1 Z1 As1 σ env1) (nd : (ioS ags).Nodup) (ap : ∀ j ∈ srcs, j ∉ ioS ags) (own : ∀ b ∈ B, Mut (H1 b) ∧ ¬ Z1 b ∧ ∀ j, b ∉ As1 j) (lio : io.length = ags.length)
    (h5 : ∀ (i : Nat) j, slotOf ags i = [j] → j ∈ ioS ags ∧ (∃ v, vs[i]? = some v ∧ σ[j]? = some (some v)) ∧ ∃ d n, io[i]? = some (n + 1) ∧ env1[j]? = some (some (d, n + 1)))
    (ex : Exit K io vs H1 (zC Z1 As1 srcs B) (aC As1 ags) H' Z' As' outs) (cl : srcs = [] ∨ outsClean io outs = true) :
    Step (ioS ags) H1 (fun a => Z1 a ∨ a ∈ B) As1 H' (zB Z1 As1 ags B Z') (aB As1 As' ags) ∧ SA K H' (zB Z1 As1 ags B Z') (aB As1 As' ags) σ (setO ags outs env1) := by
  have live : ∀ j, ∀ x ∈ As1 j, H1 x ≠ none := fun i x hx e => by
    have m := S.mu i x hx
    rw [e] at m; exact m
  have kp : ∀ a o, H1 a = some o → (∀ j ∈ ioS ags, a ∉ As1 j) → H' a = some o := fun a o e k => ex.go.kp a o e fun i hi => by
    obtain ⟨j, _, m, q⟩ := aC_mem hi
    exact k j m q
  have toZ' : ∀ a, Z1 a ∨ a ∈ B → Z' a := fun a z => ex.go.zm a (z.elim (fun z => .inl (.inl z)) fun z => .inr z)
  have exAn : ∀ {i a}, a ∈ As' i → (∃ j ∈ ioS ags, a ∈ As1 j) ∨ H1 a = none := fun {i a} ha => (ex.go.an i a ha).imp (fun ⟨i, hi⟩ => let ⟨j, _, m, q⟩ := aC_mem hi; ⟨j, m, q⟩) id
  refine ⟨⟨kp, ex.go.lv, fun a z => .inl z, fun a z => ?_, fun j a ha => ?_, fun j hj a ha => ?_⟩, ⟨by rw [setO_length]; exact S.len, fun j d n e => ?_, fun j => ?_, fun i j hij a h1 h2 => ?_, fun j a ha => ?_, fun j a ha z => ?_, fun a z => ?_⟩⟩
  · rcases z with z | ⟨z, _⟩
    · exact .inl z
    · rcases ex.go.zn a z with ((q | ⟨k, _, q⟩) | q) | ⟨i, q⟩ | q
      · exact .inl (.inl q)
      · exact .inr (.inl ⟨k, q⟩)
      · exact .inl (.inr q)
      · obtain ⟨k, _, _, q⟩ := aC_mem q
        exact .inr (.inl ⟨k, q⟩)
      · exact .inr (.inr q)
  · rcases aB_mem ha with ⟨m, i, e, h⟩ | ⟨m, h⟩
    · exact .inr (exAn h)
    · exact .inl h
  · exact .inl (by rw [aB_ex hj]; exact ha)
  · rcases setO_get nd e (by rw [ex.len, lio]) with ⟨i, h1, h2, d0, h3⟩ | ⟨h1, h2⟩
    · obtain ⟨m, ⟨v, v1, v2⟩, d1, n1, i1, i2⟩ := h5 i j h1
      rw [h3] at i2
      have en : n = n1 + 1 := congrArg (fun z : Option (D × Nat) => (z.getD (.im .non, 0)).2) (Option.some.inj i2)
      subst en
      obtain ⟨v', r1, r2⟩ := ex.sa.rep i d (n1 + 1) (argE_get h2 i1)
      have ev : v = v' := by
        rw [List.getElem?_map, v1] at r1
        exact Option.some.inj (Option.some.inj r1)
      subst ev
      refine ⟨v, v2, ?_⟩
      rw [aB_io nd h1 m]
      rcases cl with cl | cl
      · refine RepD.keep (fun _ _ e _ => e) (fun a o z e => ⟨e, .inr ⟨z, fun k hk hak => ?_⟩⟩) _ _ _ _ (fun _ _ _ e => e) r2
        obtain ⟨k2, hk2, _⟩ := call_src S own ex.go z hk hak
        rw [cl] at hk2
        cases hk2
      · exact clean_rep _ _ (outsClean_at cl i1 h2) r2
    · obtain ⟨v, r1, r2⟩ := S.rep j d n h2
      refine ⟨v, r1, ?_⟩
      rw [aB_ex h1]
      refine RepD.keep (fun a o e m => kp a o e fun k _ hk => m (by have := S.mu k a hk; rw [e] at this; exact this)) (fun a o z e => ⟨kp a o e fun k _ hk => S.dz k a hk z, .inl (.inl z)⟩) _ _ _ _ (fun a ha o e => kp a o e fun k hk hak => S.dj j k (fun q => h1 (by rw [q]; exact hk)) a ha hak) r2
  · by_cases q : j ∈ ioS ags
    · obtain ⟨i, e⟩ := slotOf_at q
      rw [aB_io nd e q]; exact ex.sa.nd i
    · rw [aB_ex q]; exact S.nd j
  · rcases aB_mem h1 with ⟨m1, k1, e1, q1⟩ | ⟨m1, q1⟩
    · rcases aB_mem h2 with ⟨m2, k2, e2, q2⟩ | ⟨m2, q2⟩
      · refine ex.sa.dj k1 k2 (fun e => hij ?_) a q1 q2
        rw [e, e2] at e1
        exact (List.cons.inj e1).1.symm
      · rcases exAn q1 with ⟨k, mk, h⟩ | h
        · exact S.dj k j (fun e => m2 (by rw [← e]; exact mk)) a h q2
        · exact live j a q2 h
    · rcases aB_mem h2 with ⟨m2, k2, e2, q2⟩ | ⟨m2, q2⟩
      · rcases exAn q2 with ⟨k, mk, h⟩ | h
        · exact S.dj k i (fun e => m1 (by rw [← e]; exact mk)) a h q1
        · exact live i a q1 h
      · exact S.dj i j hij a q1 q2
  · rcases aB_mem ha with ⟨m, i, e, h⟩ | ⟨m, h⟩
    · exact ex.sa.mu i a h
    · have mm := S.mu j a h
      obtain ⟨u, e⟩ := Mut.some mm
      rw [kp a u e fun k hk hak => S.dj j k (fun q => m (by rw [q]; exact hk)) a h hak, ← e]
      exact mm
  · rcases aB_mem ha with ⟨m, i, e, h⟩ | ⟨m, h⟩
    · rcases z with z | ⟨z, _⟩
      · exact ex.sa.dz i a h (toZ' a z)
      · exact ex.sa.dz i a h z
    · rcases z with (z | z) | ⟨_, z⟩
      · exact S.dz j a h z
      · exact (own a z).2.2 j h
      · exact z j m h
  · rcases z with z | ⟨z, _⟩
    · exact ex.sa.zt a (toZ' a z)
    · exact ex.sa.zt a z
end
section
variable {X : Cx} {W : WX} {run : VF} {io : List Nat} {ags : List Ag}
theorem call_le : ∀ σ H Q, LE X W (agM ags ++ ioS ags) (vCall run io ags) σ H Q → tCallSD (spOf X.K io run) [] (WE W) (LA X W ags) σ H Q := fun σ H Q ⟨env, Z, As, Qn, Qx, S, q, hn, hx⟩ => by
  refine ⟨env, Z, As, _, Qx, S, q, fun ts env1 vs H1 Z1 As1 B q st S1 T n => ?_, hx.left⟩
  obtain ⟨⟨ap, nd⟩, q⟩ := q
  have own := T.own
  obtain ⟨ds, hrun, l1, l2, l3, h4, h5, h6, h7⟩ := argD_of (Zc := zC Z1 As1 (ts.flatMap (·.s)) B) q T S1 (fun a z => .inl z) fun b z => .inr z
  have SI := call_in (srcs := ts.flatMap (·.s)) S1 nd ap own l1 l2 h4
  have S1B := S1.froze (A := B) fun b hb => ⟨(own b hb).1, (own b hb).2.2⟩
  have stB := st.froze n
  rw [List.append_nil]
  refine ⟨ds, _, _, _, _, l1, l2, SI, fun i hi => by unfold aC; rw [h6 i hi], hrun, fun t outs v H' Z' As' B' p ex T' n' => ?_, fun x outs cls d H' Z' As' p ex o => ?_⟩
  · obtain ⟨st2, S2⟩ := call_out S1 nd ap own l3 h5 ex p.1
    have step := stB.trans S st2
    have toZ' : ∀ a, Z1 a ∨ a ∈ B → Z' a := fun a z => ex.go.zm a (z.elim (fun z => .inl (.inl z)) fun z => .inr z)
    have bnew : BNew (agM ags ++ ioS ags) H As B' := fun b hb => by
      rcases n' b hb with e | ⟨i, h⟩
      · exact .inl (st.lv b e)
      · obtain ⟨j, _, m, h⟩ := aC_mem h
        rcases st.an j b h with h | ⟨k, mk, h⟩ | h
        · exact .inr ⟨j, List.mem_append_right _ m, h⟩
        · exact .inr ⟨k, List.mem_append_left _ mk, h⟩
        · exact .inl h
    have bdj : ∀ b ∈ B', ¬ zB Z1 As1 ags B Z' b ∧ ∀ j, b ∉ aB As1 As' ags j := fun b hb => by
      refine ⟨fun z => ?_, fun j hj => ?_⟩
      · rcases z with z | ⟨z, _⟩
        · exact (T'.dj b hb).1 (toZ' b z)
        · exact (T'.dj b hb).1 z
      · rcases aB_mem hj with ⟨m, i, e, h⟩ | ⟨m, h⟩
        · exact (T'.dj b hb).2 i h
        · rcases n' b hb with e | ⟨i, h'⟩
          · have mm := S1.mu j b h
            rw [e] at mm; exact mm
          · obtain ⟨k, _, mk, h'⟩ := aC_mem h'
            exact S1.dj j k (fun q => m (by rw [q]; exact mk)) b h h'
    refine hn _ _ v H' _ _ B' p.2 step S2 ?_ bnew
    have key : ∀ s, (clean t.n t.d = false → ∀ j ∈ ts.flatMap (·.s), j ∈ s) → (∀ j ∈ t.s.flatMap (slotOf ags), j ∈ s) → RepD X.K H' (Zs (zB Z1 As1 ags B Z') (aB As1 As' ags) s) t.n t.d v B' := fun s hs1 hs2 => by
      cases c : clean t.n t.d with
      | true => exact clean_rep _ _ c T'.rep
      | false =>
        refine RepD.keep (fun _ _ e _ => e) (fun a o z e => ⟨e, ?_⟩) _ _ _ _ (fun _ _ _ e => e) T'.rep
        rcases z with z | ⟨i, hi, z⟩
        · by_cases q : ∀ j, j ∉ ioS ags → a ∉ As1 j
          · exact .inl (.inr ⟨z, q⟩)
          · obtain ⟨j, q⟩ := Classical.not_forall.mp q
            obtain ⟨hj, q⟩ := Classical.not_imp.mp q
            have ha := Classical.not_not.mp q
            obtain ⟨k, hk, hak⟩ := call_src S1 own ex.go z hj ha
            exact .inr ⟨k, hs1 c k hk, by rw [aB_ex (ap k hk)]; exact hak⟩
        · by_cases q : ∃ n, io[i]? = some (n + 1)
          · obtain ⟨m, q⟩ := q
            obtain ⟨j, e⟩ := h7 i m q
            refine .inr ⟨j, hs2 j (List.mem_flatMap.mpr ⟨i, hi, by rw [e]; exact List.mem_singleton.mpr rfl⟩), ?_⟩
            rw [aB_io nd e (h5 i j e).1]
            exact z
          · rw [ex.no i fun n hn => q ⟨n, hn⟩] at z
            cases z
    obtain ⟨d, dn, dsl⟩ := t
    cases d with
    | im i =>
      have r := T'.rep
      unfold RepD at r
      rw [r.2]
      exact ⟨by show RepD _ _ _ 0 (.im i) v []; unfold RepD; exact ⟨r.1, rfl⟩, .nil, fun b hb => nomatch hb⟩
    | tup l => exact ⟨key _ (fun c j hj => List.mem_append_left _ (by rw [c, if_neg Bool.false_ne_true]; exact hj)) fun j hj => List.mem_append_right _ hj, T'.nd, bdj⟩
    | lst l => exact ⟨key _ (fun c j hj => List.mem_append_left _ (by rw [c, if_neg Bool.false_ne_true]; exact hj)) fun j hj => List.mem_append_right _ hj, T'.nd, bdj⟩
  · obtain ⟨st2, S2⟩ := call_out S1 nd ap own l3 h5 ex p.1
    exact hx x _ H' _ _ cls d p.2 (stB.trans S st2) S2 o
/-- f(e, ..) of a def of the text -/
theorem ee_call {k : Nat} {f : Addr} {fd : FuncData} {ps : List Str} {x : Str} {p pos : Pos} {e : Expr} {es : List Expr} (F : FnOk X.prog X.w X.K X.mg X.base (L2N.CX X.prog X.w) k f fd ps (spOf X.K io run)) (hr : Room k X.A) (hg : Gl X x) (hm : X.mg x = some (.ref f)) (hk : PySem.W.keepIn X.K (.ref f) = true) (hb : Binds X.K fd ps [])
    (hx : ∀ σ, PassesAt (L2N.CX X.prog X.w) X σ (WE W σ)) (ha : EA X W (e :: es) ags) (hdb : (x == ("__debug__" : Str)) = false := by decide) (he : starEach (e :: es) X.env = (false, eval e X.env) :: starEach es X.env := by rfl) (hpl : (backTo pos (starEach es X.env)).any (·.1) = false := by rfl) :
    EE X W (agM ags ++ ioS ags) (.Call (.Name x p) (e :: es) [] pos) (vCall run io ags) :=
  peImp (pe_callSD F hr hg hm hk hb .nil hx ha hdb he hpl) call_le
end
end Kv

namespace Kv
open PySem PySem.Spec L2
open PyProof.Rows hiding St

section
variable {K : PySem.W.Frag} {σ : St} {env : En} {H : Hp} {Z : Addr → Prop} {As : Ow}
/-- a slot's own list, written -/
theorem SA.wr {j : Nat} {l' : List D} {a : Addr} {vs vs' : List V} (S : SA K H Z As σ env) (hv : σ[j]? = some (some (.ref a))) (ha : H a = some (.lst vs)) (hj : As j = [a]) (r : RepDs K H Z 0 l' vs' []) :
    SA K (upd H a (.lst vs')) Z As σ (env.set j (some (.lst l', 1))) := by
  have nz : ¬ Z a := S.dz j a (by rw [hj]; exact List.mem_singleton.mpr rfl)
  have hm : Mut (H a) := by rw [ha]; exact True.intro
  have neA : ∀ i, i ≠ j → ∀ b ∈ As i, b ≠ a := fun i hi b hb e => S.dj i j hi b hb (by rw [hj, e]; exact List.mem_singleton.mpr rfl)
  have mt : ∀ b, Mut (H b) → Mut (upd H a (.lst vs') b) := fun b m => by
    by_cases e : b = a
    · rw [e, upd_same]; exact True.intro
    · rw [upd_ne e]; exact m
  refine ⟨by rw [List.length_set]; exact S.len, fun i d n e => ?_, S.nd, S.dj, fun i b hb => mt b (S.mu i b hb), S.dz, fun b z => mt b (S.zt b z)⟩
  have fx : ∀ b o, H b = some o → ¬ Mut (some o) → upd H a (.lst vs') b = some o := fun b o e m => by
    rw [upd_ne (fun q => m (by rw [← e, q]; exact hm))]; exact e
  have fz : ∀ b o, Z b → H b = some o → upd H a (.lst vs') b = some o ∧ Z b := fun b o z e => ⟨by rw [upd_ne (fun q => nz (by rw [← q]; exact z))]; exact e, z⟩
  rcases getElem?_set_some e with ⟨h1, h2⟩ | ⟨h1, h2⟩
  · cases h2
    subst h1
    refine ⟨_, hv, ?_⟩
    rw [hj]
    show RepD K (upd H a (.lst vs')) Z (0 + 1) (.lst l') _ _
    unfold RepD
    exact ⟨a, vs', [], rfl, upd_same, RepDs.keep fx fz _ _ _ _ (fun _ ha => nomatch ha) r, rfl⟩
  · obtain ⟨v, r1, r2⟩ := S.rep i d n h2
    exact ⟨v, r1, RepD.keep fx fz _ _ _ _ (fun b hb o e => by rw [upd_ne (neA i h1 b hb)]; exact e) r2⟩
theorem go_wr {a : Addr} {j : Nat} {o : HO} (hj : a ∈ As j) : Go H Z As (upd H a o) Z As :=
  ⟨fun b u e k => by rw [upd_ne (fun q => k j (by rw [q]; exact hj))]; exact e, fun b e => by
    by_cases q : b = a
    · rw [q, upd_same] at e; cases e
    · rw [upd_ne q] at e; exact e, fun _ z => z, fun _ z => .inl z, fun i b hb => .inl ⟨i, hb⟩⟩
/-- a slot's own list -/
theorem SA.own1 {j : Nat} {l : List D} (S : SA K H Z As σ env) (e : env[j]? = some (some (.lst l, 1))) : ∃ a vs, σ[j]? = some (some (.ref a)) ∧ H a = some (.lst vs) ∧ As j = [a] ∧ RepDs K H Z 0 l vs [] := by
  obtain ⟨v, r1, r2⟩ := S.rep j (.lst l) 1 e
  have r2 : RepD K H Z (0 + 1) (.lst l) v (As j) := r2
  unfold RepD at r2
  obtain ⟨a, vs, A', e1, h1, h2, e2⟩ := r2
  have e3 := RepDs.nil _ _ _ h2
  rw [e3] at h2 e2
  subst e1
  exact ⟨a, vs, r1, h1, e2, h2⟩
theorem frz_get {j : Nat} {d : D} {n : Nat} : ∀ {s : List Nat} {env : En}, j ∉ s → env[j]? = some (some (d, n)) → (frz s env)[j]? = some (some (d, n))
  | [], env, _, e => e
  | k :: s, env, h, e => by
    refine frz_get (s := s) (fun q => h (List.mem_cons_of_mem _ q)) ?_
    unfold frz1
    split
    · rw [List.getElem?_set_ne (fun q => h (by rw [q]; exact List.mem_cons_self))]; exact e
    · exact e
end

/-- the method's work on its own list: the arguments' trees in, its condition and the list behind -/
abbrev OpM := List D → List D → Option (Prop × List D)
def OpMOk (X : Cx) (op : OpM) (r : V → List V → Hp → VK → Prop) : Prop := ∀ l as c p vs xs H Zx Q, op l as = some c → c.1 → H p = some (.lst vs) → RepDs X.K H Zx 0 l vs [] → RepDs X.K H Zx 0 as xs [] →
  (∀ v vs', RepDs X.K H Zx 0 c.2 vs' [] → Q v (upd H p (.lst vs'))) → r (.ref p) xs H Q
/-- x.m(e, ..) that changes the list of slot j -/
def ownL (env : En) (j : Nat) (k : List D → Prop) : Prop := match env[j]? with
  | some (some (.lst l, 1)) => k l
  | _ => False
theorem ownL_of {env : En} {j : Nat} {k : List D → Prop} (h : ownL env j k) : ∃ l, env[j]? = some (some (.lst l, 1)) ∧ k l := by
  unfold ownL at h
  split at h
  · rename_i l e
    exact ⟨l, e, h⟩
  · exact h.elim
def finM (r : Option (Prop × List D)) (k : List D → Prop) : Prop := match r with
  | some c => c.1 ∧ k c.2
  | none => False
@[simp] theorem finM_some (c : Prop × List D) (k : List D → Prop) : finM (some c) k = (c.1 ∧ k c.2) := rfl
@[simp] theorem finM_none (k : List D → Prop) : finM none k = False := rfl
theorem finM_of {r : Option (Prop × List D)} {k : List D → Prop} (h : finM r k) : ∃ c, r = some c ∧ c.1 ∧ k c.2 := by
  cases r with
  | none => exact h.elim
  | some c => exact ⟨c, rfl, h⟩
def vMut (j : Nat) (op : OpM) (ags : List Ag) : VS := fun env P => ownL env j fun _ => vAs ags env (fun ts env1 => ownL env1 j fun l => j ∉ ts.flatMap (·.s) ∧ finM (op l (ts.map (·.d))) fun l' => P.nx ((frz (ts.flatMap (·.s)) env1).set j (some (.lst l', 1)))) P.xc
section
variable {X : Cx} {W : WX} {U : List Nat} {pos apos cpos : Pos} {M Mi : List Nat} {e o : Expr} {es : List Expr} {m me mi : VE} {ags : List Ag} {x : Str} {j : Nat}
theorem mut_core {op : OpM} {r : V → List V → Hp → VK → Prop} (ho : OpMOk X op r) (hx : ags.all Ag.isEx = true) {D : Ends} {σ : St} {H : Hp} (h : LS X W U (vMut j op ags) D σ H) :
    ∃ v, σ[j]? = some (some v) ∧ tyV X.K "list" v H ∧ LA X W ags σ H fun xs H2 => r v xs H2 fun _ H3 => D.nx σ H3 := by
  obtain ⟨env, Z, As, P, S, q, bk⟩ := h
  obtain ⟨l0, e0, q⟩ := ownL_of q
  obtain ⟨a, vs0, v1, h1, _, _⟩ := S.own1 e0
  refine ⟨_, v1, .inl ⟨rfl, _, .inl (.inl h1)⟩, env, Z, As, _, _, S, q, fun ts env1 vs H1 Z1 As1 B q st S1 T n => ?_, bk.xto⟩
  obtain ⟨l, e1, hj, q⟩ := ownL_of q
  obtain ⟨c, ec, hc, q⟩ := finM_of q
  have own := T.own
  have S2 := SA.frz (ts.flatMap (·.s)) (S1.froze (A := B) fun b hb => ⟨(own b hb).1, (own b hb).2.2⟩)
  have st2 := (st.froze n).trans' S (step_frz (agM ags) (ts.flatMap (·.s)))
  have ra := T.look (Zx := zF (fun z => Z1 z ∨ z ∈ B) As1 (ts.flatMap (·.s))) hx (Zs.mono (fun _ z => .inl z) fun _ h => h) fun b hb => .inl (.inr hb)
  obtain ⟨a', vs, v2, h2, h3, h4⟩ := S2.own1 (frz_get hj e1)
  rw [v1] at v2
  have ea : a = a' := by
    have := Option.some.inj (Option.some.inj v2)
    exact V.ref.inj this
  subst ea
  refine ho l _ c a vs _ H1 _ _ ec hc h2 h4 ra fun v vs' r' => ?_
  have S3 := S2.wr v1 h2 h3 r'
  exact bk.nx _ σ _ _ _ q (st2.go.trans (go_wr (j := j) (by rw [h3]; exact List.mem_singleton.mpr rfl))) S3 .refl
theorem ss_mut {T : String} {name : Str} {id : String} {op : OpM} {r : V → List V → Hp → VK → Prop} {p : Pos} (hr : MtR X id r) (ho : OpMOk X op r) (hx : ags.all Ag.isEx = true) (pa : PlainAttrs "list") (slot : Slot "list" name id) (hty : typeOf (.builtin id) = pure (.type "method_descriptor"))
    (hN : X.N[j]? = some x) (hv : Vis X.env.scope x) (ha : EA X W (e :: es) ags) (hd : (x == ("__debug__" : Str)) = false := by decide) (hcd : (x == ("__classdict__" : Str)) = false := by decide)
    (hbase : attributeBase (.Name x p) name X.env (eval (.Name x p) X.env) = eval (.Name x p) X.env := by rfl)
    (hfew : ((backTo cpos (starEach (e :: es) X.env)).all (fun x => !x.1) && (backToKw cpos (keywordEach [] X.env)).all (fun x => x.1.isSome)
      && decide ((e :: es).length + ([] : List Keyword).length + (if ([] : List Keyword).isEmpty then 0 else 1) < 30)) = true := by rfl)
    (hline : (apos.endLine == cpos.line) = true := by rfl) (hs : starEach (e :: es) X.env = (false, eval e X.env) :: starEach es X.env := by rfl) (hplain : (backTo cpos (starEach es X.env)).any (·.1) = false := by rfl)
    (hsw : swapsWith (.Call (.Attribute (.Name x p) name apos) (e :: es) [] cpos) none pos.line X.env = pure false := by rfl) :
    SS X W U (.Expr (.Call (.Attribute (.Name x p) name apos) (e :: es) [] cpos) pos) (vMut j op ags) :=
  psImp (ps_expr (pe_bm pa slot hty hr (pe_var hN hv hd hcd) ha hbase hfew hline hs hplain) hsw) fun D σ H h => by
    obtain ⟨v, v1, v2, v3⟩ := mut_core ho hx h
    exact ⟨v, v1, v2, v3⟩
theorem ss_mut0 {T : String} {name : Str} {id : String} {op : OpM} {r : V → List V → Hp → VK → Prop} {p : Pos} (hr : MtR X id r) (ho : OpMOk X op r) (pa : PlainAttrs "list") (slot : Slot "list" name id) (hty : typeOf (.builtin id) = pure (.type "method_descriptor"))
    (hN : X.N[j]? = some x) (hv : Vis X.env.scope x) (hd : (x == ("__debug__" : Str)) = false := by decide) (hcd : (x == ("__classdict__" : Str)) = false := by decide)
    (hbase : attributeBase (.Name x p) name X.env (eval (.Name x p) X.env) = eval (.Name x p) X.env := by rfl) (hline : (apos.endLine == cpos.line) = true := by rfl)
    (hsw : swapsWith (.Call (.Attribute (.Name x p) name apos) [] [] cpos) none pos.line X.env = pure false := by rfl) :
    SS X W U (.Expr (.Call (.Attribute (.Name x p) name apos) [] [] cpos) pos) (vMut j op []) :=
  psImp (ps_expr (pe_bm0 pa slot hty hr (pe_var hN hv hd hcd) hbase hline) hsw) fun D σ H h => by
    obtain ⟨v, v1, v2, env, Z, As, Qn, Qx, S, q, hn, _⟩ := mut_core (ags := []) ho rfl h
    exact ⟨v, v1, v2, hn [] env [] H Z As [] q Step.refl S ⟨rfl, rfl, rfl⟩ fun b hb => nomatch hb⟩
def mApp : OpM := fun l as => match as with
  | [d] => some (l.length < 16777216, l ++ [d])
  | _ => none
theorem mApp_ok : OpMOk X mApp rAppend := fun l as c p vs xs H Zx Q e hc hp hl ha k => by
  match as, e, ha with
  | [d], e, ha =>
    cases e
    unfold RepDs at ha
    obtain ⟨v, vr, A1, A2, e1, h1, h2, e2⟩ := ha
    have e3 := List.append_eq_nil_iff.mp e2.symm
    rw [e3.1] at h1
    unfold RepDs at h2
    rw [h2.1] at e1
    exact ⟨p, vs, v, rfl, e1, hp, by rw [RepDs.length hl, sizeLine_eq]; exact hc, k _ _ (RepDs.snoc hl h1)⟩
theorem ss_app {p : Pos} {m : VE} (hN : X.N[j]? = some x) (hv : Vis X.env.scope x) (ha : EA X W [e] [.ex m M]) (hd : (x == ("__debug__" : Str)) = false := by decide) (hcd : (x == ("__classdict__" : Str)) = false := by decide)
    (hbase : attributeBase (.Name x p) "append" X.env (eval (.Name x p) X.env) = eval (.Name x p) X.env := by rfl)
    (hfew : ((backTo cpos (starEach [e] X.env)).all (fun x => !x.1) && (backToKw cpos (keywordEach [] X.env)).all (fun x => x.1.isSome)
      && decide (([e] : List Expr).length + ([] : List Keyword).length + (if ([] : List Keyword).isEmpty then 0 else 1) < 30)) = true := by rfl)
    (hline : (apos.endLine == cpos.line) = true := by rfl) (hs : starEach [e] X.env = (false, eval e X.env) :: starEach [] X.env := by rfl) (hplain : (backTo cpos (starEach [] X.env)).any (·.1) = false := by rfl)
    (hsw : swapsWith (.Call (.Attribute (.Name x p) "append" apos) [e] [] cpos) none pos.line X.env = pure false := by rfl) :
    SS X W U (.Expr (.Call (.Attribute (.Name x p) "append" apos) [e] [] cpos) pos) (vMut j mApp [.ex m M]) :=
  ss_mut (T := "list") mt_append mApp_ok rfl PySem.F.plainAttrs_list PySem.F.slot_list_append PySem.F.type_list_append hN hv ha hd hcd hbase hfew hline hs hplain hsw

/-! ### x[i] = e -/
def setI (l : List D) (k : Int) (d : D) : Option (List D) := (ixN l.length k).map fun q => l.set q d
def vSetIx (j : Nat) (me : VE) (Mi : List Nat) (mi : VE) : VS := fun env P => me env (fun t env1 => ownL env1 j fun _ => mi env1 (fun ti env2 => Apart t Mi ∧ ownL env2 j fun l => j ∉ t.s ∧ match ti.d with
  | .im (.int k) => (match setI l k t.d with
    | some l' => P.nx ((frz t.s env2).set j (some (.lst l', 1)))
    | none => False)
  | _ => False) P.xc) P.xc
theorem RepDs.set {K : PySem.W.Frag} {H : Hp} {Z : Addr → Prop} {d : D} {v : V} : ∀ {l : List D} {ws : List V} {q : Nat}, RepDs K H Z 0 l ws [] → RepD K H Z 0 d v [] → RepDs K H Z 0 (l.set q d) (ws.set q v) []
  | [], ws, q, h, r => by
    have h' := h
    unfold RepDs at h'
    rw [h'.1]
    rw [h'.1] at h
    exact h
  | c :: l, ws, q, h, r => by
    unfold RepDs at h
    obtain ⟨w, wr, A1, A2, e, h1, h2, e2⟩ := h
    subst e
    have e3 := List.append_eq_nil_iff.mp e2.symm
    rw [e3.1] at h1
    rw [e3.2] at h2
    cases q with
    | zero =>
      show RepDs K H Z 0 (d :: l) (v :: wr) []
      unfold RepDs
      exact ⟨v, wr, [], [], rfl, r, h2, rfl⟩
    | succ q =>
      show RepDs K H Z 0 (c :: l.set q d) (w :: wr.set q v) []
      unfold RepDs
      exact ⟨w, wr.set q v, [], [], rfl, h1, RepDs.set h2 r, rfl⟩
theorem ss_setIx {i : Expr} {p spos : Pos} (he : EE X W M e me) (hN : X.N[j]? = some x) (hv : Vis X.env.scope x) (hi : EE X W Mi i mi) (hd : (x == ("__debug__" : Str)) = false := by decide) (hcd : (x == ("__classdict__" : Str)) = false := by decide)
    (ha : ∀ v, assign (.Subscript (.Name x p) i spos) X.env v = (do
      let ov ← holding [v] (eval (.Name x p) X.env)
      let iv ← holding [v, ov] (eval i X.env)
      standAt spos
      holding [v, ov, iv] (setItem ov iv v)
      release [v, ov, iv] []) := by intro _; rfl)
    (hs : swapsWithSole [.Subscript (.Name x p) i spos] e pos.line X.env = pure false := by rfl) (hw : swappedStores [.Subscript (.Name x p) i spos] e X.env = pure none := by rfl)
    (h1 : (assignEach [.Subscript (.Name x p) i spos] X.env).map (·.2) = [assign (.Subscript (.Name x p) i spos) X.env] := by rfl) :
    SS X W U (.Assign [.Subscript (.Name x p) i spos] e pos) (vSetIx j me Mi mi) :=
  psImp (ps_asg he (pg_sub (pe_var hN hv hd hcd) hi set_list ha) hs hw h1) fun D σ H ⟨env, Z, As, P, S, q, bk⟩ => by
    refine ⟨env, Z, As, _, _, S, q, fun t env1 y H1 Z1 As1 B q st1 S1 T1 n1 => ?_, bk.xto⟩
    obtain ⟨l1, e1, q⟩ := ownL_of q
    obtain ⟨a, vs1, v1, _, _, _⟩ := S1.own1 e1
    have own1 := RepD.own _ _ _ _ T1.rep
    have S1f := SA.froze S1 (A := B) fun b hb => ⟨own1 b hb, (T1.dj b hb).2⟩
    have st1f := st1.froze n1
    refine ⟨_, v1, env1, _, As1, _, _, S1f, q, fun ti env2 k H2 Z2 As2 B2 q2 st2 S2 T2 n2 => ?_, (bk.step st1f.go .refl).xto⟩
    obtain ⟨ap, q2⟩ := q2
    obtain ⟨l, e2, hj, q2⟩ := ownL_of q2
    have T1f : TvOk X.K H1 (fun z => Z1 z ∨ z ∈ B) As1 ⟨t.d, 0, t.s⟩ y [] := ⟨T1.look (Zs.mono (fun _ z => .inl z) fun _ h => h) fun b hb => .inl (.inr hb), .nil, fun b hb => nomatch hb⟩
    have T12 := TvOk.step (t := (⟨t.d, 0, t.s⟩ : Tv)) S1f st2 (fun j hj => ap j hj) T1f
    split at q2
    · rename_i kk ek
      split at q2
      · rename_i l' el
        have own2 := RepD.own _ _ _ _ T2.rep
        have S3 := SA.frz t.s S2
        obtain ⟨a', vs, v2, h2, h3, h4⟩ := S3.own1 (frz_get hj e2)
        rw [v1] at v2
        have ea : a = a' := V.ref.inj (Option.some.inj (Option.some.inj v2))
        subst ea
        have ek2 := T2.rep
        rw [ek] at ek2
        have ek3 := int_of ek2
        subst ek3
        unfold setI at el
        cases hq : ixN l.length kk with
        | none => rw [hq] at el; cases el
        | some q0 =>
          rw [hq] at el
          have el : l.set q0 t.d = l' := Option.some.inj el
          subst el
          refine ⟨a, vs, kk, q0, rfl, rfl, h2, by rw [RepDs.length h4]; exact hq, ?_⟩
          have S4 := S3.wr v1 h2 h3 (RepDs.set (q := q0) h4 T12.rep)
          exact bk.nx _ σ _ _ _ q2 ((st1f.go.trans st2.go).trans ((go_frz t.s).trans (go_wr (j := j) (by rw [h3]; exact List.mem_singleton.mpr rfl)))) S4 .refl
      · exact q2.elim
    · exact q2.elim

/-! ### x op= e -/
def vAug (i : Nat) (op : Op2) (m : VE) : VS := fun env P => at_ env i fun d _ => match d with
  | .im a => m env (fun t env1 => fin (op (.im a) t.d) t.s env1 fun r env2 => P.nx (asg env2 i r)) P.xc
  | _ => False
def IpOk (X : Cx) (op : Op2) (r : TIp) : Prop := ∀ a b c x y H Zx Q, op a b = some c → c.c → RepD X.K H Zx 0 a x [] → RepD X.K H Zx 0 b y [] → ResK X.K H Zx c.d c.n Q → r x y H Q
theorem ss_aug {i : Nat} {op : Op2} {o : Operator} {r : TIp} {pos' : Pos} (hN : X.N.Nodup) (hi : X.N[i]? = some x) (hx : Loc X.env.scope x) (he : EE X W M e m) (hr : PIp X o r) (ho : IpOk X op r) (hf : X.fn x = true ∨ X.env.scope.names.lookup x = some .local := by first | exact .inl rfl | exact .inr rfl | assumption) :
    SS X W [i] (.AugAssign (.Name x pos') o e pos) (vAug i op m) :=
  psImp (ps_aug hN hi hx he hr hf) fun D σ H ⟨env, Z, As, P, S, q, bk⟩ => by
    obtain ⟨d, n, e0, q⟩ := at_of q
    obtain ⟨v0, r1, r2⟩ := S.rep i d n e0
    split at q
    · rename_i a
      have ra : RepI X.K H a v0 := by
        unfold RepD at r2
        exact r2.1
      refine ⟨v0, r1, env, Z, As, _, _, S, q, fun t env1 y H1 Z1 As1 B q st S1 T n1 => ?_, bk.xto⟩
      obtain ⟨c, ec, hc, q⟩ := fin_of q
      have own := RepD.own _ _ _ _ T.rep
      have S2 := S1.froze (A := B) fun b hb => ⟨own b hb, (T.dj b hb).2⟩
      have k : Kont X.K M σ H Z As (fun r env2 => P.nx (asg env2 i r)) fun z H2 => D.nx (σ.set i (some z)) H2 := fun t env' v H' Z' As' B q st S' T' n => by
        obtain ⟨Z2, As2, S2, g2⟩ := SA.store (i := i) S' T'
        exact bk.nx _ _ H' Z2 As2 q (g2 _ _ _ st.go n.bn) S2 (Fx.set (List.mem_singleton.mpr rfl))
      refine ho (.im a) t.d c v0 y H1 (Zs (fun b => Z1 b ∨ b ∈ B) As1 t.s) _ ec hc ?_ (T.look (Zs.mono (fun _ z => .inl z) fun _ h => h) fun b hb => .inl (.inr hb)) (kRes k q (st.froze n1) S2)
      unfold RepD
      exact ⟨RepI.keep (st.fix S) a v0 ra, rfl⟩
    · exact q.elim
/-! ### a, b = e1, e2 -/
def vPar (i j : Nat) (ags : List Ag) : VS := fun env P => vAs ags env (fun ts env1 => match ts with
  | [t, u] => P.nx (((frz (ts.flatMap (·.s)) env1).set i (some (t.d, 0))).set j (some (u.d, 0)))
  | _ => False) P.xc
theorem ss_par {i j : Nat} {x y : Str} {a b : Expr} {px py pt : Pos} {kt k2 pt2} (hc : X.calm = true) (hN : X.N.Nodup) (hi : X.N[i]? = some x) (hj : X.N[j]? = some y) (hij : i ≠ j)
    (hx : X.env.scope.names.lookup x = some .local) (hy : X.env.scope.names.lookup y = some .local) (ha : EA X W [a, b] ags) (hex : ags.all Ag.isEx = true)
    (hw : swappedStores [.Tuple [.Name x px, .Name y py] kt pt] (.Tuple [a, b] k2 pt2) X.env = pure (some [x, y]))
    (hs : swapsWithSole [.Tuple [.Name x px, .Name y py] kt pt] (.Tuple [a, b] k2 pt2) pos.line X.env = pure false := by rfl) :
    SS X W [i, j] (.Assign [.Tuple [.Name x px, .Name y py] kt pt] (.Tuple [a, b] k2 pt2) pos) (vPar i j ags) :=
  psImp (ps_par hc hN hi hj hij hx hy ha hw hs) fun D σ H ⟨env, Z, As, P, S, q, bk⟩ => by
    refine ⟨env, Z, As, _, _, S, q, fun ts env1 vs H1 Z1 As1 B q st S1 T n => ?_, bk.xto⟩
    have own := T.own
    have S2 := SA.frz (ts.flatMap (·.s)) (S1.froze (A := B) fun b hb => ⟨(own b hb).1, (own b hb).2.2⟩)
    have st2 := (st.froze n).trans' S (step_frz (agM ags) (ts.flatMap (·.s)))
    have ra := T.look (Zx := zF (fun z => Z1 z ∨ z ∈ B) As1 (ts.flatMap (·.s))) hex (Zs.mono (fun _ z => .inl z) fun _ h => h) fun b hb => .inl (.inr hb)
    split at q
    · rename_i t u
      simp only [List.map_cons, List.map_nil] at ra
      unfold RepDs at ra
      obtain ⟨v, vr, A1, A2, e1, h1, h2, e2⟩ := ra
      have e3 := List.append_eq_nil_iff.mp e2.symm
      rw [e3.1] at h1
      rw [e3.2] at h2
      unfold RepDs at h2
      obtain ⟨w, wr, A3, A4, e4, h3, h4, e5⟩ := h2
      have e6 := List.append_eq_nil_iff.mp e5.symm
      rw [e6.1] at h3
      unfold RepDs at h4
      rw [e4, h4.1] at e1
      have S3 := S2.put (i := i) h1
      have S4 := S3.put (i := j) h3
      exact ⟨v, w, e1, bk.nx _ _ H1 _ _ q ((st2.go.trans (go_put i)).trans (go_put j)) S4 ((Fx.set (by simp)).trans (Fx.set (by simp)))⟩
    · exact q.elim
end
end Kv

namespace L2
open PySem PySem.Spec PyProof.Rows
/-- tuple * 1: the tuple itself -/
theorem tuple_mul1 (l : Addr) (items : Array Value) (n : Nat) (dd : Option Addr) (sl : Array (Option Value)) (x : Int) (u : Tok) (c0 : (decide (x < -(2 ^ 63)) || decide (x ≥ 2 ^ 63)) = false) (c1 : (items.isEmpty || x == 1) = true) :
    Meets (Builtin.«tuple.__mul__» ⟨[.ref l, .int x u], []⟩) (fun _ R s => s.heap.get? l = some { cls := .type "tuple", dict := dd, data := .seq items n, slots := sl } ∧ R (.ok (.ret (Value.ref l))) s) :=
  .of_wp fun prog w A R s h => by
    obtain ⟨hp, g, d, tk, os⟩ := s
    obtain ⟨hl, h⟩ := h
    have f1 := AutoSeq1.idx_int
    wp_walk using wpAny_loadPart' hl
    repeat (first
      | (refine wpAny_ite_false (decide_eq_false (by rw [c0]; exact Bool.false_ne_true)) ?_; wp_walk using wpAny_loadPart' hl)
      | (refine wpAny_ite_true (decide_eq_true c1) ?_; wp_walk using wpAny_loadPart' hl))
    exact ⟨_, rfl, h⟩
theorem tuple_mul0 (l : Addr) (items : Array Value) (n : Nat) (dd : Option Addr) (sl : Array (Option Value)) (x : Int) (u : Tok) (c0 : (decide (x < -(2 ^ 63)) || decide (x ≥ 2 ^ 63)) = false) (c1 : (items.isEmpty || x == 1) = false) (c2 : (decide (x ≤ 0) || items.isEmpty) = true) :
    Meets (Builtin.«tuple.__mul__» ⟨[.ref l, .int x u], []⟩) (fun _ R s => s.heap.get? l = some { cls := .type "tuple", dict := dd, data := .seq items n, slots := sl } ∧
      R (.ok (.ret (Value.ref s.heap.objs.size))) { s with heap := s.heap.push { cls := Value.type "tuple", data := Data.seq #[] }, toks := s.toks }) :=
  .of_wp fun prog w A R s h => by
    obtain ⟨hp, g, d, tk, os⟩ := s
    obtain ⟨hl, h⟩ := h
    have f1 := AutoSeq1.idx_int
    wp_walk using wpAny_loadPart' hl
    repeat (first
      | (refine wpAny_ite_false (decide_eq_false (by rw [c0]; exact Bool.false_ne_true)) ?_; wp_walk using wpAny_loadPart' hl)
      | (refine wpAny_ite_false (decide_eq_false (by rw [c1]; exact Bool.false_ne_true)) ?_; wp_walk using wpAny_loadPart' hl)
      | (refine wpAny_ite_true (decide_eq_true c2) ?_; wp_walk using wpAny_loadPart' hl))
    exact ⟨_, rfl, h⟩
/-- tuple * int: the few that are the tuple itself, or nothing -/
def rRepT1 (K : PySem.W.Frag) : R2 := fun x y H Q => ∃ l k xs, x = .ref l ∧ y = .int k ∧ SqT K H l xs ∧ k ≤ 1000 ∧ -1000 ≤ k ∧ xs.length ≤ 1000 ∧
  ((xs = [] ∨ k = 1) → Q (.ref l) H) ∧ (¬ (xs = [] ∨ k = 1) → ∀ p, H p = none → Q (.ref p) (upd H p (.tup (List.replicate k.toNat xs).flatten)))
theorem op_repT1 {X : Cx} : OpR X (binaryOp .Mult) (rRepT1 X.K) := by
  intro pins s σ H x y v u Q I rx ry h
  obtain ⟨l, k, xs, e1, e2, hT, h1, h2, hz, q1, q2⟩ := h
  by_cases hs : xs = [] ∨ k = 1
  · subst e1 e2
    cases rx
    obtain ⟨t, rfl⟩ := ry
    obtain ⟨its, r, ⟨⟨cls, dd, data, sl⟩, ho, hc, n, hd⟩, hsz⟩ := I.tuple hT
    simp only at hc hd
    subst hc hd
    have c0 : (decide (k < -(2 ^ 63)) || decide (k ≥ 2 ^ 63)) = false := by
      rw [decide_eq_false (by omega), decide_eq_false (by omega)] <;> rfl
    have c1 : (its.toArray.isEmpty || k == 1) = true := by
      rcases hs with e | e
      · subst e
        have : its = [] := by
          cases r
          rfl
        rw [this] <;> rfl
      · rw [e]
        simp
    refine wpAny_binaryOp_repeat_ref (T := "tuple") (U := "int") (by decide) ⟨_, ho, rfl⟩ (fun s' => typeIs_int s' k t) noFill_tuple_mul F.fills_int_mul F.slot_int_rmul repeat_tuple F.slot_int_index.lookup
      (call_meets F.slot_int_rmul (typeIs_int s k t) F.entry_int_rmul (F.args_int_rmul_2 _ _) (int_rmul_tuple k t l its.toArray n dd sl)
        ⟨ho, rfl, ⟨_, ho, rfl⟩, call_meets F.slot_tuple_mul ⟨_, ho, rfl⟩ F.entry_tuple_mul (F.args_tuple_mul_2 _ _) (tuple_mul1 l its.toArray n dd sl k t c0 c1) ⟨ho, ?_⟩⟩)
    exact ⟨.ref l, H, I, rfl, q1 hs⟩
  · by_cases hk : 2 ≤ k
    · exact op_repT pins s σ H x y v u Q I rx ry ⟨l, k, xs, e1, e2, hT, fun e => hs (.inl e), hk, h1, hz, q2 hs⟩
    · subst e1 e2
      cases rx
      obtain ⟨t, rfl⟩ := ry
      obtain ⟨its, r, ⟨⟨cls, dd, data, sl⟩, ho, hc, n, hd⟩, hsz⟩ := I.tuple hT
      simp only at hc hd
      subst hc hd
      have k0 : k ≤ 0 := by
        by_cases e : k = 1
        · exact absurd (.inr e) hs
        · omega
      have hi : its.toArray.isEmpty = false := by
        cases r with
        | nil => exact absurd (.inl rfl) hs
        | cons _ _ => rfl
      have c0 : (decide (k < -(2 ^ 63)) || decide (k ≥ 2 ^ 63)) = false := by
        rw [decide_eq_false (by omega), decide_eq_false (by omega)] <;> rfl
      have c1 : (its.toArray.isEmpty || k == 1) = false := by
        rw [hi, Bool.false_or]
        exact beq_eq_false_iff_ne.mpr (by omega)
      have c2 : (decide (k ≤ 0) || its.toArray.isEmpty) = true := by
        rw [decide_eq_true k0] <;> rfl
      refine wpAny_binaryOp_repeat_ref (T := "tuple") (U := "int") (by decide) ⟨_, ho, rfl⟩ (fun s' => typeIs_int s' k t) noFill_tuple_mul F.fills_int_mul F.slot_int_rmul repeat_tuple F.slot_int_index.lookup
        (call_meets F.slot_int_rmul (typeIs_int s k t) F.entry_int_rmul (F.args_int_rmul_2 _ _) (int_rmul_tuple k t l its.toArray n dd sl)
          ⟨ho, rfl, ⟨_, ho, rfl⟩, call_meets F.slot_tuple_mul ⟨_, ho, rfl⟩ F.entry_tuple_mul (F.args_tuple_mul_2 _ _) (tuple_mul0 l its.toArray n dd sl k t c0 c1 c2) ⟨ho, ?_⟩⟩)
      have e0 : k.toNat = 0 := by omega
      have q3 := q2 hs _ (I.hok.fresh (Nat.le_refl s.heap.objs.size))
      rw [e0] at q3
      refine ⟨.ref s.heap.objs.size, _, I.laid (t' := s.toks) (o := .tup []) (fun b ob q => Heap.get?_push_of_some _ q) (Nat.le_refl _) ?_, rfl, q3⟩
      exact ⟨Nat.zero_le _, [], .nil, IsTup.new _ _⟩
end L2

namespace Kv
open PySem PySem.Spec L2
open PyProof.Rows hiding St

section
variable {K : PySem.W.Frag} {H : Hp} {Zx : Addr → Prop} {Q : VK}
theorem resIm {i : I} {n : Nat} {v : V} (k : ResK K H Zx (.im i) n Q) (r : RepI K H i v) : Q v H :=
  k v H [] (Same.refl H) (fun b hb => nomatch hb) .nil (by unfold RepD; exact ⟨r, rfl⟩)
theorem resOld {d : D} {v : V} (k : ResK K H Zx d 0 Q) (r : RepD K H Zx 0 d v []) : Q v H := k v H [] (Same.refl H) (fun b hb => nomatch hb) .nil r
theorem im_of {i : I} {n : Nat} {v : V} {A : List Addr} (h : RepD K H Zx n (.im i) v A) : RepI K H i v := by
  unfold RepD at h
  exact h.1
theorem lst_of {l : List D} {v : V} (h : RepD K H Zx 0 (.lst l) v []) : ∃ a vs, v = .ref a ∧ H a = some (.lst vs) ∧ RepDs K H Zx 0 l vs [] := by
  unfold RepD at h
  obtain ⟨a, vs, e, h1, h2⟩ := h
  exact ⟨a, vs, e, h1.2, h2⟩
end
abbrev int (i : Int) : D := .im (.int i)
abbrev bl (b : Bool) : D := .im (.bl b)

/-! ### + - * // % ** -/
def oAdd : Op2 := fun a b => match a, b with
  | .im (.int i), .im (.int j) => some ⟨True, int (i + j), 0⟩
  | .im (.str x), .im (.str y) => some ⟨x.length + y.length ≤ 16777216, .im (.str (x ++ y)), 0⟩
  | .lst l, .lst m => some ⟨l.length + m.length ≤ 16777216, .lst (l ++ m), 1⟩
  | d, e => (match items d, items e with
    | some l, some m => some ⟨l.length + m.length ≤ 16777216, mkTup (l ++ m), 0⟩
    | _, _ => none)
def rAdd4 (K : PySem.W.Frag) : R2 := fun x y H Q => (∃ i j, x = .int i ∧ y = .int j ∧ Q (.int (i + j)) H) ∨ (∃ i j, x = .str i ∧ y = .str j ∧ i.length + j.length ≤ sizeLine ∧ Q (.str (i ++ j)) H) ∨ rCat x y H Q ∨ rCatA K x y H Q
theorem op_add4 {X : Cx} : OpR X (binaryOp .Add) (rAdd4 X.K) := OpR.or op_add (OpR.or op_add_str (OpR.or op_cat op_catA))
theorem RepDs.append {K : PySem.W.Frag} {H : Hp} {Z : Addr → Prop} : ∀ {l m : List D} {vs ws : List V}, RepDs K H Z 0 l vs [] → RepDs K H Z 0 m ws [] → RepDs K H Z 0 (l ++ m) (vs ++ ws) []
  | [], m, vs, ws, h, h' => by
    unfold RepDs at h
    rw [h.1]
    exact h'
  | d :: l, m, vs, ws, h, h' => by
    unfold RepDs at h
    obtain ⟨v, vr, A1, A2, e, h1, h2, e2⟩ := h
    subst e
    have e3 := List.append_eq_nil_iff.mp e2.symm
    rw [e3.1] at h1
    rw [e3.2] at h2
    show RepDs K H Z 0 (d :: (l ++ m)) (v :: (vr ++ ws)) []
    unfold RepDs
    exact ⟨v, vr ++ ws, [], [], rfl, h1, RepDs.append h2 h', rfl⟩
theorem cat_nil {K : PySem.W.Frag} {H : Hp} {Z : Addr → Prop} {l : List D} {vs : List V} (h : RepDs K H Z 0 l vs []) : vs = [] ↔ l = [] := by
  have := RepDs.length h
  constructor
  · intro e; rw [e] at this; exact List.eq_nil_of_length_eq_zero this.symm
  · intro e; rw [e] at this; exact List.eq_nil_of_length_eq_zero this
theorem oAdd_ok {X : Cx} : Op2Ok X oAdd (rAdd4 X.K) := fun a b c x y H Zx Q e hc ha hb k => by
  unfold oAdd at e
  split at e
  · cases e
    have e1 := im_of ha
    have e2 := im_of hb
    unfold RepI at e1 e2
    exact .inl ⟨_, _, e1, e2, resIm k rfl⟩
  · cases e
    have e1 := im_of ha
    have e2 := im_of hb
    unfold RepI at e1 e2
    exact .inr (.inl ⟨_, _, e1, e2, by rw [sizeLine_eq]; exact hc, resIm k rfl⟩)
  · cases e
    obtain ⟨p, vs, e1, h1, r1⟩ := lst_of ha
    obtain ⟨q, ws, e2, h2, r2⟩ := lst_of hb
    refine .inr (.inr (.inl ⟨p, q, vs, ws, e1, e2, h1, h2, by rw [RepDs.length r1, RepDs.length r2, sizeLine_eq]; exact hc, fun z hz => res_newL k (r1.append r2) hz⟩))
  · split at e
    · rename_i l m el em
      cases e
      obtain ⟨p, vs, e1, h1, r1⟩ := items_rep el ha
      obtain ⟨q, ws, e2, h2, r2⟩ := items_rep em hb
      have hl : vs.length + ws.length ≤ sizeLine := by rw [RepDs.length r1, RepDs.length r2, sizeLine_eq]; exact hc
      refine .inr (.inr (.inr ⟨p, q, vs, ws, e1, e2, h1, h2, hl, ?_⟩))
      refine ⟨fun e => ?_, fun e => ?_, fun e e' z hz => res_newT k (r1.append r2) hz⟩
      · have := (cat_nil r1).mp e
        subst this
        exact resOld k (mkTup_rep h2 r2)
      · intro e'
        have := (cat_nil r2).mp e'
        subst this
        have q := resOld (d := mkTup (l ++ [])) (v := .ref p) k (by rw [List.append_nil]; exact mkTup_rep h1 r1)
        exact q
    · cases e

/-- two ints to an int -/
def oI2 (C : Int → Int → Prop) (g : Int → Int → Int) : Op2 := fun a b => match a, b with
  | .im (.int i), .im (.int j) => some ⟨C i j, int (g i j), 0⟩
  | _, _ => none
def oIB (g : Int → Int → Bool) : Op2 := fun a b => match a, b with
  | .im (.int i), .im (.int j) => some ⟨True, bl (g i j), 0⟩
  | _, _ => none
theorem oI2_ok {X : Cx} {C C' : Int → Int → Prop} {g : Int → Int → Int} (hC : ∀ i j, C i j → C' i j) : Op2Ok X (oI2 C g) (rI C' fun i j => .int (g i j)) := fun a b c x y H Zx Q e hc ha hb k => by
  unfold oI2 at e
  split at e
  · cases e
    exact ⟨_, _, int_of ha, int_of hb, hC _ _ hc, resIm k rfl⟩
  · cases e
theorem oI20_ok {X : Cx} {g : Int → Int → Int} : Op2Ok X (oI2 (fun _ _ => True) g) (rI0 fun i j => .int (g i j)) := fun a b c x y H Zx Q e hc ha hb k => by
  unfold oI2 at e
  split at e
  · cases e
    exact ⟨_, _, int_of ha, int_of hb, resIm k rfl⟩
  · cases e
theorem oIB_ok {X : Cx} {g : Int → Int → Bool} : Op2Ok X (oIB g) (rI0 fun i j => .bl (g i j)) := fun a b c x y H Zx Q e hc ha hb k => by
  unfold oIB at e
  split at e
  · cases e
    exact ⟨_, _, int_of ha, int_of hb, resIm k rfl⟩
  · cases e
def oSub : Op2 := oI2 (fun _ _ => True) (· - ·)
/-- one factor below 2 ^ 64, or both together below a million bits -/
def MulC (i j : Int) : Prop := CMul i j ∨ CMulW i j
def oMulI : Op2 := oI2 MulC (· * ·)
theorem op_mulX {X : Cx} : OpR X (binaryOp .Mult) (rI MulC fun i j => .int (i * j)) := by
  intro pins s σ H x y v u Q I rx ry h
  obtain ⟨i, j, e1, e2, hc, q⟩ := h
  rcases hc with hc | hc
  · exact op_mul pins s σ H x y v u Q I rx ry ⟨i, j, e1, e2, hc, q⟩
  · exact op_mulW pins s σ H x y v u Q I rx ry ⟨i, j, e1, e2, hc, q⟩
/-- ints; a tuple or a list times an int -/
def oMul : Op2 := fun a b => match a, b with
  | .im (.int i), .im (.int j) => some ⟨MulC i j, int (i * j), 0⟩
  | .lst l, .im (.int j) => some ⟨j ≤ 1000000 ∧ -1000000 ≤ j ∧ l.length * j.toNat ≤ 16777216, .lst (List.replicate j.toNat l).flatten, 1⟩
  | d, .im (.int j) => (match items d with
    | some l => some ⟨j ≤ 1000 ∧ -1000 ≤ j ∧ l.length ≤ 1000, mkTup (List.replicate j.toNat l).flatten, 0⟩
    | none => none)
  | _, _ => none
def rMul3 (K : PySem.W.Frag) : R2 := fun x y H Q => rI MulC (fun i j => .int (i * j)) x y H Q ∨ rRep x y H Q ∨ rRepT1 K x y H Q
theorem op_mul3 {X : Cx} : OpR X (binaryOp .Mult) (rMul3 X.K) := OpR.or op_mulX (OpR.or op_rep op_repT1)
theorem RepDs.rep {K : PySem.W.Frag} {H : Hp} {Z : Addr → Prop} {l : List D} {vs : List V} (h : RepDs K H Z 0 l vs []) : ∀ n : Nat, RepDs K H Z 0 (List.replicate n l).flatten (List.replicate n vs).flatten []
  | 0 => by
    show RepDs K H Z 0 [] [] []
    unfold RepDs
    exact ⟨rfl, rfl⟩
  | n + 1 => by
    rw [List.replicate_succ, List.replicate_succ, List.flatten_cons, List.flatten_cons]
    exact h.append (h.rep n)
theorem oMul_ok {X : Cx} : Op2Ok X oMul (rMul3 X.K) := fun a b c x y H Zx Q e hc ha hb k => by
  unfold oMul at e
  split at e
  · cases e
    exact .inl ⟨_, _, int_of ha, int_of hb, hc, resIm k rfl⟩
  · cases e
    obtain ⟨p, vs, e1, h1, r1⟩ := lst_of ha
    have hc : _ ∧ _ ∧ _ := hc
    exact .inr (.inl ⟨p, _, vs, e1, int_of hb, h1, by omega, by omega, by rw [RepDs.length r1, sizeLine_eq]; exact hc.2.2, fun z hz => res_newL k (r1.rep _) hz⟩)
  · split at e
    · rename_i l el
      cases e
      obtain ⟨p, vs, e1, h1, r1⟩ := items_rep el ha
      have hc : _ ∧ _ ∧ _ := hc
      have hl := RepDs.length r1
      refine .inr (.inr ⟨p, _, vs, e1, int_of hb, h1, hc.1, hc.2.1, by rw [hl]; exact hc.2.2, fun h => ?_, fun h z hz => res_newT k (r1.rep _) hz⟩)
      have ev : ∀ j : Int, (vs = [] ∨ j = 1) → (List.replicate j.toNat l).flatten = l := fun j h => by
        rcases h with h | h
        · have := (cat_nil r1).mp h
          subst this
          exact List.eq_nil_of_length_eq_zero (by simp)
        · subst h
          simp
      dsimp only at k
      rw [ev _ h] at k
      exact resOld k (mkTup_rep h1 r1)
    · cases e
  · cases e
/-- // by a positive divisor -/
def oDiv : Op2 := oI2 (fun _ j => 0 < j ∧ j.natAbs.log2 < 9000) (· / ·)
def oMod : Op2 := oI2 (fun _ j => 0 < j) (· % ·)
def oPow : Op2 := oI2 (fun i j => 0 ≤ j ∧ j ≤ 1000000 ∧ i.natAbs < 2 ^ 64) fun i j => i ^ j.toNat
def oNeg : Op1 := fun d => match d with
  | .im (.int i) => some ⟨True, int (-i), 0⟩
  | _ => none
theorem oNeg_ok {X : Cx} : Op1Ok X oNeg (rU fun i => .int (-i)) := fun d c x H Zx Q e hc h k => by
  unfold oNeg at e
  split at e
  · cases e
    exact ⟨_, int_of h, resIm k rfl⟩
  · cases e
def oLt : Op2 := oIB fun i j => decide (i < j)
def oLe : Op2 := oIB fun i j => decide (i ≤ j)
def oGt : Op2 := oIB fun i j => decide (j < i)
def oGe : Op2 := oIB fun i j => decide (j ≤ i)
section
variable {X : Cx} {W : WX} {pos : Pos} {a b : Expr} {M M1 M2 : List Nat} {m m1 m2 : VE}
theorem ee_add (ha : EE X W M1 a m1) (hb : EE X W M2 b m2) : EE X W (M1 ++ M2) (.BinOp a .Add b pos) (vBin oAdd M2 m1 m2) := ee_op op_add4 oAdd_ok ha hb
theorem ee_sub (ha : EE X W M1 a m1) (hb : EE X W M2 b m2) : EE X W (M1 ++ M2) (.BinOp a .Sub b pos) (vBin oSub M2 m1 m2) := ee_op op_sub oI20_ok ha hb
theorem ee_mul (ha : EE X W M1 a m1) (hb : EE X W M2 b m2) : EE X W (M1 ++ M2) (.BinOp a .Mult b pos) (vBin oMul M2 m1 m2) := ee_op op_mul3 oMul_ok ha hb
theorem ee_div (ha : EE X W M1 a m1) (hb : EE X W M2 b m2) : EE X W (M1 ++ M2) (.BinOp a .FloorDiv b pos) (vBin oDiv M2 m1 m2) := ee_op op_fdivW (oI2_ok fun _ _ h => h) ha hb
theorem ee_mod (ha : EE X W M1 a m1) (hb : EE X W M2 b m2) : EE X W (M1 ++ M2) (.BinOp a .Mod b pos) (vBin oMod M2 m1 m2) := ee_op op_mod (oI2_ok fun _ _ h => h) ha hb
theorem ee_pow (ha : EE X W M1 a m1) (hb : EE X W M2 b m2) : EE X W (M1 ++ M2) (.BinOp a .Pow b pos) (vBin oPow M2 m1 m2) := ee_op op_pow (oI2_ok fun _ _ h => h) ha hb
theorem ee_neg (ha : EE X W M a m) : EE X W M (.UnaryOp .USub a pos) (vUn oNeg m) := ee_un un_neg oNeg_ok ha
theorem ee_lt (ha : EE X W M1 a m1) (hb : EE X W M2 b m2) : EE X W (M1 ++ M2) (.Compare a [.Lt] [b] pos) (vBin oLt M2 m1 m2) := ee_cmp op_lt oIB_ok ha hb (nomark b)
theorem ee_le (ha : EE X W M1 a m1) (hb : EE X W M2 b m2) : EE X W (M1 ++ M2) (.Compare a [.LtE] [b] pos) (vBin oLe M2 m1 m2) := ee_cmp op_le oIB_ok ha hb (nomark b)
theorem ee_gt (ha : EE X W M1 a m1) (hb : EE X W M2 b m2) : EE X W (M1 ++ M2) (.Compare a [.Gt] [b] pos) (vBin oGt M2 m1 m2) := ee_cmp op_gt oIB_ok ha hb (nomark b)
theorem ee_ge (ha : EE X W M1 a m1) (hb : EE X W M2 b m2) : EE X W (M1 ++ M2) (.Compare a [.GtE] [b] pos) (vBin oGe M2 m1 m2) := ee_cmp op_ge oIB_ok ha hb (nomark b)
theorem et_lt (ha : EE X W M1 a m1) (hb : EE X W M2 b m2) : ET X W (M1 ++ M2) (.Compare a [.Lt] [b] pos) (vTv trB (vBin oLt M2 m1 m2)) := et_cmp op_lt oIB_ok ha hb (nomark b)
theorem et_le (ha : EE X W M1 a m1) (hb : EE X W M2 b m2) : ET X W (M1 ++ M2) (.Compare a [.LtE] [b] pos) (vTv trB (vBin oLe M2 m1 m2)) := et_cmp op_le oIB_ok ha hb (nomark b)
theorem et_gt (ha : EE X W M1 a m1) (hb : EE X W M2 b m2) : ET X W (M1 ++ M2) (.Compare a [.Gt] [b] pos) (vTv trB (vBin oGt M2 m1 m2)) := et_cmp op_gt oIB_ok ha hb (nomark b)
theorem et_ge (ha : EE X W M1 a m1) (hb : EE X W M2 b m2) : ET X W (M1 ++ M2) (.Compare a [.GtE] [b] pos) (vTv trB (vBin oGe M2 m1 m2)) := et_cmp op_ge oIB_ok ha hb (nomark b)
end

/-! ### == != over trees -/
mutual
def toPy : I → PyData
  | .non => .none
  | .bl b => .bool b
  | .int i => .int i
  | .str s => .str s
  | .tup l => .tuple (toPys l)
  | .fl l => .list (l.map PyData.int)
  | .adr _ _ => .dict []
def toPys : List I → List PyData
  | [] => []
  | i :: l => toPy i :: toPys l
end
mutual
def dPy : D → PyData
  | .im i => toPy i
  | .tup l => .tuple (dPys l)
  | .lst l => .list (dPys l)
def dPys : List D → List PyData
  | [] => []
  | d :: l => dPy d :: dPys l
end
theorem dp_ints {K : PySem.W.Frag} {H : Hp} : ∀ l : List Int, DpAll K H (l.map V.int) (l.map PyData.int)
  | [] => .nil
  | i :: l => .cons (.int i) (dp_ints l)
mutual
theorem toPy_dp {K : PySem.W.Frag} {H : Hp} : ∀ (i : I) {v : V}, (toPy i).canLay0 = true → RepI K H i v → Dp K H v (toPy i)
  | .non, v, _, h => by unfold RepI at h; rw [h]; unfold toPy; exact .non
  | .bl b, v, _, h => by unfold RepI at h; rw [h]; unfold toPy; exact .bl b
  | .int i, v, _, h => by unfold RepI at h; rw [h]; unfold toPy; exact .int i
  | .str s, v, _, h => by unfold RepI at h; rw [h]; unfold toPy; exact .str s
  | .tup l, v, c, h => by
    unfold RepI at h
    obtain ⟨a, vs, e, h1, h2⟩ := h
    rw [e]
    unfold toPy at c ⊢
    unfold PyData.canLay0 at c
    exact .tup h1 (toPys_dp l c h2)
  | .fl l, v, _, h => by
    unfold RepI at h
    obtain ⟨a, e, h1⟩ := h
    rw [e]
    unfold toPy
    exact .lst h1.sq (dp_ints l)
  | .adr _ _, v, c, h => by
    unfold toPy at c
    unfold PyData.canLay0 at c
    cases c
theorem toPys_dp {K : PySem.W.Frag} {H : Hp} : ∀ (l : List I) {vs : List V}, PyData.canLayAll0 (toPys l) = true → RepIs K H l vs → DpAll K H vs (toPys l)
  | [], vs, _, h => by unfold RepIs at h; rw [h]; unfold toPys; exact .nil
  | i :: l, vs, c, h => by
    unfold RepIs at h
    obtain ⟨v, r, e, h1, h2⟩ := h
    rw [e]
    unfold toPys at c ⊢
    unfold PyData.canLayAll0 at c
    obtain ⟨c1, c2⟩ := Bool.and_eq_true_iff.mp c
    exact .cons (toPy_dp i c1 h1) (toPys_dp l c2 h2)
end
mutual
theorem dPy_dp {K : PySem.W.Frag} {H : Hp} {Z : Addr → Prop} {n : Nat} : ∀ (d : D) {v : V} {A : List Addr}, (dPy d).canLay0 = true → RepD K H Z 0 d v A → Dp K H v (dPy d)
  | .im i, v, A, c, h => by unfold dPy at c ⊢; exact toPy_dp i c (im_of h)
  | .tup l, v, A, c, h => by
    unfold RepD at h
    obtain ⟨a, vs, e, h1, h2⟩ := h
    rw [e]
    unfold dPy at c ⊢
    unfold PyData.canLay0 at c
    exact .tup h1 (dPys_dp (n := n) l c h2)
  | .lst l, v, A, c, h => by
    unfold RepD at h
    obtain ⟨a, vs, e, h1, h2⟩ := h
    rw [e]
    unfold dPy at c ⊢
    unfold PyData.canLay0 at c
    exact .lst h1.sq (dPys_dp (n := n) l c h2)
theorem dPys_dp {K : PySem.W.Frag} {H : Hp} {Z : Addr → Prop} {n : Nat} : ∀ (l : List D) {vs : List V} {A : List Addr}, PyData.canLayAll0 (dPys l) = true → RepDs K H Z 0 l vs A → DpAll K H vs (dPys l)
  | [], vs, A, _, h => by unfold RepDs at h; rw [h.1]; unfold dPys; exact .nil
  | d :: l, vs, A, c, h => by
    unfold RepDs at h
    obtain ⟨v, r, A1, A2, e, h1, h2, _⟩ := h
    rw [e]
    unfold dPys at c ⊢
    unfold PyData.canLayAll0 at c
    obtain ⟨c1, c2⟩ := Bool.and_eq_true_iff.mp c
    exact .cons (dPy_dp (n := n) d c1 h1) (dPys_dp (n := n) l c2 h2)
end
/-- Python's == of two trees -/
def eqD (a b : D) : Bool := PyData.eqv (dPy a) (dPy b)
/-- of few levels, with written texts alone -/
def shD (a : D) : Prop := SeqAt.shaped (dPy a) = true
def oEq : Op2 := fun a b => match a, b with
  | .im (.int i), .im (.int j) => some ⟨True, bl (decide (i = j)), 0⟩
  | a, b => some ⟨shD a ∧ shD b, bl (eqD a b), 0⟩
def oNe : Op2 := fun a b => match a, b with
  | .im (.int i), .im (.int j) => some ⟨True, bl (!decide (i = j)), 0⟩
  | a, b => some ⟨shD a ∧ shD b, bl (!eqD a b), 0⟩
theorem oEq_ok {X : Cx} : Op2Ok X oEq (rEqD X.K) := fun a b c x y H Zx Q e hc ha hb k => by
  unfold oEq at e
  split at e
  · rename_i i j
    cases e
    refine ⟨_, _, dPy_dp (n := 0) _ rfl ha, dPy_dp (n := 0) _ rfl hb, rfl, rfl, ?_⟩
    have : PyData.eqv (dPy (int i)) (dPy (int j)) = decide (i = j) := by
      show (i == j) = decide (i = j)
      rw [Bool.eq_iff_iff]; simp
    rw [this]
    exact resIm k rfl
  · cases e
    exact ⟨_, _, dPy_dp (n := 0) _ (SeqAt.canLay_of_shaped hc.1) ha, dPy_dp (n := 0) _ (SeqAt.canLay_of_shaped hc.2) hb, hc.1, hc.2, resIm k rfl⟩
theorem oNe_ok {X : Cx} : Op2Ok X oNe (rNeD X.K) := fun a b c x y H Zx Q e hc ha hb k => by
  unfold oNe at e
  split at e
  · rename_i i j
    cases e
    refine ⟨_, _, dPy_dp (n := 0) _ rfl ha, dPy_dp (n := 0) _ rfl hb, rfl, rfl, ?_⟩
    have : PyData.eqv (dPy (int i)) (dPy (int j)) = decide (i = j) := by
      show (i == j) = decide (i = j)
      rw [Bool.eq_iff_iff]; simp
    rw [this]
    exact resIm k rfl
  · cases e
    exact ⟨_, _, dPy_dp (n := 0) _ (SeqAt.canLay_of_shaped hc.1) ha, dPy_dp (n := 0) _ (SeqAt.canLay_of_shaped hc.2) hb, hc.1, hc.2, resIm k rfl⟩
section
variable {X : Cx} {W : WX} {pos : Pos} {a b : Expr} {M M1 M2 : List Nat} {m m1 m2 : VE}
theorem ee_eq (hu : X.A.units + 64 < cLine) (ha : EE X W M1 a m1) (hb : EE X W M2 b m2) : EE X W (M1 ++ M2) (.Compare a [.Eq] [b] pos) (vBin oEq M2 m1 m2) := ee_cmp (op_eqD hu) oEq_ok ha hb (nomark b)
theorem ee_ne (hu : X.A.units + 64 < cLine) (ha : EE X W M1 a m1) (hb : EE X W M2 b m2) : EE X W (M1 ++ M2) (.Compare a [.NotEq] [b] pos) (vBin oNe M2 m1 m2) := ee_cmp (op_neD hu) oNe_ok ha hb (nomark b)
theorem et_eq (hu : X.A.units + 64 < cLine) (ha : EE X W M1 a m1) (hb : EE X W M2 b m2) : ET X W (M1 ++ M2) (.Compare a [.Eq] [b] pos) (vTv trB (vBin oEq M2 m1 m2)) := et_cmp (op_eqD hu) oEq_ok ha hb (nomark b)
theorem et_ne (hu : X.A.units + 64 < cLine) (ha : EE X W M1 a m1) (hb : EE X W M2 b m2) : ET X W (M1 ++ M2) (.Compare a [.NotEq] [b] pos) (vTv trB (vBin oNe M2 m1 m2)) := et_cmp (op_neD hu) oNe_ok ha hb (nomark b)
/-! ### is None -/
def isNon : D → Bool
  | .im .non => true
  | _ => false
def oIsN : Op1 := fun d => some ⟨True, bl (isNon d), 0⟩
def oNotN : Op1 := fun d => some ⟨True, bl (!isNon d), 0⟩
theorem isNon_rep {K : PySem.W.Frag} {H : Hp} {Z : Addr → Prop} {d : D} {v : V} (h : RepD K H Z 0 d v []) : decide (v = .non) = isNon d := by
  have ref : ∀ {a : Addr}, v = .ref a → decide (v = .non) = false := fun e => by rw [e]; rfl
  cases d with
  | im i =>
    have h := im_of h
    cases i with
    | non => unfold RepI at h; rw [h]; rfl
    | bl b => unfold RepI at h; rw [h]; rfl
    | int j => unfold RepI at h; rw [h]; rfl
    | str s => unfold RepI at h; rw [h]; rfl
    | tup l => unfold RepI at h; obtain ⟨a, _, e, _⟩ := h; exact ref e
    | fl l => unfold RepI at h; obtain ⟨a, e, _⟩ := h; exact ref e
    | adr a c => unfold RepI at h; exact ref h
  | tup l => unfold RepD at h; obtain ⟨a, _, e, _⟩ := h; exact ref e
  | lst l => unfold RepD at h; obtain ⟨a, _, e, _⟩ := h; exact ref e
theorem ee_isN {j p} (ha : EE X W M a m) : EE X W M (.Compare a [.Is] [.Constant .none j p] pos) (vUn oIsN m) :=
  peImp (pe_cmp (pc_isN ha)) (un_ok (r := fun x H Q => Q (.bl (decide (x = .non))) H) fun d c x H Zx Q e hc h k => by
    cases e
    exact resIm k (by rw [isNon_rep h]; rfl))
theorem ee_notN {j p} (ha : EE X W M a m) : EE X W M (.Compare a [.IsNot] [.Constant .none j p] pos) (vUn oNotN m) :=
  peImp (pe_cmp (pc_notN ha)) (un_ok (r := fun x H Q => Q (.bl (!decide (x = .non))) H) fun d c x H Zx Q e hc h k => by
    cases e
    exact resIm k (by rw [isNon_rep h]; rfl))
theorem bl_tv {K : PySem.W.Frag} {H : Hp} {Zx : Addr → Prop} {d : D} {k : Bool} {x : V} (ht : trB d = some k) (h : RepD K H Zx 0 d x []) : x = .bl k := by
  cases d with
  | im i =>
    cases i with
    | bl c => cases ht; exact bl_of h
    | _ => cases ht
  | _ => cases ht
theorem et_bl {e : Expr} {m : VE} (h : PT X e (tB (LE X W M m))) : ET X W M e (vTv trB m) :=
  ptImp h fun σ H Q ⟨env, Z, As, Qn, Qx, S, q, hn, hx⟩ => by
    refine ⟨env, Z, As, _, Qx, S, q, fun a env1 x H1 Z1 As1 A q st S1 T n => ?_, hx⟩
    cases ht : trB a.d with
    | none => rw [ht] at q; exact q.elim
    | some k =>
      rw [ht] at q
      obtain ⟨Z2, Zx, h1, h2, h3⟩ := use0 st S1 T n
      exact ⟨k, bl_tv ht h1, hn k env1 H1 Z2 As1 q h2 h3⟩
theorem tB_imp {t t' : TE} (i : ∀ σ H Q, t' σ H Q → t σ H Q) : ∀ σ H Q, tB t' σ H Q → tB t σ H Q := fun σ H Q h => i σ H _ h
theorem et_isN {j p} (ha : EE X W M a m) : ET X W M (.Compare a [.Is] [.Constant .none j p] pos) (vTv trB (vUn oIsN m)) :=
  et_bl (ptImp (pt_cmp (pc_isN ha)) (tB_imp (un_ok (r := fun x H Q => Q (.bl (decide (x = .non))) H) fun d c x H Zx Q e hc h k => by
    cases e
    exact resIm k (by rw [isNon_rep h]; rfl))))
theorem et_notN {j p} (ha : EE X W M a m) : ET X W M (.Compare a [.IsNot] [.Constant .none j p] pos) (vTv trB (vUn oNotN m)) :=
  et_bl (ptImp (pt_cmp (pc_notN ha)) (tB_imp (un_ok (r := fun x H Q => Q (.bl (!decide (x = .non))) H) fun d c x H Zx Q e hc h k => by
    cases e
    exact resIm k (by rw [isNon_rep h]; rfl))))
end
end Kv

namespace Kv
open PySem PySem.Spec L2
open PyProof.Rows hiding St

/-! ### x[i] -/
theorem atI_rep {K : PySem.W.Frag} {H : Hp} {Z : Addr → Prop} {l : List D} {vs : List V} {i : Int} {d : D} (h : RepDs K H Z 0 l vs []) (e : atI l i = some d) : ∃ v, atI vs i = some v ∧ RepD K H Z 0 d v [] := by
  unfold atI at e ⊢
  rw [RepDs.length h]
  cases q : ixN l.length i with
  | none => rw [q] at e; cases e
  | some j =>
    rw [q] at e
    obtain ⟨v, h1, h2⟩ := RepDs.get h (show l[j]? = some d from e)
    exact ⟨v, h1, h2⟩
def toInt : D → Option Int
  | .im (.int k) => some k
  | _ => none
theorem toInt_of {K : PySem.W.Frag} {H : Hp} {Z : Addr → Prop} {d : D} {k : Int} {v : V} (e : toInt d = some k) (h : RepD K H Z 0 d v []) : v = .int k := by
  unfold toInt at e
  split at e
  · cases e; exact int_of h
  · cases e
def ixV (a : D) (k : Int) : Option Rs := match a with
  | .lst l => (atI l k).map fun d => ⟨True, d, 0⟩
  | .im (.str s) => (atI s.cps.toList k).map fun c => ⟨s.length ≤ 16777216, .im (.str ⟨#[c]⟩), 0⟩
  | d => (items d).bind fun l => (atI l k).map fun d => ⟨True, d, 0⟩
def oIx : Op2 := fun a b => match b with
  | .im (.int k) => ixV a k
  | _ => none
theorem oIx_ok {X : Cx} : Op2Ok X oIx (rIx X.K) := fun a b c x y H Zx Q e hc ha hb k => by
  unfold oIx at e
  split at e
  · rename_i j
    unfold ixV at e
    split at e
    · rename_i l
      obtain ⟨p, vs, e1, h1, r1⟩ := lst_of ha
      cases q : atI l j with
      | none => rw [q] at e; cases e
      | some d =>
        rw [q] at e
        cases e
        obtain ⟨v, q1, q2⟩ := atI_rep r1 q
        exact .inl ⟨p, vs, j, v, e1, int_of hb, .inl (.inl h1), q1, resOld k q2⟩
    · rename_i s
      cases q : atI s.cps.toList j with
      | none => rw [q] at e; cases e
      | some d =>
        rw [q] at e
        cases e
        have e1 := im_of ha
        unfold RepI at e1
        exact .inr (.inr ⟨s, j, d, e1, int_of hb, by rw [sizeLine_eq]; exact hc, q, resIm k rfl⟩)
    · cases q0 : items a with
      | none => rw [q0] at e; cases e
      | some l =>
        rw [q0] at e
        obtain ⟨p, vs, e1, h1, r1⟩ := items_rep q0 ha
        cases q : (atI l j) with
        | none => rw [Option.bind_some, q] at e; cases e
        | some d =>
          rw [Option.bind_some, q] at e
          cases e
          obtain ⟨v, q1, q2⟩ := atI_rep r1 q
          exact .inr (.inl ⟨p, vs, _, v, e1, int_of hb, h1, q1, resOld k q2⟩)
  · cases e

/-! ### x[a:b] -/
theorem la_cons {X : Cx} {W : WX} {M : List Nat} {m : VE} {r : List Ag} : ∀ σ H Q, LA X W (.ex m M :: r) σ H Q → LE X W M m σ H fun x H1 => LA X W r σ H1 fun xs H2 => Q (x :: xs) H2 := fun σ H Q ⟨env, Z, As, Qn, Qx, S, q, hn, hx⟩ => by
  have hx : XTo X.K W (M ++ agM r) σ H Z As Qx := hx
  refine ⟨env, Z, As, _, Qx, S, q, fun a env1 x H1 Z1 As1 A q st1 S1 T1 n1 => ⟨env1, Z1, As1, _, Qx, S1, q, fun ts env2 vs H2 Z2 As2 B q2 st2 S2 T2 n2 => ?_, hx.step S st1⟩, hx.left⟩
  have own1 := RepD.own _ _ _ _ T1.rep
  refine hn (a :: ts) env2 (x :: vs) H2 Z2 As2 (A ++ B) q2.2 (st1.trans S st2) S2 ⟨a, ts, x, vs, A, B, rfl, rfl, T1.step S1 st2 q2.1, T2, fun z hz hb => ?_, rfl⟩ fun z hz => ?_
  · rcases n2 z hb with e | ⟨j, hj, w⟩
    · have m := own1 z hz
      rw [e] at m; exact m
    · exact (T1.dj z hz).2 j w
  · rcases List.mem_append.mp hz with hz | hz
    · exact (n1 z hz).imp id fun ⟨j, hj, w⟩ => ⟨j, List.mem_append_left _ hj, w⟩
    · exact BNew.trans st1 n2 z hz
theorem la_nil {X : Cx} {W : WX} : ∀ σ H Q, LA X W [] σ H Q → Q [] H := fun σ H Q ⟨env, Z, As, Qn, Qx, S, q, hn, hx⟩ => hn [] env [] H Z As [] q Step.refl S ⟨rfl, rfl, rfl⟩ fun b hb => nomatch hb
def cutD {α : Type} (l : List α) (lo hi : Option Int) : List α := (l.drop (HT.sIx l.length 0 lo)).take (HT.sIx l.length l.length hi - HT.sIx l.length 0 lo)
theorem RepDs.drop {K : PySem.W.Frag} {H : Hp} {Z : Addr → Prop} : ∀ {l : List D} {vs : List V} (n : Nat), RepDs K H Z 0 l vs [] → RepDs K H Z 0 (l.drop n) (vs.drop n) []
  | l, vs, 0, h => h
  | [], vs, n + 1, h => by
    have h' := h
    unfold RepDs at h'
    rw [h'.1] at h ⊢
    exact h
  | d :: l, vs, n + 1, h => by
    unfold RepDs at h
    obtain ⟨v, vr, A1, A2, e, h1, h2, e2⟩ := h
    subst e
    have e3 := List.append_eq_nil_iff.mp e2.symm
    rw [e3.2] at h2
    exact RepDs.drop n h2
theorem RepDs.take {K : PySem.W.Frag} {H : Hp} {Z : Addr → Prop} : ∀ {l : List D} {vs : List V} (n : Nat), RepDs K H Z 0 l vs [] → RepDs K H Z 0 (l.take n) (vs.take n) []
  | l, vs, 0, h => by
    rw [List.take_zero, List.take_zero]
    unfold RepDs
    exact ⟨rfl, rfl⟩
  | [], vs, n + 1, h => by
    have h' := h
    unfold RepDs at h'
    rw [h'.1] at h ⊢
    exact h
  | d :: l, vs, n + 1, h => by
    unfold RepDs at h
    obtain ⟨v, vr, A1, A2, e, h1, h2, e2⟩ := h
    subst e
    have e3 := List.append_eq_nil_iff.mp e2.symm
    rw [e3.1] at h1
    rw [e3.2] at h2
    rw [List.take_succ_cons, List.take_succ_cons]
    unfold RepDs
    exact ⟨v, _, [], [], rfl, h1, RepDs.take n h2, rfl⟩
theorem RepDs.cut {K : PySem.W.Frag} {H : Hp} {Z : Addr → Prop} {l : List D} {vs : List V} (lo hi : Option Int) (h : RepDs K H Z 0 l vs []) : RepDs K H Z 0 (cutD l lo hi) (cutV vs lo hi) [] := by
  unfold cutD cutV
  rw [RepDs.length h]
  exact (h.drop _).take _
/-- what a slice gives -/
def slV (a : D) (lo hi : Option Int) : Option Rs := match a with
  | .lst l => some ⟨True, .lst (cutD l lo hi), 1⟩
  | .im (.str s) => some ⟨s.length ≤ 16777216, .im (.str (cutS s lo hi)), 0⟩
  | d => (items d).map fun l => ⟨True, mkTup (cutD l lo hi), 0⟩
def rSl3 (K : PySem.W.Frag) : V → Option Int → Option Int → Hp → VK → Prop := fun x lo hi H Q => rSlL K x lo hi H Q ∨ rSlS x lo hi H Q ∨ rSlA K x lo hi H Q
theorem sl_3 {X : Cx} : SlR X (rSl3 X.K) := SlR.or sl_list (SlR.or sl_str sl_tupA)
theorem slV_ok {X : Cx} {a : D} {lo hi : Option Int} {c : Rs} {x : V} {H : Hp} {Zx : Addr → Prop} {Q : VK} (e : slV a lo hi = some c) (hc : c.c) (ha : RepD X.K H Zx 0 a x []) (k : ResK X.K H Zx c.d c.n Q) : rSl3 X.K x lo hi H Q := by
  unfold slV at e
  split at e
  · cases e
    obtain ⟨p, vs, e1, h1, r1⟩ := lst_of ha
    exact .inl ⟨p, vs, e1, .inl (.inl h1), fun q hq => res_newL k (r1.cut lo hi) hq⟩
  · cases e
    have e1 := im_of ha
    unfold RepI at e1
    exact .inr (.inl ⟨_, e1, by rw [sizeLine_eq]; exact hc, resIm k rfl⟩)
  · cases q0 : items a with
    | none => rw [q0] at e; cases e
    | some l =>
      rw [q0] at e
      cases e
      obtain ⟨p, vs, e1, h1, r1⟩ := items_rep q0 ha
      refine .inr (.inr ⟨p, vs, e1, h1, fun h => ?_, fun _ q hq => res_newT k (r1.cut lo hi) hq⟩)
      have hl := RepDs.length r1
      rw [hl] at h
      have ev : cutD l lo hi = l := by
        unfold cutD
        rw [h.1, h.2]
        simp
      have k' : ResK X.K H Zx (mkTup l) 0 Q := by rw [← ev]; exact k
      exact resOld k' (mkTup_rep h1 r1)
def oSl0 : OpN := fun as => match as with
  | [a] => slV a none none
  | _ => none
def oSlL : OpN := fun as => match as with
  | [a, b] => (toInt b).bind fun i => slV a (some i) none
  | _ => none
def oSlH : OpN := fun as => match as with
  | [a, b] => (toInt b).bind fun i => slV a none (some i)
  | _ => none
def oSlLH : OpN := fun as => match as with
  | [a, b, c] => (toInt b).bind fun i => (toInt c).bind fun j => slV a (some i) (some j)
  | _ => none
theorem RepDs.one {K : PySem.W.Frag} {H : Hp} {Z : Addr → Prop} {d : D} {l : List D} {vs : List V} (h : RepDs K H Z 0 (d :: l) vs []) : ∃ v r, vs = v :: r ∧ RepD K H Z 0 d v [] ∧ RepDs K H Z 0 l r [] := by
  unfold RepDs at h
  obtain ⟨v, vr, A1, A2, e, h1, h2, e2⟩ := h
  have e3 := List.append_eq_nil_iff.mp e2.symm
  rw [e3.1] at h1
  rw [e3.2] at h2
  exact ⟨v, vr, e, h1, h2⟩
theorem RepDs.nil_of {K : PySem.W.Frag} {H : Hp} {Z : Addr → Prop} {vs : List V} (h : RepDs K H Z 0 [] vs []) : vs = [] := by
  unfold RepDs at h
  exact h.1
section
variable {X : Cx} {W : WX} {pos : Pos} {a b e lo hi : Expr} {M M1 M2 : List Nat} {m m1 m2 : VE} {p2 : Pos}
theorem ee_sl0 (he : EE X W M e m) : EE X W (agM [.ex m M]) (.Subscript e (.Slice none none none p2) pos) (vOp oSl0 [.ex m M]) :=
  peImp (pe_slice sl_3 he po_none po_none) fun σ H Q h => by
    have h1 := la_cons σ H _ (opN_ok (r := fun xs H1 Q => ∃ x, xs = [x] ∧ rSl3 X.K x none none H1 Q) (fun as c xs H Zx Q e hc r k => by
      match as, e, r with
      | [a], e, r =>
        obtain ⟨v, r1, e1, h1, h2⟩ := r.one
        rw [h2.nil_of] at e1
        exact ⟨v, e1, slV_ok e hc h1 k⟩) rfl σ H Q h)
    obtain ⟨env, Z, As, Qn, Qx, S, q, hn, hx⟩ := h1
    refine ⟨env, Z, As, Qn, Qx, S, q, fun t env' v H' Z' As' B a1 a2 a3 a4 a5 => ?_, hx⟩
    obtain ⟨x, ex, hr⟩ := la_nil _ _ _ (hn t env' v H' Z' As' B a1 a2 a3 a4 a5)
    cases ex
    exact hr
theorem ee_slL (he : EE X W M e m) (hl : EE X W M1 lo m1) : EE X W (agM [.ex m M, .ex m1 M1]) (.Subscript e (.Slice (some lo) none none p2) pos) (vOp oSlL [.ex m M, .ex m1 M1]) :=
  peImp (pe_slice sl_3 he (po_some hl) po_none) fun σ H Q h => by
    have h1 := la_cons σ H _ (opN_ok (r := fun xs H1 Q => ∃ x i, xs = [x, .int i] ∧ rSl3 X.K x (some i) none H1 Q) (fun as c xs H Zx Q e hc r k => by
      match as, e, r with
      | [a, b], e, r =>
        obtain ⟨v, r1, e1, h1, h2⟩ := r.one
        obtain ⟨w, r2, e2, h3, h4⟩ := h2.one
        rw [h4.nil_of] at e2
        rw [e2] at e1
        cases q : toInt b with
        | none =>
          have e : ((toInt b).bind fun i => slV a (some i) none) = some c := e
          rw [q] at e; cases e
        | some i =>
          have e : ((toInt b).bind fun i => slV a (some i) none) = some c := e
          rw [q] at e
          exact ⟨v, i, by rw [e1, toInt_of q h3], slV_ok e hc h1 k⟩) rfl σ H Q h)
    obtain ⟨env, Z, As, Qn, Qx, S, q, hn, hx⟩ := h1
    refine ⟨env, Z, As, Qn, Qx, S, q, fun t env' v H' Z' As' B a1 a2 a3 a4 a5 => ?_, hx⟩
    obtain ⟨env, Z, As, Qn, Qx, S, q, hn, hx⟩ := la_cons _ _ _ (hn t env' v H' Z' As' B a1 a2 a3 a4 a5)
    refine ⟨env, Z, As, Qn, Qx, S, q, fun t env' v H' Z' As' B a1 a2 a3 a4 a5 => ?_, hx⟩
    obtain ⟨x, i, ex, hr⟩ := la_nil _ _ _ (hn t env' v H' Z' As' B a1 a2 a3 a4 a5)
    cases ex
    exact ⟨i, rfl, hr⟩
theorem ee_slH (he : EE X W M e m) (hl : EE X W M1 hi m1) : EE X W (agM [.ex m M, .ex m1 M1]) (.Subscript e (.Slice none (some hi) none p2) pos) (vOp oSlH [.ex m M, .ex m1 M1]) :=
  peImp (pe_slice sl_3 he po_none (po_some hl)) fun σ H Q h => by
    have h1 := la_cons σ H _ (opN_ok (r := fun xs H1 Q => ∃ x i, xs = [x, .int i] ∧ rSl3 X.K x none (some i) H1 Q) (fun as c xs H Zx Q e hc r k => by
      match as, e, r with
      | [a, b], e, r =>
        obtain ⟨v, r1, e1, h1, h2⟩ := r.one
        obtain ⟨w, r2, e2, h3, h4⟩ := h2.one
        rw [h4.nil_of] at e2
        rw [e2] at e1
        cases q : toInt b with
        | none =>
          have e : ((toInt b).bind fun i => slV a none (some i)) = some c := e
          rw [q] at e; cases e
        | some i =>
          have e : ((toInt b).bind fun i => slV a none (some i)) = some c := e
          rw [q] at e
          exact ⟨v, i, by rw [e1, toInt_of q h3], slV_ok e hc h1 k⟩) rfl σ H Q h)
    obtain ⟨env, Z, As, Qn, Qx, S, q, hn, hx⟩ := h1
    refine ⟨env, Z, As, Qn, Qx, S, q, fun t env' v H' Z' As' B a1 a2 a3 a4 a5 => ?_, hx⟩
    obtain ⟨env, Z, As, Qn, Qx, S, q, hn, hx⟩ := la_cons _ _ _ (hn t env' v H' Z' As' B a1 a2 a3 a4 a5)
    refine ⟨env, Z, As, Qn, Qx, S, q, fun t env' v H' Z' As' B a1 a2 a3 a4 a5 => ?_, hx⟩
    obtain ⟨x, i, ex, hr⟩ := la_nil _ _ _ (hn t env' v H' Z' As' B a1 a2 a3 a4 a5)
    cases ex
    exact ⟨i, rfl, hr⟩
/-- an int, looked at as soon as it has come -/
def vInt (m : VE) : VE := fun env Qn Qx => m env (fun t env1 => match t.d with
  | .im (.int _) => Qn t env1
  | _ => False) Qx
theorem vint_le : ∀ σ H Q, LE X W M (vInt m) σ H Q → LE X W M m σ H fun x H1 => ∃ i, x = .int i ∧ Q x H1 := fun σ H Q ⟨env, Z, As, Qn, Qx, S, q, hn, hx⟩ => by
  refine ⟨env, Z, As, _, Qx, S, q, fun t env' v H' Z' As' B q a2 a3 a4 a5 => ?_, hx⟩
  obtain ⟨d, dn, ds⟩ := t
  split at q
  · rename_i i e
    cases e
    exact ⟨i, int_of a4.rep, hn _ env' v H' Z' As' B q a2 a3 a4 a5⟩
  · exact q.elim
theorem ee_slLH (he : EE X W M e m) (hl : EE X W M1 lo m1) (hh : EE X W M2 hi m2) : EE X W (agM [.ex m M, .ex (vInt m1) M1, .ex m2 M2]) (.Subscript e (.Slice (some lo) (some hi) none p2) pos) (vOp oSlLH [.ex m M, .ex (vInt m1) M1, .ex m2 M2]) :=
  peImp (pe_slice sl_3 he (po_some hl) (po_some hh)) fun σ H Q h => by
    have h1 := la_cons σ H _ (opN_ok (r := fun xs H1 Q => ∃ x i j, xs = [x, .int i, .int j] ∧ rSl3 X.K x (some i) (some j) H1 Q) (fun as c xs H Zx Q e hc r k => by
      match as, e, r with
      | [a, b, b2], e, r =>
        obtain ⟨v, r1, e1, h1, h2⟩ := r.one
        obtain ⟨w, r2, e2, h3, h4⟩ := h2.one
        obtain ⟨w2, r3, e3, h5, h6⟩ := h4.one
        rw [h6.nil_of] at e3
        rw [e3] at e2
        rw [e2] at e1
        have e : ((toInt b).bind fun i => (toInt b2).bind fun j => slV a (some i) (some j)) = some c := e
        cases q : toInt b with
        | none => rw [q] at e; cases e
        | some i =>
          cases q2 : toInt b2 with
          | none => rw [q, q2] at e; cases e
          | some j =>
            rw [q, q2] at e
            exact ⟨v, i, j, by rw [e1, toInt_of q h3, toInt_of q2 h5], slV_ok e hc h1 k⟩) rfl σ H Q h)
    obtain ⟨env, Z, As, Qn, Qx, S, q, hn, hx⟩ := h1
    refine ⟨env, Z, As, Qn, Qx, S, q, fun t env' v H' Z' As' B a1 a2 a3 a4 a5 => ?_, hx⟩
    obtain ⟨env, Z, As, Qn, Qx, S, q, hn, hx⟩ := vint_le _ _ _ (la_cons _ _ _ (hn t env' v H' Z' As' B a1 a2 a3 a4 a5))
    refine ⟨env, Z, As, Qn, Qx, S, q, fun t env' v H' Z' As' B a1 a2 a3 a4 a5 => ?_, hx⟩
    obtain ⟨i0, e0, h2⟩ := hn t env' v H' Z' As' B a1 a2 a3 a4 a5
    subst e0
    refine ⟨i0, rfl, ?_⟩
    obtain ⟨env, Z, As, Qn, Qx, S, q, hn, hx⟩ := la_cons _ _ _ h2
    refine ⟨env, Z, As, Qn, Qx, S, q, fun t' env' v' H' Z' As' B a1 a2 a3 a4 a5 => ?_, hx⟩
    obtain ⟨x, i, j, ex, hr⟩ := la_nil _ _ _ (hn t' env' v' H' Z' As' B a1 a2 a3 a4 a5)
    cases ex
    exact ⟨j, rfl, hr⟩
end

/-! ### built-ins -/
def one (f : D → Option Rs) : OpN := fun as => match as with
  | [a] => f a
  | _ => none
def twoI (f : Int → Int → Int) : OpN := fun as => match as with
  | [.im (.int i), .im (.int j)] => some ⟨True, int (f i j), 0⟩
  | _ => none
def bLen : D → Option Rs
  | .lst l => some ⟨True, int l.length, 0⟩
  | .im (.str s) => some ⟨s.length ≤ 16777216, int s.length, 0⟩
  | d => (items d).map fun l => ⟨True, int l.length, 0⟩
def bAbs : D → Option Rs
  | .im (.int i) => some ⟨True, int (if i < 0 then -i else i), 0⟩
  | _ => none
def bInt : D → Option Rs
  | .im (.int i) => some ⟨True, int i, 0⟩
  | .im (.bl b) => some ⟨True, int (if b then 1 else 0), 0⟩
  | _ => none
def intsOf : List D → Option (List Int)
  | [] => some []
  | .im (.int i) :: l => (intsOf l).map (i :: ·)
  | _ => none
def boolsOf : List D → Option (List Bool)
  | [] => some []
  | .im (.bl i) :: l => (boolsOf l).map (i :: ·)
  | _ => none
theorem intsOf_map : ∀ l : List Int, intsOf (l.map fun i => int i) = some l
  | [] => rfl
  | i :: l => by
    show (intsOf (l.map fun i => int i)).map (i :: ·) = _
    rw [intsOf_map l]
    rfl
theorem boolsOf_map : ∀ l : List Bool, boolsOf (l.map fun i => bl i) = some l
  | [] => rfl
  | i :: l => by
    show (boolsOf (l.map fun i => bl i)).map (i :: ·) = _
    rw [boolsOf_map l]
    rfl
theorem intsOf_rep {K : PySem.W.Frag} {H : Hp} {Z : Addr → Prop} : ∀ {l : List D} {ns : List Int} {vs : List V}, intsOf l = some ns → RepDs K H Z 0 l vs [] → vs = ns.map V.int
  | [], ns, vs, e, h => by cases e; exact h.nil_of
  | .im (.int i) :: l, ns, vs, e, h => by
    have e : (intsOf l).map (i :: ·) = some ns := e
    obtain ⟨v, r, e1, h1, h2⟩ := h.one
    cases q : intsOf l with
    | none => rw [q] at e; cases e
    | some ms =>
      rw [q] at e
      cases e
      rw [e1, int_of h1, intsOf_rep q h2]
      rfl
  | .im .non :: l, ns, vs, e, h => by cases e
  | .im (.bl _) :: l, ns, vs, e, h => by cases e
  | .im (.str _) :: l, ns, vs, e, h => by cases e
  | .im (.tup _) :: l, ns, vs, e, h => by cases e
  | .im (.fl _) :: l, ns, vs, e, h => by cases e
  | .im (.adr _ _) :: l, ns, vs, e, h => by cases e
  | .tup _ :: l, ns, vs, e, h => by cases e
  | .lst _ :: l, ns, vs, e, h => by cases e
theorem boolsOf_rep {K : PySem.W.Frag} {H : Hp} {Z : Addr → Prop} : ∀ {l : List D} {ns : List Bool} {vs : List V}, boolsOf l = some ns → RepDs K H Z 0 l vs [] → vs = ns.map V.bl
  | [], ns, vs, e, h => by cases e; exact h.nil_of
  | .im (.bl i) :: l, ns, vs, e, h => by
    have e : (boolsOf l).map (i :: ·) = some ns := e
    obtain ⟨v, r, e1, h1, h2⟩ := h.one
    cases q : boolsOf l with
    | none => rw [q] at e; cases e
    | some ms =>
      rw [q] at e
      cases e
      rw [e1, bl_of h1, boolsOf_rep q h2]
      rfl
  | .im .non :: l, ns, vs, e, h => by cases e
  | .im (.int _) :: l, ns, vs, e, h => by cases e
  | .im (.str _) :: l, ns, vs, e, h => by cases e
  | .im (.tup _) :: l, ns, vs, e, h => by cases e
  | .im (.fl _) :: l, ns, vs, e, h => by cases e
  | .im (.adr _ _) :: l, ns, vs, e, h => by cases e
  | .tup _ :: l, ns, vs, e, h => by cases e
  | .lst _ :: l, ns, vs, e, h => by cases e
def maxI : List Int → Int
  | [] => 0
  | x :: l => l.foldl max x
def minI : List Int → Int
  | [] => 0
  | x :: l => l.foldl min x
theorem foldl_max_le : ∀ (l : List Int) (x : Int), x ≤ l.foldl max x ∧ (∀ y ∈ l, y ≤ l.foldl max x) ∧ (l.foldl max x = x ∨ l.foldl max x ∈ l)
  | [], x => ⟨Int.le_refl x, (fun y hy => nomatch hy), .inl rfl⟩
  | z :: l, x => by
    obtain ⟨h1, h2, h3⟩ := foldl_max_le l (max x z)
    refine ⟨?_, fun y hy => ?_, ?_⟩
    · exact Int.le_trans (Int.le_max_left x z) h1
    · rcases List.mem_cons.mp hy with e | hy
      · subst e; exact Int.le_trans (Int.le_max_right x y) h1
      · exact h2 y hy
    · rcases h3 with h | h
      · rw [List.foldl_cons, h]
        rcases Int.le_total x z with q | q
        · exact .inr (by rw [Int.max_eq_right q]; exact List.mem_cons_self)
        · exact .inl (Int.max_eq_left q)
      · exact .inr (List.mem_cons_of_mem _ h)
theorem foldl_min_le : ∀ (l : List Int) (x : Int), l.foldl min x ≤ x ∧ (∀ y ∈ l, l.foldl min x ≤ y) ∧ (l.foldl min x = x ∨ l.foldl min x ∈ l)
  | [], x => ⟨Int.le_refl x, (fun y hy => nomatch hy), .inl rfl⟩
  | z :: l, x => by
    obtain ⟨h1, h2, h3⟩ := foldl_min_le l (min x z)
    refine ⟨?_, fun y hy => ?_, ?_⟩
    · exact Int.le_trans h1 (Int.min_le_left x z)
    · rcases List.mem_cons.mp hy with e | hy
      · subst e; exact Int.le_trans h1 (Int.min_le_right x y)
      · exact h2 y hy
    · rcases h3 with h | h
      · rw [List.foldl_cons, h]
        rcases Int.le_total x z with q | q
        · exact .inl (Int.min_eq_left q)
        · exact .inr (by rw [Int.min_eq_right q]; exact List.mem_cons_self)
      · exact .inr (List.mem_cons_of_mem _ h)
theorem maxI_mem {l : List Int} (h : 0 < l.length) : maxI l ∈ l ∧ ∀ y ∈ l, y ≤ maxI l := by
  cases l with
  | nil => cases h
  | cons x l =>
    obtain ⟨h1, h2, h3⟩ := foldl_max_le l x
    refine ⟨?_, fun y hy => ?_⟩
    · rcases h3 with h | h
      · show l.foldl max x ∈ _; rw [h]; exact List.mem_cons_self
      · exact List.mem_cons_of_mem _ h
    · rcases List.mem_cons.mp hy with e | hy
      · subst e; exact h1
      · exact h2 y hy
theorem minI_mem {l : List Int} (h : 0 < l.length) : minI l ∈ l ∧ ∀ y ∈ l, minI l ≤ y := by
  cases l with
  | nil => cases h
  | cons x l =>
    obtain ⟨h1, h2, h3⟩ := foldl_min_le l x
    refine ⟨?_, fun y hy => ?_⟩
    · rcases h3 with h | h
      · show l.foldl min x ∈ _; rw [h]; exact List.mem_cons_self
      · exact List.mem_cons_of_mem _ h
    · rcases List.mem_cons.mp hy with e | hy
      · subst e; exact h1
      · exact h2 y hy
def bMax : D → Option Rs
  | .lst l => (intsOf l).map fun ns => ⟨0 < ns.length, int (maxI ns), 0⟩
  | _ => none
def bMin : D → Option Rs
  | .lst l => (intsOf l).map fun ns => ⟨0 < ns.length, int (minI ns), 0⟩
  | _ => none
def bSum : D → Option Rs
  | .lst l => (intsOf l).map fun ns => ⟨True, int ns.sum, 0⟩
  | _ => none
def bAny : D → Option Rs
  | .lst l => (boolsOf l).map fun bs => ⟨True, bl (bs.any id), 0⟩
  | _ => none
def bAll : D → Option Rs
  | .lst l => (boolsOf l).map fun bs => ⟨True, bl (bs.all id), 0⟩
  | _ => none
def bTuple : D → Option Rs
  | .lst l => some ⟨True, mkTup l, 0⟩
  | d => (items d).map fun l => ⟨True, mkTup l, 0⟩
def bList : D → Option Rs
  | .lst l => some ⟨True, .lst l, 1⟩
  | d => (items d).map fun l => ⟨True, .lst l, 1⟩
theorem one_ok {X : Cx} {f : D → Option Rs} {r : List V → Hp → VK → Prop} (h : ∀ a c x H Zx Q, f a = some c → c.c → RepD X.K H Zx 0 a x [] → ResK X.K H Zx c.d c.n Q → r [x] H Q) : OpNOk X (one f) r := fun as c xs H Zx Q e hc r k => by
  match as, e, r with
  | [a], e, r =>
    obtain ⟨v, r1, e1, h1, h2⟩ := r.one
    rw [h2.nil_of] at e1
    rw [e1]
    exact h a c v H Zx Q e hc h1 k
theorem twoI_ok {X : Cx} {f : Int → Int → Int} {r : List V → Hp → VK → Prop} (h : ∀ i j H Q, Q (.int (f i j)) H → r [.int i, .int j] H Q) : OpNOk X (twoI f) r := fun as c xs H Zx Q e hc r k => by
  match as, e, r with
  | [.im (.int i), .im (.int j)], e, r =>
    cases e
    obtain ⟨v, r1, e1, h1, h2⟩ := r.one
    obtain ⟨w, r2, e2, h3, h4⟩ := h2.one
    rw [h4.nil_of] at e2
    rw [e1, e2, int_of h1, int_of h3]
    exact h i j H Q (resIm k rfl)
section
variable {X : Cx} {W : WX} {pos p : Pos} {e : Expr} {es : List Expr} {ags : List Ag}
theorem ee_len (hg : Gl X "len") (hm : X.mg "len" = none) (ha : EA X W [e] ags) (hx : ags.all Ag.isEx = true := by rfl) (he : starEach [e] X.env = (false, eval e X.env) :: starEach [] X.env := by rfl) (hpl : (backTo pos (starEach [] X.env)).any (·.1) = false := by rfl) :
    EE X W (agM ags) (.Call (.Name "len" p) [e] [] pos) (vOp (one bLen) ags) :=
  ee_callB call_len (one_ok fun a c x H Zx Q e hc h k => by
    unfold bLen at e
    split at e
    · cases e
      obtain ⟨p, vs, e1, h1, r1⟩ := lst_of h
      exact ⟨x, vs.length, rfl, by rw [e1]; exact .inl ⟨vs, .inl (.inl h1), rfl⟩, resIm k (by rw [RepDs.length r1]; rfl)⟩
    · cases e
      have e1 := im_of h
      unfold RepI at e1
      exact ⟨x, _, rfl, by rw [e1]; exact ⟨by rw [sizeLine_eq]; exact hc, rfl⟩, resIm k rfl⟩
    · cases q : items a with
      | none => rw [q] at e; cases e
      | some l =>
        rw [q] at e
        cases e
        obtain ⟨p, vs, e1, h1, r1⟩ := items_rep q h
        exact ⟨x, vs.length, rfl, by rw [e1]; exact .inr ⟨vs, h1, rfl⟩, resIm k (by rw [RepDs.length r1]; rfl)⟩) hg hm PySem.boot_len ha hx (by decide) (by decide) he hpl
theorem ee_abs (hg : Gl X "abs") (hm : X.mg "abs" = none) (ha : EA X W [e] ags) (hx : ags.all Ag.isEx = true := by rfl) (he : starEach [e] X.env = (false, eval e X.env) :: starEach [] X.env := by rfl) (hpl : (backTo pos (starEach [] X.env)).any (·.1) = false := by rfl) :
    EE X W (agM ags) (.Call (.Name "abs" p) [e] [] pos) (vOp (one bAbs) ags) :=
  ee_callB call_abs (one_ok fun a c x H Zx Q e hc h k => by
    unfold bAbs at e
    split at e
    · cases e
      rw [int_of h]
      exact ⟨_, rfl, resIm k rfl⟩
    · cases e) hg hm (by decide +kernel) ha hx (by decide) (by decide) he hpl
theorem ee_int1 (hg : Gl X "int") (hm : X.mg "int" = none) (ha : EA X W [e] ags) (hx : ags.all Ag.isEx = true := by rfl) (he : starEach [e] X.env = (false, eval e X.env) :: starEach [] X.env := by rfl) (hpl : (backTo pos (starEach [] X.env)).any (·.1) = false := by rfl) :
    EE X W (agM ags) (.Call (.Name "int" p) [e] [] pos) (vOp (one bInt) ags) :=
  ee_callTy call_int1 (one_ok fun a c x H Zx Q e hc h k => by
    unfold bInt at e
    split at e
    · cases e
      rw [int_of h]
      exact .inl ⟨_, rfl, resIm k rfl⟩
    · cases e
      rw [bl_of h]
      exact .inr ⟨_, rfl, resIm k rfl⟩
    · cases e) hg hm (by decide +kernel) ha hx (by decide) (by decide) he hpl
theorem ee_max2 {e2 : Expr} (hc : X.calm = true) (hg : Gl X "max") (hm : X.mg "max" = none) (ha : EA X W [e, e2] ags) (hx : ags.all Ag.isEx = true := by rfl) (he : starEach [e, e2] X.env = (false, eval e X.env) :: starEach [e2] X.env := by rfl) (hpl : (backTo pos (starEach [e2] X.env)).any (·.1) = false := by rfl) :
    EE X W (agM ags) (.Call (.Name "max" p) [e, e2] [] pos) (vOp (twoI max) ags) :=
  ee_callB (call_max2 hc) (twoI_ok fun i j H Q q => ⟨i, j, rfl, by
    have : (if j > i then j else i) = max i j := by omega
    rw [this]; exact q⟩) hg hm (by decide +kernel) ha hx (by decide) (by decide) he hpl
theorem ee_min2 {e2 : Expr} (hc : X.calm = true) (hg : Gl X "min") (hm : X.mg "min" = none) (ha : EA X W [e, e2] ags) (hx : ags.all Ag.isEx = true := by rfl) (he : starEach [e, e2] X.env = (false, eval e X.env) :: starEach [e2] X.env := by rfl) (hpl : (backTo pos (starEach [e2] X.env)).any (·.1) = false := by rfl) :
    EE X W (agM ags) (.Call (.Name "min" p) [e, e2] [] pos) (vOp (twoI min) ags) :=
  ee_callB (call_min2 hc) (twoI_ok fun i j H Q q => ⟨i, j, rfl, by
    have : (if j < i then j else i) = min i j := by omega
    rw [this]; exact q⟩) hg hm (by decide +kernel) ha hx (by decide) (by decide) he hpl
theorem ee_max (hc : X.calm = true) (hg : Gl X "max") (hm : X.mg "max" = none) (ha : EA X W [e] ags) (hx : ags.all Ag.isEx = true := by rfl) (he : starEach [e] X.env = (false, eval e X.env) :: starEach [] X.env := by rfl) (hpl : (backTo pos (starEach [] X.env)).any (·.1) = false := by rfl) :
    EE X W (agM ags) (.Call (.Name "max" p) [e] [] pos) (vOp (one bMax) ags) :=
  ee_callB (cr_max hc) (one_ok fun a c x H Zx Q e hc h k => by
    unfold bMax at e
    split at e
    · rename_i l
      cases q : intsOf l with
      | none => rw [q] at e; cases e
      | some ns =>
        rw [q] at e
        cases e
        obtain ⟨p, vs, e1, h1, r1⟩ := lst_of h
        have ev := intsOf_rep q r1
        subst ev
        have hp : 0 < ns.length := hc
        obtain ⟨m1, m2⟩ := maxI_mem hp
        refine ⟨p, ns, by rw [e1], .inl (.inl h1), hp, fun m hm hle => ?_⟩
        have em : m = maxI ns := Int.le_antisymm (m2 m hm) (hle _ m1)
        rw [em]
        exact resIm k rfl
    · cases e) hg hm (by decide +kernel) ha hx (by decide) (by decide) he hpl
theorem ee_min (hc : X.calm = true) (hg : Gl X "min") (hm : X.mg "min" = none) (ha : EA X W [e] ags) (hx : ags.all Ag.isEx = true := by rfl) (he : starEach [e] X.env = (false, eval e X.env) :: starEach [] X.env := by rfl) (hpl : (backTo pos (starEach [] X.env)).any (·.1) = false := by rfl) :
    EE X W (agM ags) (.Call (.Name "min" p) [e] [] pos) (vOp (one bMin) ags) :=
  ee_callB (cr_min hc) (one_ok fun a c x H Zx Q e hc h k => by
    unfold bMin at e
    split at e
    · rename_i l
      cases q : intsOf l with
      | none => rw [q] at e; cases e
      | some ns =>
        rw [q] at e
        cases e
        obtain ⟨p, vs, e1, h1, r1⟩ := lst_of h
        have ev := intsOf_rep q r1
        subst ev
        have hp : 0 < ns.length := hc
        obtain ⟨m1, m2⟩ := minI_mem hp
        refine ⟨p, ns, by rw [e1], .inl (.inl h1), hp, fun m hm hle => ?_⟩
        have em : m = minI ns := Int.le_antisymm (hle _ m1) (m2 m hm)
        rw [em]
        exact resIm k rfl
    · cases e) hg hm (by decide +kernel) ha hx (by decide) (by decide) he hpl
theorem ee_sum (hc : X.calm = true) (hg : Gl X "sum") (hm : X.mg "sum" = none) (ha : EA X W [e] ags) (hx : ags.all Ag.isEx = true := by rfl) (he : starEach [e] X.env = (false, eval e X.env) :: starEach [] X.env := by rfl) (hpl : (backTo pos (starEach [] X.env)).any (·.1) = false := by rfl) :
    EE X W (agM ags) (.Call (.Name "sum" p) [e] [] pos) (vOp (one bSum) ags) :=
  ee_callB (cr_sum hc) (one_ok fun a c x H Zx Q e hc h k => by
    unfold bSum at e
    split at e
    · rename_i l
      cases q : intsOf l with
      | none => rw [q] at e; cases e
      | some ns =>
        rw [q] at e
        cases e
        obtain ⟨p, vs, e1, h1, r1⟩ := lst_of h
        have ev := intsOf_rep q r1
        subst ev
        exact ⟨p, ns, by rw [e1], .inl (.inl h1), resIm k rfl⟩
    · cases e) hg hm (by decide +kernel) ha hx (by decide) (by decide) he hpl
theorem ee_any (hc : X.calm = true) (hg : Gl X "any") (hm : X.mg "any" = none) (ha : EA X W [e] ags) (hx : ags.all Ag.isEx = true := by rfl) (he : starEach [e] X.env = (false, eval e X.env) :: starEach [] X.env := by rfl) (hpl : (backTo pos (starEach [] X.env)).any (·.1) = false := by rfl) :
    EE X W (agM ags) (.Call (.Name "any" p) [e] [] pos) (vOp (one bAny) ags) :=
  ee_callB (cr_any hc) (one_ok fun a c x H Zx Q e hc h k => by
    unfold bAny at e
    split at e
    · rename_i l
      cases q : boolsOf l with
      | none => rw [q] at e; cases e
      | some ns =>
        rw [q] at e
        cases e
        obtain ⟨p, vs, e1, h1, r1⟩ := lst_of h
        have ev := boolsOf_rep q r1
        subst ev
        exact ⟨p, ns, by rw [e1], .inl (.inl h1), resIm k rfl⟩
    · cases e) hg hm (by decide +kernel) ha hx (by decide) (by decide) he hpl
theorem ee_all (hc : X.calm = true) (hg : Gl X "all") (hm : X.mg "all" = none) (ha : EA X W [e] ags) (hx : ags.all Ag.isEx = true := by rfl) (he : starEach [e] X.env = (false, eval e X.env) :: starEach [] X.env := by rfl) (hpl : (backTo pos (starEach [] X.env)).any (·.1) = false := by rfl) :
    EE X W (agM ags) (.Call (.Name "all" p) [e] [] pos) (vOp (one bAll) ags) :=
  ee_callB (cr_all hc) (one_ok fun a c x H Zx Q e hc h k => by
    unfold bAll at e
    split at e
    · rename_i l
      cases q : boolsOf l with
      | none => rw [q] at e; cases e
      | some ns =>
        rw [q] at e
        cases e
        obtain ⟨p, vs, e1, h1, r1⟩ := lst_of h
        have ev := boolsOf_rep q r1
        subst ev
        exact ⟨p, ns, by rw [e1], .inl (.inl h1), resIm k rfl⟩
    · cases e) hg hm (by decide +kernel) ha hx (by decide) (by decide) he hpl
theorem ee_tuple (hg : Gl X "tuple") (hm : X.mg "tuple" = none) (ha : EA X W [e] ags) (hx : ags.all Ag.isEx = true := by rfl) (he : starEach [e] X.env = (false, eval e X.env) :: starEach [] X.env := by rfl) (hpl : (backTo pos (starEach [] X.env)).any (·.1) = false := by rfl) :
    EE X W (agM ags) (.Call (.Name "tuple" p) [e] [] pos) (vOp (one bTuple) ags) :=
  ee_callTy call_tuple_of (one_ok fun a c x H Zx Q e hc h k => by
    unfold bTuple at e
    split at e
    · cases e
      obtain ⟨p, vs, e1, h1, r1⟩ := lst_of h
      exact ⟨p, vs, by rw [e1], .inl ⟨.inl (.inl h1), fun l hl => res_newT k r1 hl⟩⟩
    · cases q : items a with
      | none => rw [q] at e; cases e
      | some l =>
        rw [q] at e
        cases e
        obtain ⟨p, vs, e1, h1, r1⟩ := items_rep q h
        exact ⟨p, vs, by rw [e1], .inr ⟨h1, resOld k (mkTup_rep h1 r1)⟩⟩) hg hm (by decide +kernel) ha hx (by decide) (by decide) he hpl
theorem ee_list (hg : Gl X "list") (hm : X.mg "list" = none) (ha : EA X W [e] ags) (hx : ags.all Ag.isEx = true := by rfl) (he : starEach [e] X.env = (false, eval e X.env) :: starEach [] X.env := by rfl) (hpl : (backTo pos (starEach [] X.env)).any (·.1) = false := by rfl) :
    EE X W (agM ags) (.Call (.Name "list" p) [e] [] pos) (vOp (one bList) ags) :=
  ee_callTy call_list_of (one_ok fun a c x H Zx Q e hc h k => by
    unfold bList at e
    split at e
    · cases e
      obtain ⟨p, vs, e1, h1, r1⟩ := lst_of h
      exact ⟨p, vs, by rw [e1], .inl (.inl (.inl h1)), fun l hl => res_newL k r1 hl⟩
    · cases q : items a with
      | none => rw [q] at e; cases e
      | some l =>
        rw [q] at e
        cases e
        obtain ⟨p, vs, e1, h1, r1⟩ := items_rep q h
        exact ⟨p, vs, by rw [e1], .inr h1, fun l hl => res_newL k r1 hl⟩) hg hm (by decide +kernel) ha hx (by decide) (by decide) he hpl
end
end Kv

namespace Kv
open PySem PySem.Spec L2
open PyProof.Rows hiding St

/-! ### isinstance(x, T), T a built-in type -/
inductive Ty where
  | int | bool | str | list | tuple
def Ty.n : Ty → String
  | .int => "int" | .bool => "bool" | .str => "str" | .list => "list" | .tuple => "tuple"
def isT : Ty → D → Bool
  | .int, .im (.int _) => true
  | .int, .im (.bl _) => true
  | .bool, .im (.bl _) => true
  | .str, .im (.str _) => true
  | .list, .im (.fl _) => true
  | .list, .lst _ => true
  | .tuple, .im (.tup _) => true
  | .tuple, .tup _ => true
  | _, _ => false
def tyN : D → String
  | .im .non => "NoneType"
  | .im (.bl _) => "bool"
  | .im (.int _) => "int"
  | .im (.str _) => "str"
  | .im (.tup _) => "tuple"
  | .im (.fl _) => "list"
  | .im (.adr _ _) => "NoneType"
  | .tup _ => "tuple"
  | .lst _ => "list"
def isN (t : Ty) (s : String) : Bool := t.n == s || (t.n == "int" && s == "bool")
theorem isT_eq (t : Ty) (d : D) : isT t d = isN t (tyN d) := by
  cases t <;> (cases d with
    | im i => cases i <;> rfl
    | tup l => rfl
    | lst l => rfl)
theorem tyN_mem (d : D) : tyN d = "NoneType" ∨ tyN d = "bool" ∨ tyN d = "int" ∨ tyN d = "str" ∨ tyN d = "tuple" ∨ tyN d = "list" := by
  cases d with
  | im i => cases i <;> simp [tyN]
  | tup l => simp [tyN]
  | lst l => simp [tyN]
theorem kitT (K : PySem.W.Frag) (t : Ty) (d : D) : PySem.W.kitOne K (.type (tyN d)) (.type t.n) = some (isT t d) := by
  rw [isT_eq]
  rcases tyN_mem d with h | h | h | h | h | h <;> rw [h] <;> cases t <;> exact kit_ty (by decide +kernel)
def notA : D → Bool
  | .im (.adr _ _) => false
  | _ => true
theorem tyX_rep {K : PySem.W.Frag} {H : Hp} {Z : Addr → Prop} {d : D} {v : V} (na : notA d = true) (h : RepD K H Z 0 d v []) : TyX K H v (.type (tyN d)) := by
  have tup : ∀ {a vs}, v = .ref a → SqT K H a vs → TyX K H v (.type "tuple") := fun {a vs} e h => by
    rw [e]
    rcases h with (h | ⟨o, h⟩) | ⟨o, its, n, h1, h2, _⟩
    · exact .base (.tup h)
    · exact .fTuple h
    · exact .kTuple h1 h2
  cases d with
  | im i =>
    have h := im_of h
    cases i with
    | non => unfold RepI at h; rw [h]; exact .base .non
    | bl b => unfold RepI at h; rw [h]; exact .base (.bl b)
    | int j => unfold RepI at h; rw [h]; exact .base (.int j)
    | str s => unfold RepI at h; rw [h]; exact .base (.str s)
    | tup l => unfold RepI at h; obtain ⟨a, vs, e, h1, _⟩ := h; exact tup e h1
    | fl l =>
      unfold RepI at h
      obtain ⟨a, e, h1⟩ := h
      rw [e]
      rcases h1 with ⟨o, h1⟩ | ⟨o, its, n, h1, h2, _⟩
      · exact .base (.frz h1)
      · exact .kList h1 h2
    | adr a c => cases na
  | tup l => unfold RepD at h; obtain ⟨a, vs, e, h1, _⟩ := h; exact tup e h1
  | lst l =>
    obtain ⟨a, vs, e, h1, _⟩ := lst_of h
    rw [e]
    exact .base (.lst h1)
def oIs (t : Ty) : Op1 := fun d => some ⟨notA d = true, bl (isT t d), 0⟩
section
variable {X : Cx} {W : WX} {pos p p2 : Pos} {e : Expr} {M : List Nat} {m : VE}
theorem ee_isi {x : Str} {t : Ty} (hx : x = Str.ofString t.n) (hg : Gl X "isinstance") (hm : X.mg "isinstance" = none) (hgT : Gl X x) (hmT : X.mg x = none) (hvT : bootBuiltins x = some (.type t.n)) (he : EE X W M e m)
    (hn : x ≠ "__name__" := by decide) (hdT : (x == ("__debug__" : Str)) = false := by decide)
    (hs : starEach [e, .Name x p2] X.env = (false, eval e X.env) :: starEach [.Name x p2] X.env := by rfl) (hs2 : starEach [.Name x p2] X.env = (false, eval (.Name x p2) X.env) :: starEach [] X.env := by rfl) (hpl : (backTo pos (starEach [.Name x p2] X.env)).any (·.1) = false := by rfl) :
    EE X W M (.Call (.Name "isinstance" p) [e, .Name x p2] [] pos) (vUn (oIs t) m) :=
  peImp (pe_callB call_isi hg hm (by decide +kernel) (pa_cons he (pa_cons (pe_bltn (v := .ty t.n) hgT hmT hvT rfl hn hdT) pa_nil hs2) hs) (by decide) (by decide) hs hpl) fun σ H Q h =>
    un_ok (r := fun x H Q => ∃ (y : V) (c : V) (t' u : Value) (b : Bool), [x, .ty t.n] = [y, c] ∧ ClsV c u ∧ TyX X.K H y t' ∧ PySem.W.kitOne X.K t' u = some b ∧ Q (.bl b) H) (fun d c x H Zx Q e hc h k => by
      cases e
      exact ⟨x, _, _, _, isT t d, rfl, .ty _, tyX_rep hc h, kitT _ t d, resIm k rfl⟩) σ H Q h
end

end Kv

namespace Kv
open PySem PySem.Spec L2
open PyProof.Rows hiding St
section
variable {X : Cx} {W : WX} {M M' : List Nat}
theorem EE.as {e : Expr} {m : VE} (M : List Nat) (h : EE X W M e m) (q : M = M' := by rfl) : EE X W M' e m := q ▸ h
theorem ET.as {e : Expr} {m : VT} (M : List Nat) (h : ET X W M e m) (q : M = M' := by rfl) : ET X W M' e m := q ▸ h
theorem EW.as {e : Expr} {m : VT} (M : List Nat) (h : EW X W M e m) (q : M = M' := by rfl) : EW X W M' e m := q ▸ h
theorem EI.as {e tg : Expr} {m : VI} (M : List Nat) (h : EI X W M tg e m) (q : M = M' := by rfl) : EI X W M' tg e m := q ▸ h
theorem SS.as {st : Stmt} {m : VS} (U : List Nat) (h : SS X W U st m) (q : ∀ j ∈ U, j ∈ M' := by decide) : SS X W M' st m := psImp h fun D σ H ⟨env, Z, As, P, S, q', bk⟩ => ⟨env, Z, As, P, S, q', bk.mono q⟩
theorem SSs.as {st : List Stmt} {m : VS} (U : List Nat) (h : SSs X W U st m) (q : ∀ j ∈ U, j ∈ M' := by decide) : SSs X W M' st m := h.mono q
theorem EI.mono {e tg : Expr} {m : VI} (h : EI X W M tg e m) (hm : ∀ j ∈ M, j ∈ M') : EI X W M' tg e m := piImp h fun σ H R ⟨env, Z, As, Qn, Qx, S, q, hn, hx⟩ => ⟨env, Z, As, Qn, Qx, S, q, fun ds env' H' Z' As' J a st S' wk => hn ds env' H' Z' As' J a (st.mono hm) S' wk, fun x env' H' Z' As' cls d q s a o => hx x env' H' Z' As' cls d q (s.mono hm) a o⟩
theorem passW0 (σ : St) : PassesAt (L2N.CX X.prog X.w) X σ (WE W0 σ) := fun _ _ _ _ _ _ c => by
  obtain ⟨_, _, _, _, _, _, _, _, _, _, _, _, h⟩ := c
  exact h.elim
theorem ss_n {U : List Nat} : SSs X W U [] vSkip := ss_nil
theorem ss_c {U : List Nat} {st : Stmt} {rest : List Stmt} {s1 s2 : VS} (h1 : SS X W U st s1) (h2 : SSs X W U rest s2) : SSs X W U (st :: rest) (vSeq s1 s2) := (ss_cons h1 h2).mono fun j h => (List.mem_append.mp h).elim id id
theorem ss_i {U : List Nat} {c : Expr} {a b : List Stmt} {t : VT} {s1 s2 : VS} {pos : Pos} (hc : ET X W M c t) (ha : SSs X W U a s1) (hb : SSs X W U b s2) : SS X W U (.If c a b pos) (vIf t s1 s2) := SS.as (U ++ U) (ss_if hc ha hb) fun j h => (List.mem_append.mp h).elim id id
theorem ss_f {U : List Nat} {tg iter : Expr} {T : Tg} {mi : VI} {body : List Stmt} {b : VS} {pos : Pos} (hp : PassesOwn (model X.prog X.w) X.A X.env X.xe) (hc : X.calm = true) (hi : EI X W M tg iter mi) (hg : PG X tg (gT X.K T)) (hb : SSs X W U body b) (hT : ∀ j ∈ T.slots, j ∈ U)
    (hs : ∀ x, foldedSetIterable iter X.env x = pure x := by intro _; rfl) : SS X W U (.For tg iter body [] pos) (vFor T mi b) := SS.as (T.slots ++ U) (ss_for hp hc hi hg hb hs) fun j h => (List.mem_append.mp h).elim (hT j) id
def blkB (N : List Str) (sc scope : Scope) (own : List (Str × Nat)) : Bool :=
  scope.kind == .function && scope.names.all (fun y => scope.names.lookup y.1 == some y.2) && own.all (fun p => N[p.2]? == some p.1)
    && scope.names.all (fun y => y.2 != .free || (sc.names.lookup y.1 == some .cell || sc.names.lookup y.1 == some .free))
    && scope.names.all fun y => !(y.2 == .local || y.2 == .cell) || ((own.map (·.1)).contains y.1 || !N.contains y.1)
theorem BlkOk.of {N : List Str} {sc scope : Scope} {own : List (Str × Nat)} (h : blkB N sc scope own = true) : BlkOk N sc scope own := by
  unfold blkB at h
  simp only [Bool.and_eq_true, List.all_eq_true, beq_iff_eq, Bool.or_eq_true, bne_iff_ne, Bool.not_eq_true', List.contains_iff_mem] at h
  obtain ⟨⟨⟨⟨h1, h2⟩, h3⟩, h4⟩, h5⟩ := h
  refine ⟨h1, h2, h3, fun y hy e => (h4 y hy).resolve_left fun z => z e, fun y hy e => ?_⟩
  rcases h5 y hy with z | z | z
  · rcases e with e | e <;> rw [e] at z <;> cases z
  · exact .inl z
  · right
    intro c
    rw [List.contains_iff_mem.mpr c] at z
    cases z
theorem ioU {io U : List Nat} (h : (U.all fun i => match io[i]? with
  | some (_ + 1) => false
  | _ => true) = true) : ∀ i n, io[i]? = some (n + 1) → i ∉ U := fun i n e hi => by
  have := List.all_eq_true.mp h i hi
  rw [e] at this
  cases this
theorem ee_idx {a b : Expr} {pos : Pos} {M1 M2 : List Nat} {m1 m2 : VE} (ha : EE X W M1 a m1) (hb : EE X W M2 b m2) (hs : PlainIx b := by intro _ _; rfl) : EE X W (M1 ++ M2) (.Subscript a b pos) (vBin oIx M2 m1 m2) := ee_ix ix_seq oIx_ok ha hb hs
end
end Kv

namespace Kv
open PySem PySem.Spec L2
open PyProof.Rows hiding St
/-! ### the law's end -/
theorem fnOk0 {P : Program} {w : World} {K : PySem.W.Frag} {mg : Str → Option Value} {base : Heap} {k : Nat} {f : Addr} {fd : FuncData} {ps : List Str} {sp : Sp} (F : FnOk P w K mg base (L2N.CX P w) k f fd ps sp) :
    FnOk P w K mg base CX0 k f fd ps fun vs H Q _ => sp vs H Q E0 :=
  ⟨fun vs H Q E h => F.len vs H Q _ h, fun A outer s H args us vs Q E hr he hb hv hs => codeAny_mono (F.run A outer s H args us vs Q E0 hr he hb hv hs) fun r s' h => by
    unfold CR at h ⊢
    split at h
    · exact h
    · exact h
    · obtain ⟨_, _, _, _, _, _, _, _, _, _, _, _, h⟩ := h
      exact h.elim⟩
theorem law_sp {K : PySem.W.Frag} {run : VF} {H : Hp} {a : Addr} {ns : List Int} (h : run [.im (.fl ns)] (fun t _ => t.d = .im (.bl true)) (fun _ _ => False)) (hO : Only H) (hS : SqL K H a (ns.map V.int)) :
    spOf K [0] run [.ref a] H (fun v _ => v = .bl true) E0 := by
  have e0 : ∀ i d n, (argE [D.im (.fl ns)] [0])[i]? = some (some (d, n)) → i = 0 ∧ d = .im (.fl ns) ∧ n = 0 := fun i d n e => by
    cases i with
    | zero =>
      simp [argE] at e
      exact ⟨rfl, e.1.symm, e.2.symm⟩
    | succ i => simp [argE] at e
  refine ⟨[.im (.fl ns)], fun _ => False, fun _ => [], _, _, rfl, rfl, ⟨rfl, fun i d n e => ?_, fun _ => .nil, fun _ _ _ a ha => (nomatch ha), fun _ a ha => (nomatch ha), fun _ a ha => (nomatch ha), fun a z => z.elim⟩, fun _ _ => rfl, h, fun t outs v H' Z' As' B q ex T n => ?_, fun x outs cls d H' Z' As' q => q.elim⟩
  · obtain ⟨rfl, rfl, rfl⟩ := e0 i d n e
    refine ⟨.ref a, rfl, ?_⟩
    unfold RepD
    refine ⟨?_, rfl⟩
    unfold RepI
    refine ⟨a, rfl, ?_⟩
    rcases hS with (h | ⟨o, h⟩) | h
    · rcases hO a with e | ⟨o, xs, e⟩
      · rw [e] at h; cases h
      · rw [e] at h; cases h
    · exact .inl ⟨o, h⟩
    · exact .inr h
  · have r := T.rep
    rw [q] at r
    unfold RepD at r
    exact r.1
end Kv

namespace Kv
open PySem PySem.Spec L2
open PyProof.Rows hiding St
/-! ### evaluating a reading, step by step: rows for simp; stops at an open test, a call, a loop -/
/-- holds back: what a tag is of is left as it stands -/
structure Tag {α : Sort u} (a : α) : Type where
  mk ::
def IfK (b : Bool) (A B : Prop) (_ : Tag A) (_ : Tag B) : Prop := if b = true then A else B
section
variable {A B : Prop} {tA : Tag A} {tB : Tag B}
theorem e_ifT : IfK true A B tA tB = A := if_pos rfl
theorem e_ifF : IfK false A B tA tB = B := if_neg Bool.false_ne_true
theorem IfK.dec {p : Prop} [Decidable p] (h1 : p → A) (h2 : ¬ p → B) : IfK (decide p) A B tA tB := by
  unfold IfK
  by_cases h : p
  · rw [if_pos (decide_eq_true h)]; exact h1 h
  · rw [if_neg (by simp [h])]; exact h2 h
theorem IfK.ndec {p : Prop} [Decidable p] (h1 : ¬ p → A) (h2 : p → B) : IfK (!decide p) A B tA tB := by
  unfold IfK
  by_cases h : p
  · rw [if_neg (by simp [h])]; exact h2 h
  · rw [if_pos (by simp [h])]; exact h1 h
theorem IfK.bool {b : Bool} (h1 : b = true → A) (h2 : b = false → B) : IfK b A B tA tB := by
  cases b
  · exact h2 rfl
  · exact h1 rfl
end
def CallK (run : VF) (ds : List D) (Kn : Tv → List D → Prop) (Kx : Xd → List D → Prop) (_ : Tag run) (_ : Tag Kn) (_ : Tag Kx) : Prop := run ds Kn Kx
def forK (T : Tg) (b : VS) (ds : List D) (env : En) (P : VD) (_ : Tag T) (_ : Tag b) (_ : Tag P) : Prop := forV T b ds env P
def lcK (vs : List Nat) (T : Tg) (tt : VT) (me : VE) (ds acc : List D) (env : En) (k : List D → En → Prop) (_ : Tag vs) (_ : Tag T) (_ : Tag tt) (_ : Tag me) (_ : Tag k) : Prop := lcV vs T tt me ds acc env k
def whK (t : VT) (b : VS) (env : En) (P : VD) (_ : Tag t) (_ : Tag b) (_ : Tag P) : Prop := vWhile t b env P
def atK (env : En) (j : Nat) (k : D → Nat → Prop) (_ : Tag k) : Prop := at_ env j k
def finK (r : Option Rs) (s : List Nat) (env : En) (Qn : Tv → En → Prop) (_ : Tag Qn) : Prop := fin r s env Qn
def nxK (env : En) (k : En → Prop) (_ : Tag k) : Prop := k env
def ownK (env : En) (j : Nat) (k : List D → Prop) (_ : Tag k) : Prop := ownL env j k
def finMK (r : Option (Prop × List D)) (k : List D → Prop) (_ : Tag k) : Prop := finM r k
def argK (ags : List Ag) (ts : List Tv) (io : List Nat) (env : En) (k : List D → Prop) (_ : Tag k) : Prop := argD ags ts io env k
def bndK (T : Tg) (d : D) (env : En) (k : En → Prop) (_ : Tag k) : Prop := bindT T d env k
def bdsK (T : List Tg) (d : List D) (env : En) (k : En → Prop) (_ : Tag k) : Prop := bindTs T d env k
def outK (io : List Nat) (ds : List D) (env : En) (k : List D → Prop) (_ : Tag k) : Prop := outV io ds env k
section
variable {env : En} {Qn : Tv → En → Prop} {Qx : Xd → En → Prop} {P : VD} {Qb : Bool → En → Prop} {QI : List D → En → Prop} {o : Option (D × Nat)} {d : D} {n j : Nat} {k : D → Nat → Prop} {s : List Nat}
-- slots
theorem e_at0 {t : Tag k} : atK (some (d, n) :: env) 0 k t = k d n := id rfl
theorem e_atS {t : Tag k} : atK (o :: env) (j + 1) k t = atK env j k ⟨⟩ := id rfl
theorem e_nx {k : En → Prop} {t : Tag k} : nxK (o :: env) k t = k (o :: env) := id rfl
theorem e_vN : vN j env Qn Qx = atK env j (fun d n => Qn (rdN d n j) env) ⟨⟩ := id rfl
theorem e_vC {i : I} : vC i env Qn Qx = Qn ⟨.im i, 0, []⟩ env := id rfl
theorem e_frzN : frz [] env = env := id rfl
theorem e_frzC : frz (j :: s) env = frz s (frz1 j env) := id rfl
theorem e_frz10 : frz1 0 (some (d, n) :: env) = some (d, 0) :: env := id rfl
theorem e_frz1N : frz1 0 (none :: env) = none :: env := id rfl
theorem e_frz1S : frz1 (j + 1) (o :: env) = o :: frz1 j env := by
  unfold frz1
  rw [List.getElem?_cons_succ]
  cases env[j]? with
  | none => rfl
  | some x => cases x <;> rfl
theorem e_asg {i : Nat} {t : Tv} : asg env i t = (frz t.s env).set i (some (t.d, t.n)) := id rfl
theorem e_set0 {o' : Option (D × Nat)} : (o :: env).set 0 o' = o' :: env := id rfl
theorem e_setS {o' : Option (D × Nat)} : (o :: env).set (j + 1) o' = o :: env.set j o' := id rfl
theorem e_wipeN : wipeE [] env = env := id rfl
theorem e_wipeC : wipeE (j :: s) env = (wipeE s env).set j none := id rfl
theorem e_resN {e : En} : resE [] env e = e := id rfl
theorem e_resC {e : En} : resE (j :: s) env e = (resE s env e).set j (env.getD j none) := id rfl
theorem e_gD0 : (o :: env).getD 0 none = o := id rfl
theorem e_gDS : (o :: env).getD (j + 1) none = env.getD j none := id rfl
theorem e_lowN : lowE [] env = True := id rfl
def low1 (o : Option (Option (D × Nat))) : Prop := match o with
  | some (some (_, n)) => n = 0
  | _ => True
theorem e_lowC : lowE (j :: s) env = (low1 env[j]? ∧ lowE s env) := id rfl
theorem e_low1N : low1 (some none) = True := id rfl
theorem e_low1S : low1 (some (some (d, n))) = (n = 0) := id rfl
theorem e_gX0 : (o :: env)[0]? = some o := id rfl
theorem e_gXS : (o :: env)[j + 1]? = env[j]? := id rfl
-- operations
theorem e_fin {r : Rs} {t : Tag Qn} : finK (some r) s env Qn t = (r.c ∧ Qn (res (r.d, r.n) s) env) := id rfl
theorem e_vUn {op : Op1} {m : VE} : vUn op m env Qn Qx = m env (fun a env1 => finK (op a.d) a.s env1 Qn ⟨⟩) Qx := id rfl
theorem e_vBin {op : Op2} {M2 : List Nat} {m1 m2 : VE} : vBin op M2 m1 m2 env Qn Qx = m1 env (fun a env1 => m2 env1 (fun b env2 => Apart a M2 ∧ finK (op a.d b.d) (a.s ++ b.s) env2 Qn ⟨⟩) Qx) Qx := id rfl
theorem e_vOp {op : OpN} {ags : List Ag} : vOp op ags env Qn Qx = vAs ags env (fun ts env1 => finK (op (ts.map (·.d))) (ts.flatMap (·.s)) env1 Qn ⟨⟩) Qx := id rfl
theorem e_apN {t : Tv} : Apart t [] = True := eq_true fun _ _ => List.not_mem_nil
theorem e_apI {M : List Nat} : Apart ⟨d, n, []⟩ M = True := eq_true fun _ h => nomatch h
theorem e_asN {Qa : List Tv → En → Prop} : vAs [] env Qa Qx = Qa [] env := id rfl
theorem e_asE {Qa : List Tv → En → Prop} {m : VE} {M : List Nat} {r : List Ag} : vAs (.ex m M :: r) env Qa Qx = m env (fun a env1 => vAs r env1 (fun ts env2 => Apart a (agM r) ∧ Qa (a :: ts) env2) Qx) Qx := id rfl
theorem e_asI {Qa : List Tv → En → Prop} {r : List Ag} : vAs (.io j :: r) env Qa Qx = atK env j (fun _ _ => vAs r env (fun ts env2 => Qa (⟨.im .non, 0, []⟩ :: ts) env2) Qx) ⟨⟩ := id rfl
-- tests
def tvK (o : Option Bool) (env : En) (Qb : Bool → En → Prop) (_ : Tag Qb) : Prop := match o with
  | some b => Qb b env
  | none => False
theorem e_tv {tr : D → Option Bool} {m : VE} : vTv tr m env Qb Qx = m env (fun a env1 => tvK (tr a.d) env1 Qb ⟨⟩) Qx := id rfl
theorem e_tvK {b : Bool} {t : Tag Qb} : tvK (some b) env Qb t = Qb b env := id rfl
theorem e_trB {b : Bool} : trB (.im (.bl b)) = some b := id rfl
theorem e_truB {b : Bool} : tru (.im (.bl b)) = some b := id rfl
theorem e_truI {i : Int} : tru (.im (.int i)) = some (i != 0) := id rfl
theorem e_andT {t u : VT} : vAndT t u env Qb Qx = t env (fun b env1 => IfK b (u env1 Qb Qx) (Qb false env1) ⟨⟩ ⟨⟩) Qx := id rfl
theorem e_orT {t u : VT} : vOrT t u env Qb Qx = t env (fun b env1 => IfK b (Qb true env1) (u env1 Qb Qx) ⟨⟩ ⟨⟩) Qx := id rfl
theorem e_notT {t : VT} : vNotT t env Qb Qx = t env (fun b env1 => Qb (!b) env1) Qx := id rfl
theorem e_ifE {t : VT} {m1 m2 : VE} : vIfE t m1 m2 env Qn Qx = t env (fun b env1 => IfK b (m1 env1 Qn Qx) (m2 env1 Qn Qx) ⟨⟩ ⟨⟩) Qx := id rfl
def bvK (d : D) (Kb : Bool → Prop) (_ : Tag Kb) : Prop := match d with
  | .im (.bl c) => Kb c
  | _ => False
theorem e_bvK {b : Bool} {Kb : Bool → Prop} {t : Tag Kb} : bvK (.im (.bl b)) Kb t = Kb b := id rfl
theorem e_andV {m1 m2 : VE} : vAndV m1 m2 env Qn Qx = m1 env (fun a env1 => bvK a.d (fun c => IfK c (m2 env1 Qn Qx) (Qn ⟨.im (.bl false), 0, []⟩ env1) ⟨⟩ ⟨⟩) ⟨⟩) Qx := id rfl
theorem e_orV {m1 m2 : VE} : vOrV m1 m2 env Qn Qx = m1 env (fun a env1 => bvK a.d (fun c => IfK c (Qn ⟨.im (.bl true), 0, []⟩ env1) (m2 env1 Qn Qx) ⟨⟩ ⟨⟩) ⟨⟩) Qx := id rfl
theorem e_yes : vYes env Qb Qx = Qb true env := id rfl
-- statements
theorem e_skip : vSkip env P = P.nx env := id rfl
theorem e_seq {s1 s2 : VS} : vSeq s1 s2 env P = s1 env { P with nx := fun env' => s2 env' P } := id rfl
def vJoin (s1 s2 : VS) : VS := vSeq s1 s2
theorem cut {s1 s2 : VS} (Mid : En → Prop) (h1 : ∀ K : En → Prop, (∀ e, Mid e → K e) → s1 env { P with nx := K }) (h2 : ∀ e, Mid e → s2 e P) : vJoin s1 s2 env P := h1 (fun e => s2 e P) h2
theorem nocut {s1 s2 : VS} (h : vSeq s1 s2 env P) : vJoin s1 s2 env P := h
theorem e_brk : vBreak env P = P.bk env := id rfl
theorem e_cont : vCont env P = P.ct env := id rfl
theorem e_drop {m : VE} : vDrop m env P = m env (fun _ env1 => P.nx env1) P.xc := id rfl
theorem e_ret {m : VE} : vRet m env P = m env P.rt P.xc := id rfl
theorem e_retN : vRetN env P = P.rt ⟨.im .non, 0, []⟩ env := id rfl
theorem e_retV : vRetV j env P = atK env j (fun d n => nxK (env.set j none) (P.rt ⟨d, n, []⟩) ⟨⟩) ⟨⟩ := id rfl
theorem e_if {t : VT} {s1 s2 : VS} : vIf t s1 s2 env P = t env (fun b env1 => IfK b (s1 env1 P) (s2 env1 P) ⟨⟩ ⟨⟩) P.xc := id rfl
theorem e_set {i : Nat} {m : VE} : vSet i m env P = m env (fun t env1 => nxK (asg env1 i t) P.nx ⟨⟩) P.xc := id rfl
theorem e_for {T : Tg} {mi : VI} {b : VS} : vFor T mi b env P = mi env (fun ds env1 => forK T b ds env1 P ⟨⟩ ⟨⟩ ⟨⟩) P.xc := id rfl
theorem e_own0 {l : List D} {k : List D → Prop} {t : Tag k} : ownK (some (.lst l, 1) :: env) 0 k t = k l := id rfl
theorem e_ownS {k : List D → Prop} {t : Tag k} : ownK (o :: env) (j + 1) k t = ownK env j k ⟨⟩ := id rfl
def sixK (ti : D) (l : List D) (d : D) (k : List D → Prop) (_ : Tag k) : Prop := match ti with
  | .im (.int i) => (match setI l i d with
    | some l' => k l'
    | none => False)
  | _ => False
def olK (o : Option (List D)) (k : List D → Prop) (_ : Tag k) : Prop := match o with
  | some l => k l
  | none => False
theorem e_olK {l : List D} {k : List D → Prop} {t : Tag k} : olK (some l) k t = k l := id rfl
theorem e_sixK {i : Int} {l : List D} {k : List D → Prop} {t : Tag k} : sixK (.im (.int i)) l d k t = olK (setI l i d) k ⟨⟩ := by
  unfold sixK olK
  rfl
theorem e_setIx {me mi : VE} {Mi : List Nat} : vSetIx j me Mi mi env P = me env (fun t env1 => ownK env1 j (fun _ => mi env1 (fun ti env2 => Apart t Mi ∧ ownK env2 j (fun l => j ∉ t.s ∧ sixK ti.d l t.d (fun l' => nxK ((frz t.s env2).set j (some (.lst l', 1))) P.nx ⟨⟩) ⟨⟩) ⟨⟩) P.xc) ⟨⟩) P.xc := id rfl
theorem e_mut {op : OpM} {ags : List Ag} : vMut j op ags env P = ownK env j (fun _ => vAs ags env (fun ts env1 => ownK env1 j (fun l => j ∉ ts.flatMap (·.s) ∧ finMK (op l (ts.map (·.d))) (fun l' => nxK ((frz (ts.flatMap (·.s)) env1).set j (some (.lst l', 1))) P.nx ⟨⟩) ⟨⟩) ⟨⟩) P.xc) ⟨⟩ := id rfl
theorem e_finM {c : Prop × List D} {k : List D → Prop} {t : Tag k} : finMK (some c) k t = (c.1 ∧ k c.2) := id rfl
theorem e_app {l : List D} : mApp l [d] = some (l.length < 16777216, l ++ [d]) := id rfl
-- calls
theorem e_call {run : VF} {io : List Nat} {ags : List Ag} : vCall run io ags env Qn Qx = vAs ags env (fun ts env1 =>
  ((∀ j ∈ ts.flatMap (·.s), j ∉ ioS ags) ∧ (ioS ags).Nodup) ∧ argK ags ts io env1 (fun ds =>
    CallK run ds (fun t outs => (ts.flatMap (·.s) = [] ∨ outsClean io outs = true) ∧ nxK (setO ags outs env1) (Qn (res (t.d, t.n) ((if clean t.n t.d = true then [] else ts.flatMap (·.s)) ++ t.s.flatMap (slotOf ags)))) ⟨⟩)
      (fun x outs => (ts.flatMap (·.s) = [] ∨ outsClean io outs = true) ∧ nxK (setO ags outs env1) (Qx x) ⟨⟩) ⟨⟩ ⟨⟩ ⟨⟩) ⟨⟩) Qx := id rfl
theorem e_argN {env : En} {k : List D → Prop} {t : Tag k} : argK [] [] [] env k t = k [] := propext ⟨fun h => h.2, fun h => ⟨rfl, h⟩⟩
theorem e_argE {m : VE} {M : List Nat} {r : List Ag} {t : Tv} {ts : List Tv} {io : List Nat} {k : List D → Prop} {tt : Tag k} : argK (.ex m M :: r) (t :: ts) (0 :: io) env k tt = argK r ts io env (fun ds => k (t.d :: ds)) ⟨⟩ := id rfl
theorem e_argI {r : List Ag} {t : Tv} {ts : List Tv} {io : List Nat} {k : List D → Prop} {tt : Tag k} : argK (.io j :: r) (t :: ts) ((n + 1) :: io) env k tt = atK env j (fun d n' => n' = n + 1 ∧ argK r ts io env (fun ds => k (d :: ds)) ⟨⟩) ⟨⟩ := id rfl
theorem e_setON {os : List D} : setO [] os env = env := by unfold setO; rfl
theorem e_setOE {m : VE} {M : List Nat} {r : List Ag} {d : D} {os : List D} : setO (.ex m M :: r) (d :: os) env = setO r os env := id rfl
theorem e_setOI {r : List Ag} {d : D} {os : List D} : setO (.io j :: r) (d :: os) env = setO r os (put1 env j d) := id rfl
theorem e_put0 {d' : D} : put1 (some (d, n) :: env) 0 d' = some (d', n) :: env := id rfl
theorem e_putS {d' : D} : put1 (o :: env) (j + 1) d' = o :: put1 env j d' := by
  unfold put1
  rw [List.getElem?_cons_succ]
  cases env[j]? with
  | none => rfl
  | some x => cases x <;> rfl
theorem e_memN {p : Nat → Prop} : (∀ j ∈ ([] : List Nat), p j) = True := eq_true fun _ h => nomatch h
theorem e_niN {j : Nat} : (j ∉ ([] : List Nat)) = True := eq_true fun h => nomatch h
theorem e_ndN : ([] : List Nat).Nodup = True := eq_true .nil
theorem e_nd1 {j : Nat} : [j].Nodup = True := eq_true (by simp)
theorem e_ioN : ioS [] = [] := id rfl
theorem e_ioE {m : VE} {M : List Nat} {r : List Ag} : ioS (.ex m M :: r) = ioS r := id rfl
theorem e_ioI {r : List Ag} : ioS (.io j :: r) = j :: ioS r := id rfl
-- a def's start and end
theorem e_run {io : List Nat} {m : VS} {ds : List D} {Rn : Tv → List D → Prop} {Rx : Xd → List D → Prop} : runOf n io m ds Rn Rx = nxK (argE ds io ++ List.replicate (n - io.length) none) (fun env => m env
  ⟨fun e => outK io ds e (fun o => Rn ⟨.im .non, 0, []⟩ o) ⟨⟩, fun t e => outK io ds e (fun o => Rn ⟨t.d, t.n, t.s.filter (isIo io)⟩ o) ⟨⟩, fun _ => False, fun _ => False, fun x e => outK io ds e (fun o => Rx x o) ⟨⟩⟩) ⟨⟩ := id rfl
theorem e_outN {ds : List D} {k : List D → Prop} {t : Tag k} : outK [] ds env k t = k [] := id rfl
theorem e_out0 {io : List Nat} {ds : List D} {k : List D → Prop} {t : Tag k} : outK (0 :: io) (d :: ds) (o :: env) k t = outK io ds env (fun o => k (d :: o)) ⟨⟩ := id rfl
theorem e_out1 {io : List Nat} {d0 : D} {ds : List D} {n' : Nat} {k : List D → Prop} {t : Tag k} : outK ((n + 1) :: io) (d0 :: ds) (some (d, n') :: env) k t = (n' = n + 1 ∧ outK io ds env (fun o => k (d :: o)) ⟨⟩) := id rfl
theorem e_aeN {io : List Nat} : argE [] io = [] := id rfl
theorem e_aeC {io : List Nat} {ds : List D} : argE (d :: ds) (n :: io) = some (d, n) :: argE ds io := id rfl
-- values
variable {i i' : Int} {b : Bool}
theorem e_add : oAdd (.im (.int i)) (.im (.int i')) = some ⟨True, int (i + i'), 0⟩ := id rfl
theorem e_sub : oSub (.im (.int i)) (.im (.int i')) = some ⟨True, int (i - i'), 0⟩ := id rfl
theorem e_mul : oMul (.im (.int i)) (.im (.int i')) = some ⟨MulC i i', int (i * i'), 0⟩ := id rfl
theorem e_div : oDiv (.im (.int i)) (.im (.int i')) = some ⟨0 < i' ∧ i'.natAbs.log2 < 9000, int (i / i'), 0⟩ := id rfl
theorem e_mod : oMod (.im (.int i)) (.im (.int i')) = some ⟨0 < i', int (i % i'), 0⟩ := id rfl
theorem e_pow : oPow (.im (.int i)) (.im (.int i')) = some ⟨0 ≤ i' ∧ i' ≤ 1000000 ∧ i.natAbs < 2 ^ 64, int (i ^ i'.toNat), 0⟩ := id rfl
theorem e_neg : oNeg (.im (.int i)) = some ⟨True, int (-i), 0⟩ := id rfl
theorem e_lt : oLt (.im (.int i)) (.im (.int i')) = some ⟨True, bl (decide (i < i')), 0⟩ := id rfl
theorem e_le : oLe (.im (.int i)) (.im (.int i')) = some ⟨True, bl (decide (i ≤ i')), 0⟩ := id rfl
theorem e_gt : oGt (.im (.int i)) (.im (.int i')) = some ⟨True, bl (decide (i' < i)), 0⟩ := id rfl
theorem e_ge : oGe (.im (.int i)) (.im (.int i')) = some ⟨True, bl (decide (i' ≤ i)), 0⟩ := id rfl
theorem e_eq : oEq (.im (.int i)) (.im (.int i')) = some ⟨True, bl (decide (i = i')), 0⟩ := id rfl
theorem e_ne : oNe (.im (.int i)) (.im (.int i')) = some ⟨True, bl (!decide (i = i')), 0⟩ := id rfl
theorem e_not : oNot (.im (.bl b)) = some ⟨True, bl (!b), 0⟩ := id rfl
theorem e_is {t : Ty} : oIs t d = some ⟨notA d = true, bl (isT t d), 0⟩ := id rfl
theorem e_nA1 : notA (.im .non) = true := id rfl
theorem e_nA2 {b : Bool} : notA (.im (.bl b)) = true := id rfl
theorem e_nA3 {i : Int} : notA (.im (.int i)) = true := id rfl
theorem e_nA4 {s : Str} : notA (.im (.str s)) = true := id rfl
theorem e_nA5 {l : List I} : notA (.im (.tup l)) = true := id rfl
theorem e_nA6 {l : List Int} : notA (.im (.fl l)) = true := id rfl
theorem e_nA7 {l : List D} : notA (.tup l) = true := id rfl
theorem e_nA8 {l : List D} : notA (.lst l) = true := id rfl
theorem e_isN : oIsN d = some ⟨True, bl (isNon d), 0⟩ := id rfl
theorem e_notN : oNotN d = some ⟨True, bl (!isNon d), 0⟩ := id rfl
theorem e_ixL {l : List D} : oIx (.lst l) (.im (.int i)) = (atI l i).map fun d => ⟨True, d, 0⟩ := id rfl
theorem e_ixT {l : List I} : oIx (.im (.tup l)) (.im (.int i)) = (atI (l.map D.im) i).map fun d => ⟨True, d, 0⟩ := id rfl
theorem e_ixU {l : List D} : oIx (.tup l) (.im (.int i)) = (atI l i).map fun d => ⟨True, d, 0⟩ := id rfl
theorem e_tup {l : List D} : oTup l = some ⟨l.length ≤ 16777216, mkTup l, 0⟩ := id rfl
theorem e_lst {l : List D} : oLst l = some ⟨l.length ≤ 16777216, .lst l, 1⟩ := id rfl
theorem e_one {f : D → Option Rs} : one f [d] = f d := id rfl
theorem e_two {f : Int → Int → Int} : twoI f [.im (.int i), .im (.int i')] = some ⟨True, int (f i i'), 0⟩ := id rfl
theorem e_mapII {l : List Int} : (l.map I.int).map D.im = l.map fun i => .im (.int i) := by rw [List.map_map]; rfl
theorem e_mapIf {α : Type} {l : List α} {f : α → I} : (l.map f).map D.im = l.map fun i => .im (f i) := by rw [List.map_map]; rfl
theorem e_mk0 : mkTup [] = .im (.tup []) := id rfl
variable {b0 b1 b2 b3 : I}
theorem e_mk1 : mkTup [.im b0] = .im (.tup [b0]) := id rfl
theorem e_mk2 : mkTup [.im b0, .im b1] = .im (.tup [b0, b1]) := id rfl
theorem e_mk3 : mkTup [.im b0, .im b1, .im b2] = .im (.tup [b0, b1, b2]) := id rfl
theorem e_mk4 : mkTup [.im b0, .im b1, .im b2, .im b3] = .im (.tup [b0, b1, b2, b3]) := id rfl
theorem e_mkM {α : Type} {l : List α} {f : α → I} : mkTup (l.map fun i => .im (f i)) = .im (.tup (l.map f)) := by
  rw [← e_mapIf]; exact mkTup_map _
theorem e_mulT {l : List I} : oMul (.im (.tup l)) (.im (.int i)) = some ⟨i ≤ 1000 ∧ -1000 ≤ i ∧ (l.map D.im).length ≤ 1000, mkTup (List.replicate i.toNat (l.map D.im)).flatten, 0⟩ := id rfl
theorem e_mulL {l : List D} : oMul (.lst l) (.im (.int i)) = some ⟨i ≤ 1000000 ∧ -1000000 ≤ i ∧ l.length * i.toNat ≤ 16777216, .lst (List.replicate i.toNat l).flatten, 1⟩ := id rfl
theorem e_mkR {n : Nat} : mkTup (List.replicate n (.im b0)) = .im (.tup (List.replicate n b0)) := by
  have := mkTup_map (List.replicate n b0)
  rw [List.map_replicate] at this
  exact this
theorem e_addL {l l' : List D} : oAdd (.lst l) (.lst l') = some ⟨l.length + l'.length ≤ 16777216, .lst (l ++ l'), 1⟩ := id rfl
theorem e_addT {l l' : List I} : oAdd (.im (.tup l)) (.im (.tup l')) = some ⟨(l.map D.im).length + (l'.map D.im).length ≤ 16777216, mkTup (l.map D.im ++ l'.map D.im), 0⟩ := id rfl
theorem e_sl0 : oSl0 [d] = slV d none none := id rfl
theorem e_slL : oSlL [d, .im (.int i)] = slV d (some i) none := id rfl
theorem e_slH : oSlH [d, .im (.int i)] = slV d none (some i) := id rfl
theorem e_slLH : oSlLH [d, .im (.int i), .im (.int i')] = slV d (some i) (some i') := id rfl
theorem e_slvL {l : List D} {lo hi : Option Int} : slV (.lst l) lo hi = some ⟨True, .lst (cutD l lo hi), 1⟩ := id rfl
theorem e_slvT {l : List I} {lo hi : Option Int} : slV (.im (.tup l)) lo hi = some ⟨True, mkTup (cutD (l.map D.im) lo hi), 0⟩ := id rfl
theorem e_slvU {l : List D} {lo hi : Option Int} : slV (.tup l) lo hi = some ⟨True, mkTup (cutD l lo hi), 0⟩ := id rfl
def intK (t : Tv) (env : En) (Qn : Tv → En → Prop) (_ : Tag Qn) : Prop := match t.d with
  | .im (.int _) => Qn t env
  | _ => False
theorem e_intK {s : List Nat} {t : Tag Qn} : intK ⟨.im (.int i), n, s⟩ env Qn t = Qn ⟨.im (.int i), n, s⟩ env := id rfl
theorem e_intsM {α : Type} {l : List α} {f : α → Int} : intsOf (l.map fun i => .im (.int (f i))) = some (l.map f) := by
  have := intsOf_map (l.map f)
  rw [List.map_map] at this
  exact this
theorem e_max {l : List D} : bMax (.lst l) = (intsOf l).map fun ns => ⟨0 < ns.length, int (maxI ns), 0⟩ := id rfl
theorem e_min {l : List D} : bMin (.lst l) = (intsOf l).map fun ns => ⟨0 < ns.length, int (minI ns), 0⟩ := id rfl
theorem e_sum {l : List D} : bSum (.lst l) = (intsOf l).map fun ns => ⟨True, int ns.sum, 0⟩ := id rfl
theorem e_lenL {l : List D} : bLen (.lst l) = some ⟨True, int l.length, 0⟩ := id rfl
theorem e_lenU {l : List D} : bLen (.tup l) = some ⟨True, int l.length, 0⟩ := id rfl
theorem e_lenT {l : List I} : bLen (.im (.tup l)) = some ⟨True, int l.length, 0⟩ := by
  show some (⟨True, int (l.map D.im).length, 0⟩ : Rs) = _
  rw [List.length_map]
theorem e_abs : bAbs (.im (.int i)) = some ⟨True, int (if i < 0 then -i else i), 0⟩ := id rfl
theorem e_int : bInt (.im (.int i)) = some ⟨True, int i, 0⟩ := id rfl
theorem e_intB : bInt (.im (.bl b)) = some ⟨True, int (if b then 1 else 0), 0⟩ := id rfl
theorem e_tupL {l : List D} : bTuple (.lst l) = some ⟨True, mkTup l, 0⟩ := id rfl
theorem e_lstL {l : List D} : bList (.lst l) = some ⟨True, .lst l, 1⟩ := id rfl
theorem e_lstT {l : List I} : bList (.im (.tup l)) = some ⟨True, .lst (l.map D.im), 1⟩ := id rfl
variable {a0 a1 a2 a3 a4 a5 : D} {al : List D}
theorem e_aI0 {α : Type} {a : α} {l : List α} : atI (a :: l) 0 = some a := by simp [atI, ixN]
theorem e_aI1 {α : Type} {a b : α} {l : List α} : atI (a :: b :: l) 1 = some b := by
  have : ixN (l.length + 1 + 1) 1 = some 1 := by simp [ixN]; omega
  simp [atI, this]
theorem e_aI2 {α : Type} {a b c : α} {l : List α} : atI (a :: b :: c :: l) 2 = some c := by
  have : ixN (l.length + 1 + 1 + 1) 2 = some 2 := by simp [ixN]; omega
  simp [atI, this]
theorem e_aI3 {α : Type} {a b c d : α} {l : List α} : atI (a :: b :: c :: d :: l) 3 = some d := by
  have : ixN (l.length + 1 + 1 + 1 + 1) 3 = some 3 := by simp [ixN]; omega
  simp [atI, this]
theorem e_aI4 {α : Type} {a b c d e : α} {l : List α} : atI (a :: b :: c :: d :: e :: l) 4 = some e := by
  have : ixN (l.length + 1 + 1 + 1 + 1 + 1) 4 = some 4 := by simp [ixN]; omega
  simp [atI, this]
theorem e_sI0 {x : D} : setI (a0 :: al) 0 x = some (x :: al) := by simp [setI, ixN]
theorem e_sI1 {x : D} : setI (a0 :: a1 :: al) 1 x = some (a0 :: x :: al) := by
  have : ixN (al.length + 1 + 1) 1 = some 1 := by simp [ixN]; omega
  simp [setI, this]
theorem e_sI2 {x : D} : setI (a0 :: a1 :: a2 :: al) 2 x = some (a0 :: a1 :: x :: al) := by
  have : ixN (al.length + 1 + 1 + 1) 2 = some 2 := by simp [ixN]; omega
  simp [setI, this]
theorem e_sI3 {x : D} : setI (a0 :: a1 :: a2 :: a3 :: al) 3 x = some (a0 :: a1 :: a2 :: x :: al) := by
  have : ixN (al.length + 1 + 1 + 1 + 1) 3 = some 3 := by simp [ixN]; omega
  simp [setI, this]
theorem e_sI4 {x : D} : setI (a0 :: a1 :: a2 :: a3 :: a4 :: al) 4 x = some (a0 :: a1 :: a2 :: a3 :: x :: al) := by
  have : ixN (al.length + 1 + 1 + 1 + 1 + 1) 4 = some 4 := by simp [ixN]; omega
  simp [setI, this]
theorem e_agN : agM [] = [] := id rfl
theorem e_agE {m : VE} {M : List Nat} {r : List Ag} : agM (.ex m M :: r) = M ++ agM r := id rfl
theorem e_agI {r : List Ag} : agM (.io j :: r) = agM r := id rfl
-- loops' sources
def rgK (t : Tv) (env : En) (QI : List D → En → Prop) (_ : Tag QI) : Prop := match t.d with
  | .im (.int j) => R62 j ∧ QI (rgD 0 j) env
  | _ => False
def rgKK (t u : Tv) (env : En) (QI : List D → En → Prop) (_ : Tag QI) : Prop := match t.d, u.d with
  | .im (.int i), .im (.int j) => (R62 i ∧ R62 j) ∧ QI (rgD i j) env
  | _, _ => False
theorem e_rg1 {m : VE} {M : List Nat} : vRg1 [.ex m M] env QI Qx = m env (fun a env1 => Apart a [] ∧ rgK a env1 QI ⟨⟩) Qx := id rfl
theorem e_rgK {s : List Nat} {t : Tag QI} : rgK ⟨.im (.int i), n, s⟩ env QI t = (R62 i ∧ QI (rgD 0 i) env) := id rfl
def zipK (d e : D) (s : List Nat) (env : En) (QI : List D → En → Prop) (_ : Tag QI) : Prop := match d, e with
  | .lst l, .lst m => QI (zipD l m) (frz s env)
  | d, e => (match items d, items e with
      | some l, some m => QI (zipD l m) (frz s env)
      | _, _ => False)
theorem e_zip {m m2 : VE} {M M2 : List Nat} : vZip [.ex m M, .ex m2 M2] env QI Qx = m env (fun a env1 => m2 env1 (fun b env2 => Apart b [] ∧ Apart a (M2 ++ []) ∧ zipK a.d b.d (a.s ++ (b.s ++ [])) env2 QI ⟨⟩) Qx) Qx := id rfl
theorem e_zipT {l l' : List I} {t : Tag QI} : zipK (.im (.tup l)) (.im (.tup l')) s env QI t = nxK (frz s env) (QI (zipD (l.map D.im) (l'.map D.im))) ⟨⟩ := id rfl
theorem e_zipL {l l' : List D} {t : Tag QI} : zipK (.lst l) (.lst l') s env QI t = nxK (frz s env) (QI (zipD l l')) ⟨⟩ := id rfl
theorem e_zipI : ∀ {l l' : List Int}, zipD (l.map fun i => .im (.int i)) (l'.map fun i => .im (.int i)) = (l.zip l').map fun q => .im (.tup [.int q.1, .int q.2])
  | [], _ => by simp [zipD]
  | _ :: _, [] => by simp [zipD]
  | a :: l, b :: l' => by
    show mkTup [.im (.int a), .im (.int b)] :: zipD (l.map fun i => .im (.int i)) (l'.map fun i => .im (.int i)) = _
    rw [e_zipI, e_mk2]
    rfl
theorem e_rg2 {m m2 : VE} {M M2 : List Nat} : vRg2 [.ex m M, .ex m2 M2] env QI Qx = m env (fun a env1 => m2 env1 (fun b env2 => Apart b [] ∧ Apart a (M2 ++ []) ∧ rgKK a b env2 QI ⟨⟩) Qx) Qx := id rfl
theorem e_rgKK {n' : Nat} {s s' : List Nat} {t : Tag QI} : rgKK ⟨.im (.int i), n, s⟩ ⟨.im (.int i'), n', s'⟩ env QI t = ((R62 i ∧ R62 i') ∧ QI (rgD i i') env) := id rfl
def itK (o : Option (List D)) (env : En) (QI : List D → En → Prop) (_ : Tag QI) : Prop := match o with
  | some ds => QI ds env
  | none => False
theorem e_itE {m : VE} : vItE m env QI Qx = m env (fun t env1 => itK (seqI t.d) (frz t.s env1) QI ⟨⟩) Qx := by
  unfold vItE
  congr 1
theorem e_itK {l : List D} {t : Tag QI} : itK (some l) env QI t = nxK env (QI l) ⟨⟩ := id rfl
theorem e_sqL {l : List D} : seqI (.lst l) = some l := id rfl
theorem e_sqF {l : List Int} : seqI (.im (.fl l)) = some (l.map fun i => .im (.int i)) := id rfl
theorem e_sqT {l : List I} : seqI (.im (.tup l)) = some (l.map D.im) := id rfl
theorem e_sqU {l : List D} : seqI (.tup l) = some l := id rfl
-- comprehensions, targets
theorem e_lc {vs : List Nat} {T : Tg} {mi : VI} {tt : VT} {me : VE} : vLc vs T mi tt me env Qn Qx = mi env (fun ds env1 => lowE vs env1 ∧ lcK vs T tt me ds [] (wipeE vs env1) (fun acc env2 => nxK (resE vs env1 env2) (Qn ⟨.lst acc, 1, []⟩) ⟨⟩) ⟨⟩ ⟨⟩ ⟨⟩ ⟨⟩ ⟨⟩) Qx := id rfl
theorem e_lcN {vs : List Nat} {T : Tg} {tt : VT} {me : VE} {acc : List D} {kk : List D → En → Prop} {t1 t2 t3 t4 t5} : lcK vs T tt me [] acc env kk t1 t2 t3 t4 t5 = kk acc env := id rfl
theorem e_lcC {vs : List Nat} {T : Tg} {tt : VT} {me : VE} {r acc : List D} {kk : List D → En → Prop} {t1 t2 t3 t4 t5} : lcK vs T tt me (d :: r) acc env kk t1 t2 t3 t4 t5 = bndK T d env (fun env1 => tt env1 (fun b env2 => IfK b (me env2 (fun t env3 => acc.length < 16777216 ∧ lcK vs T tt me r (acc ++ [t.d]) (wipeE vs (frz t.s env3)) kk t1 t2 t3 t4 t5) NoX) (lcK vs T tt me r acc (wipeE vs env2) kk t1 t2 t3 t4 t5) ⟨⟩ ⟨⟩) NoX) ⟨⟩ := id rfl
theorem e_nm {i : Nat} {k : En → Prop} {t : Tag k} : bndK (.nm i) d env k t = nxK (env.set i (some (d, 0))) k ⟨⟩ := id rfl
theorem e_tp {l : List Tg} {k : En → Prop} {t : Tag k} {ds : List I} : bndK (.tp l) (.im (.tup ds)) env k t = ((ds.map D.im).length = l.length ∧ bdsK l (ds.map D.im) env k ⟨⟩) := id rfl
theorem e_tpU {l : List Tg} {k : En → Prop} {t : Tag k} {ds : List D} : bndK (.tp l) (.tup ds) env k t = (ds.length = l.length ∧ bdsK l ds env k ⟨⟩) := id rfl
theorem e_bdN {k : En → Prop} {t : Tag k} {ds : List D} : bdsK [] ds env k t = k env := id rfl
theorem e_bdC {T : Tg} {l : List Tg} {k : En → Prop} {t : Tag k} {ds : List D} : bdsK (T :: l) (d :: ds) env k t = bndK T d env (fun e => bdsK l ds e k ⟨⟩) ⟨⟩ := id rfl
theorem e_forN {T : Tg} {b : VS} {t1 t2 t3} : forK T b [] env P t1 t2 t3 = P.nx env := id rfl
theorem e_forC {T : Tg} {b : VS} {r : List D} {t1 t2 t3} : forK T b (d :: r) env P t1 t2 t3 = bndK T d env (fun env1 => b env1 { P with nx := fun e => forK T b r e P ⟨⟩ ⟨⟩ ⟨⟩, ct := fun e => forK T b r e P ⟨⟩ ⟨⟩ ⟨⟩, bk := P.nx }) ⟨⟩ := id rfl
theorem e_while {t : VT} {b : VS} : vWhile t b env P = whK t b env P ⟨⟩ ⟨⟩ ⟨⟩ := id rfl
end
end Kv

namespace Kv
open PySem PySem.Spec L2
open PyProof.Rows hiding St
/-! ### side conditions, loops -/
theorem mulR {i j : Int} (h : -18446744073709551616 < j ∧ j < 18446744073709551616) : MulC i j := .inl (.inr h)
theorem mulL {i j : Int} (h : -18446744073709551616 < i ∧ i < 18446744073709551616) : MulC i j := .inl (.inl h)
theorem mulM {i m j : Int} (h : 0 < m ∧ m < 18446744073709551616) : MulC (i % m) j := mulL ⟨by have := Int.emod_nonneg i (b := m) (by omega); omega, by have := Int.emod_lt_of_pos i h.1; omega⟩
theorem log_le {a : Int} {k : Nat} (h : a.natAbs < 2 ^ (k + 1)) : a.natAbs.log2 ≤ k := by
  by_cases z : a.natAbs = 0
  · rw [z]; simp
  · exact Nat.le_of_lt_succ ((Nat.log2_lt z).mpr h)
theorem mulW {i j : Int} {k m : Nat} (h1 : i.natAbs < 2 ^ (k + 1)) (h2 : j.natAbs < 2 ^ (m + 1)) (h : k + m < 1000000) : MulC i j := .inr (by
  have := log_le h1
  have := log_le h2
  show _ + _ < _
  omega)
theorem rgD_nil {lo hi : Int} (h : hi ≤ lo) : rgD lo hi = [] := by
  unfold rgD
  rw [show (hi - lo).toNat = 0 by omega]
  rfl
theorem rgD_cons {lo hi : Int} (h : lo < hi) : rgD lo hi = .im (.int lo) :: rgD (lo + 1) hi := by
  unfold rgD
  rw [show (hi - lo).toNat = (hi - (lo + 1)).toNat + 1 by omega, List.range_succ_eq_map, List.map_cons, List.map_map]
  congr 1
  · show D.im (.int (lo + ((0 : Nat) : Int))) = _
    simp
  · apply List.map_congr_left
    intro a _
    show D.im (.int (lo + ((a + 1 : Nat) : Int))) = _
    congr 2
    omega
theorem atI_map {α β : Type} {f : α → β} {l : List α} {i : Int} (h0 : 0 ≤ i) (h1 : i < l.length) : ∃ a, a ∈ l ∧ l[i.toNat]? = some a ∧ atI (l.map f) i = some (f a) := by
  have hb : i.toNat < l.length := by omega
  refine ⟨l[i.toNat], List.getElem_mem hb, List.getElem?_eq_getElem hb, ?_⟩
  unfold atI ixN
  rw [List.length_map, if_pos h0, if_pos h1]
  show (l.map f)[i.toNat]? = _
  rw [List.getElem?_map, List.getElem?_eq_getElem hb]
  rfl
theorem sIx_nn {n d : Nat} {i : Int} (h : 0 ≤ i) : HT.sIx n d (some i) = min i.toNat n := by
  show (if i < 0 then (i + (n : Int)).toNat else min i.toNat n) = _
  rw [if_neg (by omega)]
theorem cut_hi {α : Type} {l : List α} {i : Int} (h : 0 ≤ i) : cutD l none (some i) = l.take i.toNat := by
  unfold cutD
  rw [sIx_nn h]
  show List.take (min i.toNat l.length - 0) (l.drop 0) = _
  rw [List.drop_zero, Nat.sub_zero, List.take_eq_take_iff]
  omega
theorem cut_lo {α : Type} {l : List α} {i : Int} (h : 0 ≤ i) : cutD l (some i) none = l.drop i.toNat := by
  unfold cutD
  rw [sIx_nn h]
  show List.take (l.length - min i.toNat l.length) (l.drop (min i.toNat l.length)) = _
  rw [List.take_of_length_le (by rw [List.length_drop]; omega)]
  by_cases q : i.toNat ≤ l.length
  · rw [Nat.min_eq_left q]
  · rw [Nat.min_eq_right (by omega), List.drop_eq_nil_of_le (Nat.le_refl _), List.drop_eq_nil_of_le (by omega)]
theorem cut_all {α : Type} {l : List α} : cutD l none none = l := by
  show List.take (l.length - 0) (l.drop 0) = _
  simp
theorem cut_lh {α : Type} {l : List α} {i j : Int} (h : 0 ≤ i) (h' : 0 ≤ j) : cutD l (some i) (some j) = (l.take j.toNat).drop i.toNat := by
  unfold cutD
  rw [sIx_nn h, sIx_nn h', List.drop_take]
  by_cases q : i.toNat ≤ l.length
  · rw [Nat.min_eq_left q, List.take_eq_take_iff, List.length_drop]
    omega
  · have e1 : l.drop (min i.toNat l.length) = [] := List.drop_eq_nil_of_le (by omega)
    have e2 : l.drop i.toNat = [] := List.drop_eq_nil_of_le (by omega)
    rw [e1, e2]
    simp
theorem put_cut {α : Type} {l : List α} {i : Nat} {d : α} (h : i < l.length) : l.take i ++ [d] ++ l.drop (i + 1) = l.set i d := by
  rw [List.set_eq_take_append_cons_drop, if_pos h]
  simp
theorem mulC6 {i j : Int} (h : (i.natAbs < 2 ^ 3001 ∧ j.natAbs < 2 ^ 3001)) : MulC i j := mulW (k := 3000) (m := 3000) h.1 h.2 (by decide)
/-- a loop over a list: what holds before each turn, of what is left -/
theorem for_ind {T : Tg} {b : VS} {P : VD} {t1 : Tag T} {t2 : Tag b} {t3 : Tag P} (Inv : List D → En → Prop) (hs : ∀ d r env, Inv (d :: r) env → ∀ K : En → Prop, (∀ env', Inv r env' → K env') → bndK T d env (fun env1 => b env1 { P with nx := K, ct := K, bk := P.nx }) ⟨⟩)
    (he : ∀ env, Inv [] env → P.nx env) : ∀ {ds : List D} {env : En}, Inv ds env → forK T b ds env P t1 t2 t3
  | [], env, h => he env h
  | d :: r, env, h => hs d r env h (fun e => forV T b r e P) fun env' h' => for_ind (t1 := t1) (t2 := t2) (t3 := t3) Inv hs he h'
/-- .. over range(lo, hi) -/
theorem for_rg {T : Tg} {b : VS} {P : VD} {t1 : Tag T} {t2 : Tag b} {t3 : Tag P} {hi : Int} (Inv : Int → En → Prop) (hs : ∀ i env, i < hi → Inv i env → ∀ K : En → Prop, (∀ env', Inv (i + 1) env' → K env') → bndK T (.im (.int i)) env (fun env1 => b env1 { P with nx := K, ct := K, bk := P.nx }) ⟨⟩)
    (he : ∀ i env, hi ≤ i → Inv i env → P.nx env) {lo : Int} {env : En} (h : Inv lo env) : forK T b (rgD lo hi) env P t1 t2 t3 := by
  refine for_ind (fun ds env => ∃ i, ds = rgD i hi ∧ Inv i env) (fun d r env ⟨i, e, h⟩ K k => ?_) (fun env ⟨i, e, h⟩ => ?_) ⟨lo, rfl, h⟩
  · by_cases q : i < hi
    · rw [rgD_cons q] at e
      cases e
      exact hs i env q h K fun env' h' => k env' ⟨_, rfl, h'⟩
    · rw [rgD_nil (by omega)] at e; cases e
  · by_cases q : i < hi
    · rw [rgD_cons q] at e; cases e
    · exact he i env (by omega) h
theorem lc_ind {vs : List Nat} {T : Tg} {tt : VT} {me : VE} {kk : List D → En → Prop} {t1 : Tag vs} {t2 : Tag T} {t3 : Tag tt} {t4 : Tag me} {t5 : Tag kk} (Inv : List D → List D → En → Prop)
    (hs : ∀ d r acc env, Inv (d :: r) acc env → ∀ (K : D → En → Prop) (F : En → Prop), (∀ x env', Inv r (acc ++ [x]) env' → K x env') → (∀ env', Inv r acc env' → F env') →
      bndK T d env (fun env1 => tt env1 (fun b env2 => IfK b (me env2 (fun t env3 => nxK (wipeE vs (frz t.s env3)) (K t.d) ⟨⟩) NoX) (nxK (wipeE vs env2) F ⟨⟩) ⟨⟩ ⟨⟩) NoX) ⟨⟩)
    (he : ∀ acc env, Inv [] acc env → kk acc env) : ∀ {ds acc : List D} {env : En}, ds.length + acc.length ≤ 16777216 → Inv ds acc env → lcK vs T tt me ds acc env kk t1 t2 t3 t4 t5
  | [], acc, env, hl, h => he acc env h
  | d :: r, acc, env, hl, h => by
    have hl' : r.length + 1 + acc.length ≤ 16777216 := hl
    exact hs d r acc env h (fun x e => acc.length < 16777216 ∧ lcV vs T tt me r (acc ++ [x]) e kk) (fun e => lcV vs T tt me r acc e kk)
      (fun x env' h' => ⟨by omega, lc_ind (t1 := t1) (t2 := t2) (t3 := t3) (t4 := t4) (t5 := t5) Inv hs he (by simp; omega) h'⟩) fun env' h' => lc_ind (t1 := t1) (t2 := t2) (t3 := t3) (t4 := t4) (t5 := t5) Inv hs he (by omega) h'
/-- a pure comprehension: the same slots at each turn -/
theorem lc_map {vs : List Nat} {T : Tg} {tt : VT} {me : VE} {kk : List D → En → Prop} {t1 : Tag vs} {t2 : Tag T} {t3 : Tag tt} {t4 : Tag me} {t5 : Tag kk} {α : Type} {env : En} (l : List α) (p q : α → D) (hl : l.length ≤ 16777216)
    (hs : ∀ a ∈ l, ∀ (K : D → En → Prop) (F : En → Prop), K (q a) env → bndK T (p a) env (fun env1 => tt env1 (fun b env2 => IfK b (me env2 (fun t env3 => nxK (wipeE vs (frz t.s env3)) (K t.d) ⟨⟩) NoX) (nxK (wipeE vs env2) F ⟨⟩) ⟨⟩ ⟨⟩) NoX) ⟨⟩)
    (he : kk (l.map q) env) : lcK vs T tt me (l.map p) [] env kk t1 t2 t3 t4 t5 := by
  refine lc_ind (fun ds acc e => ∃ l1 l2, l = l1 ++ l2 ∧ ds = l2.map p ∧ acc = l1.map q ∧ e = env) (fun d r acc e ⟨l1, l2, h1, h2, h3, h4⟩ K F k f => ?_) (fun acc e ⟨l1, l2, h1, h2, h3, h4⟩ => ?_) (by simpa using hl) ⟨[], l, rfl, rfl, rfl, rfl⟩
  · cases l2 with
    | nil => cases h2
    | cons a l2 =>
      cases h2
      subst h3 h4
      exact hs a (by rw [h1]; simp) K F (k _ _ ⟨l1 ++ [a], l2, by rw [h1]; simp, rfl, by simp, rfl⟩)
  · cases l2 with
    | nil =>
      rw [h1, List.append_nil] at he
      rw [h3, h4]
      exact he
    | cons a l2 => cases h2
end Kv

namespace Kv
open PySem PySem.Spec L2
open PyProof.Rows hiding St
/-! ### comprehensions of two clauses -/
def lc2V (vs vs1 : List Nat) (T T1 : Tg) (tt : VT) (mi1 : VI) (tt1 : VT) (me : VE) : List D → List D → En → (List D → En → Prop) → Prop
  | [], acc, env, k => k acc env
  | d :: r, acc, env, k => bindT T d env fun env1 => tt env1 (fun b env2 => if b = true then
      mi1 env2 (fun ds1 env3 => lcV vs1 T1 tt1 me ds1 acc (wipeE vs1 env3) fun acc' env4 => lc2V vs vs1 T T1 tt mi1 tt1 me r acc' (wipeE vs env4) k) NoX
    else lc2V vs vs1 T T1 tt mi1 tt1 me r acc (wipeE vs env2) k) NoX
def vLc2 (vs vs1 : List Nat) (T T1 : Tg) (mi : VI) (tt : VT) (mi1 : VI) (tt1 : VT) (me : VE) : VE := fun env Qn Qx => mi env (fun ds env1 => lowE vs env1 ∧ lc2V vs vs1 T T1 tt mi1 tt1 me ds [] (wipeE vs env1) fun acc env2 => Qn ⟨.lst acc, 1, []⟩ (resE vs env1 env2)) Qx
section
variable {X : Cx} {W : WX} {Mi Mb vs vs1 : List Nat} {T T1 : Tg} {mi mi1 : VI} {tt tt1 : VT} {me : VE}
theorem wipe_wipe {σ : St} {vs vs1 : List Nat} (h : ∀ j ∈ vs1, j ∈ vs) : wipe (wipe σ vs1) vs = wipe σ vs := by
  refine List.ext_getElem? fun i => ?_
  simp only [wipe_get, wipe_length]
  by_cases q : i ∈ vs
  · simp [q]
  · have q1 : i ∉ vs1 := fun z => q (h i z)
    simp [q, q1]
theorem step_aW {M : List Nat} {H : Hp} {Z : Addr → Prop} {As : Ow} (hv : ∀ j ∈ vs, j ∈ M) : Step M H Z As H Z (aW As vs) := (Step.refl (M := M)).wipe hv
theorem Bld.wipe {K : PySem.W.Frag} {H : Hp} {Z : Addr → Prop} {As : Ow} {D0 : Addr} {acc : List D} (b : Bld K H Z As D0 acc) : Bld K H Z (aW As vs) D0 acc := ⟨b.at_, fun j hj => b.na j (aW_sub hj).1, b.nz⟩
theorem Pers.refl {H : Hp} {Z : Addr → Prop} : Pers H Z H Z := ⟨fun _ _ z e => ⟨e, z⟩, fun _ _ e _ => e⟩
theorem Pers.trans {H H1 H2 : Hp} {Z Z1 Z2 : Addr → Prop} (a : Pers H Z H1 Z1) (b : Pers H1 Z1 H2 Z2) : Pers H Z H2 Z2 := ⟨fun x o z e => b.1 x o (a.1 x o z e).2 (a.1 x o z e).1, fun x o e m => b.2 x o (a.2 x o e m) m⟩
theorem Pers.same {H H1 : Hp} {Z : Addr → Prop} (s : Same H H1) : Pers H Z H1 Z := ⟨fun a o z e => ⟨s a o e, z⟩, fun a o e _ => s a o e⟩
theorem Pers.upd {K : PySem.W.Frag} {H H1 : Hp} {Z Z1 Z2 : Addr → Prop} {As : Ow} {D0 : Addr} {acc : List D} {ws : List V} {o' : HO} (a : Pers H Z H1 Z1) (_ : Bld K H1 Z1 As D0 acc) (zz : ∀ x, Z1 x → Z2 x) (e1 : H1 D0 = some (.lst ws)) (nz : ¬ Z D0) : Pers H Z (upd H1 D0 o') Z2 :=
  ⟨fun x o z e => ⟨by
    rw [upd_ne (fun q => nz (by rw [← q]; exact z))]
    exact (a.1 x o z e).1, zz x (a.1 x o z e).2⟩, fun x o e m => by
    have e2 := a.2 x o e m
    by_cases q : x = D0
    · subst q
      rw [e1] at e2
      cases e2
      exact absurd True.intro m
    · rw [upd_ne q]; exact e2⟩
theorem lc2_ls (hT : ∀ j ∈ T.slots, j ∈ vs) (hT1 : ∀ j ∈ T1.slots, j ∈ vs1) (hv1 : ∀ j ∈ vs1, j ∈ vs) :
    ∀ σ H Q, LE X W (Mi ++ (Mb ++ vs)) (vLc2 vs vs1 T T1 mi tt mi1 tt1 me) σ H Q → tLc2 (LI X W Mi mi) (gT X.K T) (LT X W0 (Mb ++ vs) tt) (LI X W0 (Mb ++ vs) mi1) (gT X.K T1) (LT X W0 (Mb ++ vs) tt1) (LE X W0 (Mb ++ vs) me) vs vs1 σ H Q := fun σ H Q ⟨env, Z, As, Qn, Qx, S, q, hn, hx⟩ => by
  refine ⟨env, Z, As, _, Qx, S, q, fun ds env1 H1 Z1 As1 J q g1 S1 wk D0 hD => ?_, hx.left⟩
  obtain ⟨low, q⟩ := q
  have S1w := S1.wipe (vs := vs)
  have hvM : ∀ j ∈ vs, j ∈ Mb ++ vs := fun j hj => List.mem_append_right _ hj
  have hvM1 : ∀ j ∈ vs1, j ∈ Mb ++ vs := fun j hj => hvM j (hv1 j hj)
  have n1 : ∀ j, D0 ∉ As1 j := fun j hj => by
    have := S1.mu j D0 hj
    rw [hD] at this; exact this
  have nz1 : ¬ Z1 D0 := fun z => by
    have := S1.zt D0 z
    rw [hD] at this; exact this
  have st0 : Step (Mb ++ vs) H1 Z1 (aW As1 vs) (upd H1 D0 (.lst [])) Z1 (aW As1 vs) := Step.refl.same (same_upd hD)
  refine ⟨fun i m H2 => m = ds.length - i ∧ i ≤ ds.length ∧ ∃ env2 Z2 As2 acc, SA X.K H2 Z2 As2 (wipe σ vs) env2 ∧ Step (Mb ++ vs) H1 Z1 (aW As1 vs) H2 Z2 As2 ∧ Bld X.K H2 Z2 As2 D0 acc ∧ lc2V vs vs1 T T1 tt mi1 tt1 me (ds.drop i) acc env2 fun acc env2 => Qn ⟨.lst acc, 1, []⟩ (resE vs env1 env2),
    ⟨ds.length, by omega, Nat.zero_le _, wipeE vs env1, Z1, aW As1 vs, [], S1w.same (same_upd hD), st0, ⟨⟨[], upd_same, by unfold RepDs; exact ⟨rfl, rfl⟩⟩, fun j hj => n1 j (aW_sub hj).1, nz1⟩, q⟩, ?_⟩
  rintro i m H2 ⟨rfl, hi, env2, Z2, As2, acc, S2, st2, bl2, q2⟩
  have toGo : ∀ {H2 Z2 As2}, Step (Mb ++ vs) H1 Z1 (aW As1 vs) H2 Z2 As2 → Go H1 Z1 As1 H2 Z2 As2 := fun {H2 Z2 As2} st2 => ⟨fun a o e k => st2.kp a o e fun j _ ha => k j (aW_sub ha).1, st2.lv, st2.zm, fun a z => (st2.zn a z).imp id (Or.imp (fun ⟨j, h⟩ => ⟨j, (aW_sub h).1⟩) id), fun j a ha => by
    rcases st2.an j a ha with h | ⟨k, _, h⟩ | h
    · exact .inl ⟨j, (aW_sub h).1⟩
    · exact .inl ⟨k, (aW_sub h).1⟩
    · exact .inr h⟩
  have go12 := toGo st2
  by_cases hlt : i < ds.length
  · refine .inr ⟨wk.go i H2 Z2 hlt (go12.fz S1), fun H3 => i + 1 ≤ ds.length ∧ ∃ env3 Z3 As3 acc, SA X.K H3 Z3 As3 (wipe σ vs) env3 ∧ Step (Mb ++ vs) H1 Z1 (aW As1 vs) H3 Z3 As3 ∧ Bld X.K H3 Z3 As3 D0 acc ∧ lc2V vs vs1 T T1 tt mi1 tt1 me (ds.drop (i + 1)) acc env3 fun acc env2 => Qn ⟨.lst acc, 1, []⟩ (resE vs env1 env2), fun H3 ⟨h1, h2⟩ => ⟨ds.length - (i + 1), by omega, rfl, h1, h2⟩, fun x H3 y => ?_⟩
    obtain ⟨sm, r⟩ := wk.yl i ds[i] H2 Z2 x H3 (List.getElem?_eq_getElem hlt) (go12.fz S1) y
    rw [List.drop_eq_getElem_cons hlt] at q2
    have S3 := S2.same sm
    have st3 := st2.same sm
    have bl3 := bl2.same sm
    refine bindS_ok (U := vs) T hT S3 r q2 fun σ4 H4 hb4 => ?_
    obtain ⟨env4, As4, q4, S4, eH, f4, g4⟩ := hb4
    subst eH
    have ew : wipe σ4 vs = wipe σ vs := wipe_fx f4 fun _ h => h
    have st4 : Step (Mb ++ vs) H1 Z1 (aW As1 vs) H4 Z2 As4 := st3.trans' S1w (g4.mono hvM)
    have bl4 := bl3.step S3 g4
    refine ⟨ew, env4, Z2, As4, _, NoX, S4, q4, fun b env5 H5 Z5 As5 q5 st5 S5 => ?_, xto0⟩
    have st15 := st4.trans' S1w st5
    have bl5 := bl4.step S4 st5
    cases b with
    | false => exact ⟨hlt, wipeE vs env5, Z5, aW As5 vs, acc, by rw [← ew]; exact S5.wipe, st15.wipe hvM, bl5.wipe, q5⟩
    | true =>
      refine ⟨env5, Z5, As5, _, NoX, S5, q5, fun ds1 env6 H6 Z6 As6 J1 q6 st6 S6 wk1 => ?_, xto0⟩
      have st16 := st15.trans' S1w st6
      have bl6 := bl5.step S5 st6
      have S6w := S6.wipe (vs := vs1)
      have st16w := st16.wipe hvM1
      refine ⟨fun j k H7 => k = ds1.length - j ∧ j ≤ ds1.length ∧ ∃ env7 Z7 As7 acc, SA X.K H7 Z7 As7 (wipe σ4 vs1) env7 ∧ Step (Mb ++ vs) H1 Z1 (aW As1 vs) H7 Z7 As7 ∧ Pers H6 Z6 H7 Z7 ∧ Bld X.K H7 Z7 As7 D0 acc ∧ lcV vs1 T1 tt1 me (ds1.drop j) acc env7 fun acc' env8 => lc2V vs vs1 T T1 tt mi1 tt1 me (ds.drop (i + 1)) acc' (wipeE vs env8) fun acc env2 => Qn ⟨.lst acc, 1, []⟩ (resE vs env1 env2),
        ⟨ds1.length, by omega, Nat.zero_le _, wipeE vs1 env6, Z6, aW As6 vs1, acc, S6w, st16w, Pers.refl, bl6.wipe, q6⟩, ?_⟩
      rintro j k H7 ⟨rfl, hj, env7, Z7, As7, acc7, S7, st17, pe7, bl7, q7⟩
      by_cases hlt1 : j < ds1.length
      · refine .inr ⟨wk1.go j H7 Z7 hlt1 pe7, fun H8 => j + 1 ≤ ds1.length ∧ ∃ env8 Z8 As8 acc, SA X.K H8 Z8 As8 (wipe σ4 vs1) env8 ∧ Step (Mb ++ vs) H1 Z1 (aW As1 vs) H8 Z8 As8 ∧ Pers H6 Z6 H8 Z8 ∧ Bld X.K H8 Z8 As8 D0 acc ∧ lcV vs1 T1 tt1 me (ds1.drop (j + 1)) acc env8 fun acc' env8 => lc2V vs vs1 T T1 tt mi1 tt1 me (ds.drop (i + 1)) acc' (wipeE vs env8) fun acc env2 => Qn ⟨.lst acc, 1, []⟩ (resE vs env1 env2), fun H8 ⟨h1, h2⟩ => ⟨ds1.length - (j + 1), by omega, rfl, h1, h2⟩, fun x1 H8 y1 => ?_⟩
        obtain ⟨sm1, r1⟩ := wk1.yl j ds1[j] H7 Z7 x1 H8 (List.getElem?_eq_getElem hlt1) pe7 y1
        rw [List.drop_eq_getElem_cons hlt1] at q7
        have S8 := S7.same sm1
        have st8 := st17.same sm1
        have bl8 := bl7.same sm1
        have pe8 : Pers H6 Z6 H8 Z7 := pe7.trans (Pers.same sm1)
        refine bindS_ok (U := vs1) T1 hT1 S8 r1 q7 fun σ9 H9 hb9 => ?_
        obtain ⟨env9, As9, q9, S9, eH, f9, g9⟩ := hb9
        subst eH
        have ew1 : wipe σ9 vs1 = wipe σ4 vs1 := wipe_fx f9 fun _ h => h
        have st9 : Step (Mb ++ vs) H1 Z1 (aW As1 vs) H9 Z7 As9 := st8.trans' S1w (g9.mono hvM1)
        have bl9 := bl8.step S8 g9
        refine ⟨ew1, env9, Z7, As9, _, NoX, S9, q9, fun b env10 H10 Z10 As10 q10 st10 S10 => ?_, xto0⟩
        have st110 := st9.trans' S1w st10
        have bl10 := bl9.step S9 st10
        have pe10 : Pers H6 Z6 H10 Z10 := pe8.trans (st10.go.fz S9)
        cases b with
        | false => exact ⟨hlt1, wipeE vs1 env10, Z10, aW As10 vs1, acc7, by rw [← ew1]; exact S10.wipe, st110.wipe hvM1, pe10, bl10.wipe, q10⟩
        | true =>
          refine ⟨env10, Z10, As10, _, NoX, S10, q10, fun t env11 y11 H11 Z11 As11 B11 q11 st11 S11 T11 n11 => ?_, xto0⟩
          have bl11 := bl10.step S10 st11
          have st111 := st110.trans' S1w st11
          have pe11 : Pers H6 Z6 H11 Z11 := pe10.trans (st11.go.fz S10)
          have nb : D0 ∉ B11 := fun hb => by
            rcases n11 D0 hb with e | ⟨j, _, h⟩
            · obtain ⟨ws, h1, _⟩ := bl10.at_
              rw [h1] at e; cases e
            · exact bl10.na j h
          have n111 : BNew (Mb ++ vs) H1 (aW As1 vs) B11 := fun z hz => by
            rcases n11 z hz with e | ⟨j, hj, w⟩
            · exact .inl (st110.lv z e)
            · rcases st110.an j z w with q | ⟨k, hk, q⟩ | q
              · exact .inr ⟨j, hj, q⟩
              · exact .inr ⟨k, hk, q⟩
              · exact .inl q
          obtain ⟨ws, Z12, As12, e12, l12, S12, st12, bl12, zz⟩ := lc_more (X := X) (vs := vs1) hvM1 S1w st111 hD S11 T11 n111 bl11 nb
          refine ⟨ws, e12, by rw [l12, sizeLine_eq]; exact q11.1, hlt1, _, Z12, As12, acc7 ++ [t.d], by rw [← ew1]; exact S12, st12, pe11.upd bl11 zz e12 (fun z => ?_), bl12, q11.2⟩
          exact bl6.nz z
      · have e : j = ds1.length := by omega
        subst e
        rw [List.drop_length] at q7
        refine .inl ⟨wk1.st H7 Z7 pe7, hlt, wipeE vs env7, Z7, aW As7 vs, acc7, ?_, st17.wipe hvM, bl7.wipe, q7⟩
        rw [← ew, ← wipe_wipe (σ := σ4) hv1]
        exact S7.wipe
  · have e : i = ds.length := by omega
    subst e
    rw [List.drop_length] at q2
    have q2 : Qn ⟨.lst acc, 1, []⟩ (resE vs env1 env2) := q2
    obtain ⟨ws, h1, h2⟩ := bl2.at_
    refine .inl ⟨wk.st H2 Z2 (go12.fz S1), ?_⟩
    have st12 : Step (Mb ++ vs) H1 Z1 As1 H2 Z2 (aW As2 vs) := by
      refine Step.wipe ⟨fun a o e k => st2.kp a o e fun j hj ha => k j hj (aW_sub ha).1, st2.lv, st2.zm, go12.zn, fun j a ha => ?_, fun j hj a ha => st2.sl j hj a (by unfold aW; rw [if_neg fun z => hj (hvM j z)]; exact ha)⟩ hvM
      rcases st2.an j a ha with h | ⟨k, hk, h⟩ | h
      · exact .inl (aW_sub h).1
      · exact .inr (.inl ⟨k, hk, (aW_sub h).1⟩)
      · exact .inr (.inr h)
    have S2w := SA.wipe (vs := vs) S2
    refine hn _ _ (.ref D0) H2 Z2 (aW As2 vs) [D0] q2 (g1.trans S st12) ?_ ⟨?_, List.nodup_cons.mpr ⟨by simp, .nil⟩, fun b hb => ?_⟩ fun b hb => ?_
    · refine ⟨by rw [resE_length, ← wipe_length σ vs]; exact S2.len, fun k d n e => ?_, S2w.nd, S2w.dj, S2w.mu, S2w.dz, S2.zt⟩
      rcases resE_get e with ⟨hk, e⟩ | ⟨hk, e⟩
      · have e0 := lowE_at low hk e
        subst e0
        obtain ⟨v, r1, r2⟩ := S1.rep k d 0 e
        have r3 := RepD.nil _ _ _ r2
        rw [r3] at r2
        refine ⟨v, r1, ?_⟩
        unfold aW
        rw [if_pos hk]
        exact RepD.go S1 go12 r2
      · obtain ⟨v, r1, r2⟩ := S2.rep k d n e
        rw [wipe_get, if_neg hk] at r1
        refine ⟨v, r1, ?_⟩
        unfold aW
        rw [if_neg hk]
        exact r2
    · show RepD X.K H2 (Zs Z2 (aW As2 vs) []) (0 + 1) (.lst acc) _ _
      unfold RepD
      exact ⟨D0, ws, [], rfl, h1, RepDs.keep (fun _ _ e _ => e) (fun a o z e => ⟨e, .inl z⟩) _ _ _ _ (fun _ ha => nomatch ha) h2, rfl⟩
    · rw [List.mem_singleton.mp hb]
      exact ⟨bl2.nz, fun j hj => bl2.na j (aW_sub hj).1⟩
    · rw [List.mem_singleton.mp hb]
      exact .inl (g1.lv D0 hD)
end

section
variable {X : Cx} {W : WX} {Mi Mb : List Nat} {vs1 : List Nat} {T T1 : Tg} {mi mi1 : VI} {tt tt1 : VT} {me : VE} {elt tg iter tg1 iter1 : Expr} {ifs ifs1 : List Expr} {scope : Scope} {own : List (Str × Nat)} {pos : Pos}
theorem ee_lc2 (hc : X.calm = true) (hN : X.N.Nodup) (hi : EI X W Mi tg iter mi) (ok : BlkOk X.N X.env.scope scope own) (hT : ∀ j ∈ T.slots, j ∈ own.map (·.2)) (hT1 : ∀ j ∈ T1.slots, j ∈ vs1) (hv1 : ∀ j ∈ vs1, j ∈ own.map (·.2))
    (hg : ∀ (s : Shared) (H : Hp) (C : Addr) (cl : List (Str × Addr)) (fp : List Addr), PG (X.blk s H scope (compEnvC scope cl C X.env) fp) tg (gT X.K T))
    (ht : ∀ (s : Shared) (H : Hp) (C : Addr) (cl : List (Str × Addr)) (fp : List Addr), ETs (X.blk s H scope (compEnvC scope cl C X.env) fp) W0 (Mb ++ own.map (·.2)) ifs tt)
    (hi1 : ∀ (s : Shared) (H : Hp) (C : Addr) (cl : List (Str × Addr)) (fp : List Addr), EI (X.blk s H scope (compEnvC scope cl C X.env) fp) W0 (Mb ++ own.map (·.2)) tg1 iter1 mi1)
    (hg1 : ∀ (s : Shared) (H : Hp) (C : Addr) (cl : List (Str × Addr)) (fp : List Addr), PG (X.blk s H scope (compEnvC scope cl C X.env) fp) tg1 (gT X.K T1))
    (ht1 : ∀ (s : Shared) (H : Hp) (C : Addr) (cl : List (Str × Addr)) (fp : List Addr), ETs (X.blk s H scope (compEnvC scope cl C X.env) fp) W0 (Mb ++ own.map (·.2)) ifs1 tt1)
    (he : ∀ (s : Shared) (H : Hp) (C : Addr) (cl : List (Str × Addr)) (fp : List Addr), EE (X.blk s H scope (compEnvC scope cl C X.env) fp) W0 (Mb ++ own.map (·.2)) elt me) (hs : ∀ x, foldedSetIterable iter X.env x = pure x := by intro _; rfl) (hs1 : ∀ env x, foldedSetIterable iter1 env x = pure x := by intro _ _; rfl) :
    EE X W (Mi ++ (Mb ++ own.map (·.2))) (.ListComp elt [⟨tg, iter, ifs, 0⟩, ⟨tg1, iter1, ifs1, 0⟩] scope pos) (vLc2 (own.map (·.2)) vs1 T T1 mi tt mi1 tt1 me) :=
  peImp (pe_lc2 (vs1 := vs1) (tt := LT X W0 (Mb ++ own.map (·.2)) tt) (tt1 := LT X W0 (Mb ++ own.map (·.2)) tt1) (te := LE X W0 (Mb ++ own.map (·.2)) me) (wi1 := LI X W0 (Mb ++ own.map (·.2)) mi1) hc hN hi ok hv1 hg ht hi1 hg1 ht1 he hs hs1) (lc2_ls (W := W) (Mi := Mi) (Mb := Mb) hT hT1 hv1)
theorem ss_setLc2 {U : List Nat} {i : Nat} {y : Str} {py spos : Pos} (hc : X.calm = true) (hN : X.N.Nodup) (hy : X.N[i]? = some y) (hyl : X.env.scope.names.lookup y = some .local)
    (hsw : swapsWith (.ListComp elt [⟨tg, iter, ifs, 0⟩, ⟨tg1, iter1, ifs1, 0⟩] scope pos) (some (.Name y py)) spos.line X.env = pure true) (hi : EI X W Mi tg iter mi) (ok : BlkOk X.N X.env.scope scope own) (hT : ∀ j ∈ T.slots, j ∈ own.map (·.2)) (hT1 : ∀ j ∈ T1.slots, j ∈ vs1) (hv1 : ∀ j ∈ vs1, j ∈ own.map (·.2))
    (hg : ∀ (s : Shared) (H : Hp) (C : Addr) (cl : List (Str × Addr)) (fp : List Addr), PG (X.blk s H scope (compEnvC scope cl C X.env) fp) tg (gT X.K T))
    (ht : ∀ (s : Shared) (H : Hp) (C : Addr) (cl : List (Str × Addr)) (fp : List Addr), ETs (X.blk s H scope (compEnvC scope cl C X.env) fp) W0 (Mb ++ own.map (·.2)) ifs tt)
    (hi1 : ∀ (s : Shared) (H : Hp) (C : Addr) (cl : List (Str × Addr)) (fp : List Addr), EI (X.blk s H scope (compEnvC scope cl C X.env) fp) W0 (Mb ++ own.map (·.2)) tg1 iter1 mi1)
    (hg1 : ∀ (s : Shared) (H : Hp) (C : Addr) (cl : List (Str × Addr)) (fp : List Addr), PG (X.blk s H scope (compEnvC scope cl C X.env) fp) tg1 (gT X.K T1))
    (ht1 : ∀ (s : Shared) (H : Hp) (C : Addr) (cl : List (Str × Addr)) (fp : List Addr), ETs (X.blk s H scope (compEnvC scope cl C X.env) fp) W0 (Mb ++ own.map (·.2)) ifs1 tt1)
    (he : ∀ (s : Shared) (H : Hp) (C : Addr) (cl : List (Str × Addr)) (fp : List Addr), EE (X.blk s H scope (compEnvC scope cl C X.env) fp) W0 (Mb ++ own.map (·.2)) elt me) (hs : ∀ x, foldedSetIterable iter X.env x = pure x := by intro _; rfl) (hs1 : ∀ env x, foldedSetIterable iter1 env x = pure x := by intro _ _; rfl) :
    SS X W [i] (.Assign [.Name y py] (.ListComp elt [⟨tg, iter, ifs, 0⟩, ⟨tg1, iter1, ifs1, 0⟩] scope pos) spos) (vSet i (vLc2 (own.map (·.2)) vs1 T T1 mi tt mi1 tt1 me)) :=
  psImp (ps_setLc2 (vs1 := vs1) (tt := LT X W0 (Mb ++ own.map (·.2)) tt) (tt1 := LT X W0 (Mb ++ own.map (·.2)) tt1) (te := LE X W0 (Mb ++ own.map (·.2)) me) (wi1 := LI X W0 (Mb ++ own.map (·.2)) mi1) hc hN hy hyl hsw hi ok hv1 hg ht hi1 hg1 ht1 he hs hs1) fun D σ H h => lc2_ls (W := W) (Mi := Mi) (Mb := Mb) hT hT1 hv1 σ H (fun x H1 => gName i x σ H1 D.nx) (set_ls D σ H h)
end
end Kv

namespace Kv
open PySem PySem.Spec L2
open PyProof.Rows hiding St

/-! ### sorted: ints; tuples of ints of any length -/
/-- a tuple of ints on the heap -/
def IsTI (h : Heap) (v : Value) (ns : List Int) : Prop := ∃ a o its n, v = .ref a ∧ h.get? a = some o ∧ o.cls = .type "tuple" ∧ o.data = .seq its n ∧ IntsAre its.toList ns
section
variable {prog : Program} {w : World} {A : Around} {s : Shared}
theorem kat_ints {Q : Bool → Shared → Prop} : ∀ {xs ys : List Value} {ns ms : List Int} {f : Bool} {i : Nat}, IntsAre xs ns → IntsAre ys ms → f = decide (xs.length < ys.length) → Q (HT.lexLt ns ms) s → PySem.W.KatLex prog w A true f Q (xs.zip ys) i s
  | _, _, _, _, f, i, .nil, .nil, hf, q => by subst hf; exact PySem.W.kat_nil q
  | _, _, _, _, f, i, .nil, .cons m u r, hf, q => by
    subst hf
    refine PySem.W.kat_nil ?_
    simpa [HT.lexLt] using q
  | _, _, _, _, f, i, .cons n t r, .nil, hf, q => by
    subst hf
    refine PySem.W.kat_nil ?_
    simpa [HT.lexLt] using q
  | _, _, _, _, f, i, .cons n t r, .cons m u r', hf, q => by
    refine PySem.W.kat_cons (SeqAt.EqAt.int_int n t m u prog w _ _ ?_)
    refine PySem.W.kat_go (fun e1 => ?_) fun e1 => ?_
    · have e : n = m := by simpa using e1
      rw [HT.lexLt_cons, if_pos e] at q
      exact PySem.W.kat_yes (kat_ints r r' (by simpa using hf) q)
    · have e : ¬ n = m := by simpa using e1
      rw [HT.lexLt_cons, if_neg e] at q
      exact PySem.W.kat_no (TS.oneLt_ints _ q)

theorem IsTI.uniq {h : Heap} {v : Value} {ns ms : List Int} (a : IsTI h v ns) (b : IsTI h v ms) : ns = ms := by
  obtain ⟨a, o, its, n, rfl, h1, h2, h3, h4⟩ := a
  obtain ⟨a', o', its', n', e, h1', h2', h3', h4'⟩ := b
  cases e
  rw [h1] at h1'
  cases h1'
  rw [h3] at h3'
  cases h3'
  rw [← SrtO.iv_ints h4, ← SrtO.iv_ints h4']
theorem IsTI.keeps {h h' : Heap} {v : Value} {ns : List Int} (a : IsTI h v ns) (k : ∀ b o, h.get? b = some o → o.cls = .type "tuple" → h'.get? b = some o) : IsTI h' v ns := by
  obtain ⟨a, o, its, n, e, h1, h2, h3, h4⟩ := a
  exact ⟨a, o, its, n, e, k a o h1 h2, h2, h3, h4⟩
theorem lex_irr : ∀ {xs : List Int}, HT.lexLt xs xs = false
  | [] => rfl
  | x :: xs => by rw [HT.lexLt_cons, if_pos rfl]; exact lex_irr
theorem lex_asym : ∀ {xs ys : List Int}, HT.lexLt xs ys = true → HT.lexLt ys xs = false
  | [], [], h => by cases h
  | [], _ :: _, _ => rfl
  | _ :: _, [], h => by cases h
  | x :: xs, y :: ys, h => by
    rw [HT.lexLt_cons] at h ⊢
    by_cases e : x = y
    · rw [if_pos e] at h
      rw [if_pos e.symm]
      exact lex_asym h
    · rw [if_neg e] at h
      have := of_decide_eq_true h
      rw [if_neg fun z => e z.symm]
      exact decide_eq_false (by omega)
theorem lex_tr : ∀ {xs ys zs : List Int}, HT.lexLt ys xs = false → HT.lexLt zs ys = false → HT.lexLt zs xs = false
  | [], _, [], _, _ => rfl
  | [], [], _ :: _, _, _ => rfl
  | [], _ :: _, _ :: _, _, _ => rfl
  | _ :: _, [], _, h, _ => by cases h
  | _ :: _, _ :: _, [], _, h => by cases h
  | x :: xs, y :: ys, z :: zs, h1, h2 => by
    rw [HT.lexLt_cons] at h1 h2 ⊢
    by_cases e1 : y = x
    · rw [if_pos e1] at h1
      by_cases e2 : z = y
      · rw [if_pos e2] at h2
        rw [if_pos (by omega)]
        exact lex_tr h1 h2
      · rw [if_neg e2] at h2
        have := of_decide_eq_false h2
        rw [if_neg (by omega)]
        exact decide_eq_false (by omega)
    · rw [if_neg e1] at h1
      have := of_decide_eq_false h1
      by_cases e2 : z = y
      · rw [if_neg (by omega)]
        exact decide_eq_false (by omega)
      · rw [if_neg e2] at h2
        have := of_decide_eq_false h2
        rw [if_neg (by omega)]
        exact decide_eq_false (by omega)
theorem lex_eq : ∀ {xs ys : List Int}, HT.lexLt xs ys = false → HT.lexLt ys xs = false → xs = ys
  | [], [], _, _ => rfl
  | [], _ :: _, h, _ => by cases h
  | _ :: _, [], _, h => by cases h
  | x :: xs, y :: ys, h1, h2 => by
    rw [HT.lexLt_cons] at h1 h2
    by_cases e : x = y
    · rw [if_pos e] at h1
      rw [if_pos e.symm] at h2
      rw [e, lex_eq h1 h2]
    · rw [if_neg e] at h1
      rw [if_neg fun z => e z.symm] at h2
      have := of_decide_eq_false h1
      have := of_decide_eq_false h2
      omega
theorem swo_lexk {α : Type} (k : α → List Int) : SrtO.Swo fun v u => HT.lexLt (k v) (k u) := ⟨fun _ _ h => lex_asym h, fun _ _ _ h1 h2 => lex_tr h1 h2⟩
/-- what the heap's tuple of ints holds -/
noncomputable def tiOf (h : Heap) (v : Value) : List Int := open Classical in if q : ∃ ns, IsTI h v ns then Classical.choose q else []
theorem tiOf_eq {h : Heap} {v : Value} {ns : List Int} (a : IsTI h v ns) : tiOf h v = ns := by
  unfold tiOf
  rw [dif_pos ⟨ns, a⟩]
  exact IsTI.uniq (Classical.choose_spec (⟨ns, a⟩ : ∃ ns, IsTI h v ns)) a
theorem ti_firsts {h : Heap} {k : Value → List Int} : ∀ {vs : List Value}, (∀ v ∈ vs, IsTI h v (k v) ∧ k v ≠ []) → ∃ fs, PySem.W.KatTups h vs fs ∧ fs.length = vs.length ∧ ∀ f ∈ fs, ∃ x t, f = .int x t
  | [], _ => ⟨[], .nil, rfl, fun _ h => nomatch h⟩
  | v :: vs, hp => by
    obtain ⟨fs, h1, h2, h3⟩ := ti_firsts fun v hm => hp v (List.mem_cons_of_mem _ hm)
    obtain ⟨⟨a, o, its, n, rfl, e1, e2, e3, e4⟩, ne⟩ := hp v List.mem_cons_self
    generalize hk : k (.ref a) = l at e4 ne
    cases l with
    | nil => exact absurd rfl ne
    | cons x l =>
      obtain ⟨il⟩ := its
      simp only at e4
      cases e4 with
      | cons x t r => exact ⟨.int x t :: fs, .cons e1 e2 e3 rfl h1, by simp [h2], fun f hf => (List.mem_cons.mp hf).elim (fun e => ⟨x, t, e⟩) (h3 f)⟩
theorem ti_cmp {vs : List Value} {k : Value → List Int} (hp : ∀ v ∈ vs, IsTI s.heap v (k v)) : SrtO.Cmp prog w A s (tuples' true) (fun p => p.1 ∈ vs) (SrtO.lt2 fun v u => HT.lexLt (k v) (k u)) := by
  intro p q hm hm'
  have h1 := hp _ hm
  have h2 := hp _ hm'
  show wpAny (model prog w) A (keyLt' (tuples' true) p.1 q.1) (fun r s' => s' = s ∧ r = HT.lexLt (k p.1) (k q.1)) (fun _ _ => False) s
  obtain ⟨a, o, its, n, e, ho, hc, hd, hi⟩ := h1
  obtain ⟨a', o', its', n', e', ho', hc', hd', hi'⟩ := h2
  rw [e, e'] at *
  refine PySem.W.kat_lt ho hd ho' hd' ?_
  exact kat_ints hi hi' (by simp) ⟨rfl, rfl⟩
theorem ti_sortable {a : Addr} {vs : List Value} {k : Value → List Int} (h0 : 0 < vs.length) (hp : ∀ v ∈ vs, IsTI s.heap v (k v) ∧ k v ≠ []) (ha : ∀ o, s.heap.get? a = some o → o.cls ≠ .type "tuple") : SrtO.SortableO prog w A s a vs fun v u => HT.lexLt (k v) (k u) := by
  intro h' keep
  have hp' : ∀ v ∈ vs, IsTI h' v (k v) ∧ k v ≠ [] := fun v hm => ⟨(hp v hm).1.keeps fun b o e c => keep b o (fun z => by subst z; exact ha o e c) e, (hp v hm).2⟩
  obtain ⟨fs, h1, h2, h3⟩ := ti_firsts hp'
  refine ⟨tuples' true, fun Q E hq => ?_, ti_cmp fun v hm => (hp' v hm).1⟩
  refine PySem.W.kat_kind (T := .type "int") h1 (by omega) (fun f hm => ?_) (by rfl) ?_
  · obtain ⟨x, t, rfl⟩ := h3 f hm
    exact PySem.W.Looks.now
  · have e : (Value.type "int" != Value.type "tuple") = true := by decide +kernel
    rw [e]
    exact hq
end
/-! a sorted list by insertion -/
def insT (x : List Int) : List (List Int) → List (List Int)
  | [] => [x]
  | y :: l => if HT.lexLt y x then y :: insT x l else x :: y :: l
def sortT : List (List Int) → List (List Int)
  | [] => []
  | x :: l => insT x (sortT l)
theorem insT_perm (x : List Int) : ∀ l, (insT x l).Perm (x :: l)
  | [] => .refl _
  | y :: l => by
    unfold insT
    split
    · exact ((insT_perm x l).cons y).trans (.swap x y l)
    · exact .refl _
theorem sortT_perm : ∀ l, (sortT l).Perm l
  | [] => .refl _
  | x :: l => (insT_perm x _).trans ((sortT_perm l).cons x)
def SrtT (l : List (List Int)) : Prop := l.Pairwise fun x y => HT.lexLt y x = false
theorem insT_srt {x : List Int} : ∀ {l}, SrtT l → SrtT (insT x l)
  | [], _ => List.pairwise_singleton _ _
  | y :: l, h => by
    have hh := List.pairwise_cons.mp h
    unfold insT
    by_cases q : HT.lexLt y x = true
    · rw [if_pos q]
      refine List.pairwise_cons.mpr ⟨fun z hz => ?_, insT_srt hh.2⟩
      rcases List.mem_cons.mp ((insT_perm x l).mem_iff.mp hz) with e | hz
      · rw [e]; exact lex_asym q
      · exact hh.1 z hz
    · have q : HT.lexLt y x = false := by simpa using q
      rw [q, if_neg Bool.false_ne_true]
      refine List.pairwise_cons.mpr ⟨fun z hz => ?_, h⟩
      rcases List.mem_cons.mp hz with e | hz
      · rw [e]; exact q
      · exact lex_tr q (hh.1 z hz)
theorem sortT_srt : ∀ l, SrtT (sortT l)
  | [] => .nil
  | x :: l => insT_srt (sortT_srt l)
theorem srtT_uniq : ∀ {l m : List (List Int)}, SrtT l → SrtT m → l.Perm m → l = m
  | [], m, _, _, p => (List.Perm.nil_eq p)
  | x :: l, [], _, _, p => absurd p.length_eq (by simp)
  | x :: l, y :: m, hl, hm, p => by
    have hl' := List.pairwise_cons.mp hl
    have hm' := List.pairwise_cons.mp hm
    have h1 : HT.lexLt x y = false := by
      rcases List.mem_cons.mp (p.mem_iff.mp (List.mem_cons_self (a := x) (l := l))) with e | hx
      · rw [e]; exact lex_irr
      · exact hm'.1 x hx
    have h2 : HT.lexLt y x = false := by
      rcases List.mem_cons.mp (p.mem_iff.mpr (List.mem_cons_self (a := y) (l := m))) with e | hx
      · rw [e]; exact lex_irr
      · exact hl'.1 y hx
    have e := lex_eq h1 h2
    subst e
    rw [srtT_uniq hl'.2 hm'.2 p.cons_inv]
section
variable {prog : Program} {w : World} {A : Around} {s : Shared} {E : Value → Shared → Prop}
theorem sorted_ti {lo : Addr} {vs : List Value} {k : Value → List Int} {Q : Value → Shared → Prop} (li : s.heap.IsList lo vs.toArray) (sz : vs.length ≤ sizeLine) (hp : ∀ v ∈ vs, IsTI s.heap v (k v) ∧ k v ≠ [])
    (fin : ∀ (h1 : Heap) (d : Addr) (out : List Value), SrtO.Srtd (fun v u => HT.lexLt (k v) (k u)) out → out.Perm vs → (∀ b o, s.heap.get? b = some o → h1.get? b = some o) → s.heap.objs.size ≤ d → (∃ n, h1.get? d = some (seqObj "list" out.toArray n)) → Q (.ref d) { s with heap := h1 }) :
    wpAny (model prog w) A (call (.builtin "sorted") [.ref lo]) Q E s :=
  SrtO.sorted_ord (swo_lexk k) li sz (fun two hh a1 at1 old => ti_sortable (s := { s with heap := hh }) (by omega) (fun v m => ⟨(hp v m).1.keeps fun b o e _ => (old b o e).2, (hp v m).2⟩) fun o e => by
    have e' : some o = some (seqObj "list" vs.toArray 0) := e.symm.trans at1
    cases e'
    exact fun c => absurd (Value.type.inj c) (by decide)) fun out so st => fin _ _ out so st.perm (fun b o e => PyProof.Rows.sortedAll_old e) (Nat.le_succ _) (PyProof.Rows.sortedAll_at s.heap vs out.toArray)
end
theorem zip_map_self {α β γ : Type} (f : α → β) (g : α → γ) : ∀ l : List α, (l.map f).zip (l.map g) = l.map fun x => (f x, g x)
  | [] => rfl
  | x :: l => by
    show (f x, g x) :: (l.map f).zip (l.map g) = _
    rw [zip_map_self f g l]
    rfl
def rSortedT (K : PySem.W.Frag) : List V → Hp → VK → Prop := fun vs H Q => ∃ (a : Addr) (xs : List V) (l : List (List Int)), vs = [.ref a] ∧ SqL K H a xs ∧ xs.length = l.length ∧ (∀ q ∈ xs.zip l, q.2 ≠ [] ∧ ∃ t, q.1 = .ref t ∧ SqT K H t (q.2.map V.int)) ∧
  ∀ ys p, (ys.zip (sortT l)).Perm (xs.zip l) → ys.length = l.length → H p = none → Q (.ref p) (upd H p (.lst ys))
theorem cr_sortedT {X : Cx} : CallR X (.builtin "sorted") (rSortedT X.K) := by
  intro pins s σ H vs us Q I r h
  obtain ⟨a, xs, l, rfl, hs, hl, hx, q⟩ := h
  obtain ⟨its, rv, li, sz⟩ := I.list hs
  have ref : ∀ x ∈ xs, ∃ t, x = V.ref t := fun x m => by
    obtain ⟨i, hi, e⟩ := List.mem_iff_getElem.mp m
    obtain ⟨_, t, e', _⟩ := hx (x, l[i]'(by omega)) (List.mem_iff_getElem.mpr ⟨i, by rw [List.length_zip]; omega, by simp [e]⟩)
    exact ⟨t, e'⟩
  obtain ⟨eb, er⟩ := refs_back rv ref
  have lx : xs.length = its.length := by rw [eb, List.length_map]
  have ti : ∀ (i : Nat) (h : i < its.length), IsTI s.heap its[i] (l[i]'(by omega)) ∧ l[i]'(by omega) ≠ [] := fun i hi => by
    obtain ⟨ne, t, e, ht⟩ := hx (xs[i]'(by omega), l[i]'(by omega)) (List.mem_iff_getElem.mpr ⟨i, by rw [List.length_zip]; omega, by simp⟩)
    refine ⟨?_, ne⟩
    obtain ⟨u, hu⟩ := er its[i] (List.getElem_mem hi)
    have e2 : xs[i]'(by omega) = backV its[i] := by simp [eb]
    have e : xs[i]'(by omega) = V.ref t := e
    rw [e2, hu] at e
    have e : V.ref u = V.ref t := e
    cases e
    obtain ⟨its2, r2, ⟨o, n, p1, p2, p3⟩, _⟩ := I.tuple ht
    exact ⟨_, o, its2.toArray, _, hu, n, p1, p3, by simpa using intsAre_of r2⟩
  have el : l = its.map (tiOf s.heap) := by
    refine List.ext_getElem (by rw [List.length_map]; omega) fun i h1 h2 => ?_
    rw [List.getElem_map, tiOf_eq (ti i (by simpa using h2)).1]
  have hp : ∀ v ∈ its, IsTI s.heap v (tiOf s.heap v) ∧ tiOf s.heap v ≠ [] := fun v m => by
    obtain ⟨i, hi, e⟩ := List.mem_iff_getElem.mp m
    have z := ti i hi
    rw [e] at z
    rw [tiOf_eq z.1]
    exact z
  rw [Vals.ref1 r]
  refine sorted_ti (k := tiOf s.heap) li.isList (by rw [← rv.length]; exact sz) hp fun h1 d out so pe old hd ⟨n, at_⟩ => ?_
  have eo : out.map (tiOf s.heap) = sortT l := srtT_uniq (List.pairwise_map.mpr so) (sortT_srt l) ((pe.map _).trans (by rw [← el]; exact (sortT_perm l).symm))
  have ro : ∀ u ∈ out, ∃ a, u = Value.ref a := fun u hu => er u (pe.mem_iff.mp hu)
  refine ⟨.ref d, upd H d (.lst (out.map backV)), I.laid (t' := s.toks) old hd ⟨?_, out, n, vals_back ro, at_⟩, rfl, q _ d ?_ ?_ (I.hok.fresh hd)⟩
  · rw [List.length_map, pe.length_eq, ← lx]; exact sz
  · rw [← eo, eb, el, zip_map_self, zip_map_self]
    exact pe.map _
  · rw [List.length_map, pe.length_eq]; omega
end Kv

namespace Kv
open PySem PySem.Spec L2
open PyProof.Rows hiding St
abbrev tI (l : List Int) : D := .im (.tup (l.map I.int))
/-! ### sorted, over trees -/
def intsI : List I → Option (List Int)
  | [] => some []
  | .int i :: l => (intsI l).map (i :: ·)
  | _ => none
theorem intsI_map : ∀ l : List Int, intsI (l.map I.int) = some l
  | [] => rfl
  | i :: l => by
    show (intsI (l.map I.int)).map (i :: ·) = _
    rw [intsI_map l]
    rfl
theorem intsI_eq : ∀ {l : List I} {ns : List Int}, intsI l = some ns → l = ns.map I.int
  | [], ns, e => by cases e; rfl
  | .int i :: l, ns, e => by
    unfold intsI at e
    cases q : intsI l with
    | none => rw [q] at e; cases e
    | some ms =>
      rw [q] at e
      cases e
      rw [intsI_eq q]
      rfl
  | .non :: _, _, e => by cases e
  | .bl _ :: _, _, e => by cases e
  | .str _ :: _, _, e => by cases e
  | .tup _ :: _, _, e => by cases e
  | .fl _ :: _, _, e => by cases e
  | .adr _ _ :: _, _, e => by cases e
def tupOf : D → Option (List Int)
  | .im (.tup l) => intsI l
  | _ => none
def tupsOf : List D → Option (List (List Int))
  | [] => some []
  | d :: l => (tupOf d).bind fun t => (tupsOf l).map (t :: ·)
theorem tupsOf_map : ∀ l : List (List Int), tupsOf (l.map tI) = some l
  | [] => rfl
  | t :: l => by
    show (intsI (t.map I.int)).bind (fun t => (tupsOf (l.map tI)).map (t :: ·)) = _
    rw [intsI_map, tupsOf_map l]
    rfl
theorem tupOf_eq {d : D} {t : List Int} (e : tupOf d = some t) : d = tI t := by
  unfold tupOf at e
  split at e
  · rw [intsI_eq e]
  · cases e
theorem tupsOf_eq : ∀ {l : List D} {ts : List (List Int)}, tupsOf l = some ts → l = ts.map tI
  | [], ts, e => by cases e; rfl
  | d :: l, ts, e => by
    unfold tupsOf at e
    cases q : tupOf d with
    | none => rw [q] at e; cases e
    | some t =>
      rw [q] at e
      cases q2 : tupsOf l with
      | none => rw [q2] at e; cases e
      | some r =>
        rw [q2] at e
        cases e
        rw [tupOf_eq q, tupsOf_eq q2]
        rfl
def sortI (ns : List Int) : List Int := (sortT (ns.map fun n => [n])).map fun l => l.headD 0
theorem lex_one {a b : Int} : HT.lexLt [a] [b] = decide (a < b) := by
  rw [HT.lexLt_cons]
  by_cases e : a = b
  · rw [if_pos e]
    subst e
    simp [HT.lexLt]
  · rw [if_neg e]
theorem sortI_uniq {ns ms : List Int} (p : ms.Perm ns) (s : ms.Pairwise (· ≤ ·)) : ms = sortI ns := by
  have e : ms.map (fun n => [n]) = sortT (ns.map fun n => [n]) := by
    refine srtT_uniq (List.pairwise_map.mpr (s.imp fun {a b} h => ?_)) (sortT_srt _) ((p.map _).trans (sortT_perm _).symm)
    rw [lex_one]
    exact decide_eq_false (by omega)
  unfold sortI
  rw [← e, List.map_map]
  exact (List.map_id ms).symm
theorem sortI_perm (ns : List Int) : (sortI ns).Perm ns := by
  have := (sortT_perm (ns.map fun n => [n])).map fun l => l.headD 0
  rw [List.map_map] at this
  exact this.trans (by rw [show ((fun l : List Int => l.headD 0) ∘ fun n => [n]) = id from rfl, List.map_id])
theorem sortI_srt (ns : List Int) : (sortI ns).Pairwise (· ≤ ·) := by
  unfold sortI
  refine List.pairwise_map.mpr ((sortT_srt _).imp_of_mem fun {a b} ha hb h => ?_)
  have sing : ∀ x ∈ sortT (ns.map fun n => [n]), ∃ n, x = [n] := fun x hx => by
    obtain ⟨n, _, e⟩ := List.mem_map.mp ((sortT_perm _).mem_iff.mp hx)
    exact ⟨n, e.symm⟩
  obtain ⟨n, rfl⟩ := sing a ha
  obtain ⟨m, rfl⟩ := sing b hb
  rw [lex_one] at h
  have := of_decide_eq_false h
  show n ≤ m
  omega
def bSorted : D → Option Rs
  | .lst l => (match intsOf l with
    | some ns => some ⟨True, .lst ((sortI ns).map fun i => int i), 1⟩
    | none => (tupsOf l).map fun ts => ⟨∀ t ∈ ts, t ≠ [], .lst ((sortT ts).map tI), 1⟩)
  | _ => none
theorem RepDs.zip {K : PySem.W.Frag} {H : Hp} {Z : Addr → Prop} : ∀ {ts : List (List Int)} {vs : List V}, RepDs K H Z 0 (ts.map tI) vs [] → vs.length = ts.length ∧ ∀ q ∈ vs.zip ts, RepD K H Z 0 (tI q.2) q.1 []
  | [], vs, h => by
    have h : RepDs K H Z 0 [] vs [] := h
    unfold RepDs at h
    rw [h.1]
    exact ⟨rfl, fun q hq => nomatch hq⟩
  | t :: ts, vs, h => by
    obtain ⟨v, r, e, h1, h2⟩ := RepDs.one h
    obtain ⟨i1, i2⟩ := RepDs.zip h2
    subst e
    exact ⟨by simp [i1], fun q hq => (List.mem_cons.mp hq).elim (fun e => by rw [e]; exact h1) (i2 q)⟩
theorem RepDs.unzip {K : PySem.W.Frag} {H : Hp} {Z : Addr → Prop} : ∀ {ts : List (List Int)} {vs : List V}, vs.length = ts.length → (∀ q ∈ vs.zip ts, RepD K H Z 0 (tI q.2) q.1 []) → RepDs K H Z 0 (ts.map tI) vs []
  | [], vs, l, h => by
    rw [List.eq_nil_of_length_eq_zero l]
    show RepDs K H Z 0 [] [] []
    unfold RepDs
    exact ⟨rfl, rfl⟩
  | t :: ts, [], l, h => by cases l
  | t :: ts, v :: vs, l, h => by
    show RepDs K H Z 0 (tI t :: ts.map tI) (v :: vs) []
    unfold RepDs
    exact ⟨v, vs, [], [], rfl, h (v, t) List.mem_cons_self, RepDs.unzip (by simpa using l) fun q hq => h q (List.mem_cons_of_mem _ hq), rfl⟩
theorem tI_rep {K : PySem.W.Frag} {H : Hp} {Z : Addr → Prop} {t : List Int} {v : V} (h : RepD K H Z 0 (tI t) v []) : ∃ a, v = .ref a ∧ SqT K H a (t.map V.int) := by
  have h := im_of h
  unfold RepI at h
  obtain ⟨a, vs, e, h1, h2⟩ := h
  have intR : ∀ {t : List Int} {vs : List V}, RepIs K H (t.map I.int) vs → vs = t.map V.int := fun {t} => by
    induction t with
    | nil => intro vs h; have h : RepIs K H [] vs := h; unfold RepIs at h; exact h
    | cons x t ih =>
      intro vs h
      have h : RepIs K H (.int x :: t.map I.int) vs := h
      unfold RepIs at h
      obtain ⟨v, r, e, h1, h2⟩ := h
      unfold RepI at h1
      rw [e, h1, ih h2]
      rfl
  exact ⟨a, e, by rw [← intR h2]; exact h1⟩
section
variable {X : Cx} {W : WX} {pos p : Pos} {e a b : Expr} {es : List Expr} {ags : List Ag} {M1 M2 : List Nat} {m1 m2 : VE}
theorem cr_sortedD : CallR X (.builtin "sorted") (fun vs H Q => rSortedI X.K vs H Q ∨ rSortedT X.K vs H Q) := fun pins s σ H xs us Q I r h =>
  h.elim (cr_sortedI pins s σ H xs us Q I r) (cr_sortedT pins s σ H xs us Q I r)
theorem ee_sorted (hg : Gl X "sorted") (hm : X.mg "sorted" = none) (ha : EA X W [e] ags) (hx : ags.all Ag.isEx = true := by rfl) (he : starEach [e] X.env = (false, eval e X.env) :: starEach [] X.env := by rfl) (hpl : (backTo pos (starEach [] X.env)).any (·.1) = false := by rfl) :
    EE X W (agM ags) (.Call (.Name "sorted" p) [e] [] pos) (vOp (one bSorted) ags) :=
  ee_callB cr_sortedD (one_ok fun a c x H Zx Q e hc h k => by
    unfold bSorted at e
    split at e
    · rename_i l
      obtain ⟨p, vs, e1, h1, r1⟩ := lst_of h
      split at e
      · rename_i ns q
        cases e
        have ev := intsOf_rep q r1
        subst ev
        refine .inl ⟨p, ns, by rw [e1], .inl (.inl h1), fun ms p pe so hp => ?_⟩
        rw [sortI_uniq pe so]
        have irep : ∀ l : List Int, RepDs X.K H Zx 0 (l.map fun i => int i) (l.map V.int) [] := fun l => by
          induction l with
          | nil => unfold RepDs; exact ⟨rfl, rfl⟩
          | cons x l ih =>
            show RepDs X.K H Zx 0 (int x :: l.map fun i => int i) (.int x :: l.map V.int) []
            unfold RepDs
            refine ⟨.int x, _, [], [], rfl, ?_, ih, rfl⟩
            unfold RepD
            exact ⟨rfl, rfl⟩
        exact res_newL k (irep _) hp
      · cases q : tupsOf l with
        | none => rw [q] at e; cases e
        | some ts =>
          rw [q] at e
          cases e
          have el := tupsOf_eq q
          subst el
          obtain ⟨z1, z2⟩ := RepDs.zip r1
          refine .inr ⟨p, vs, ts, by rw [e1], .inl (.inl h1), z1, fun q hq => ⟨hc _ (List.of_mem_zip hq).2, tI_rep (z2 q hq)⟩, fun ys p pe ly hp => ?_⟩
          exact res_newL k (RepDs.unzip (by rw [ly, (sortT_perm ts).length_eq]) fun q hq => z2 q (pe.mem_iff.mp hq)) hp
    · cases e) hg hm (by decide +kernel) ha hx (by decide) (by decide) he hpl
/-! ### < of ints, of tuples of ints -/
def oLtX : Op2 := fun a b => match a, b with
  | .im (.int i), .im (.int j) => some ⟨True, bl (decide (i < j)), 0⟩
  | a, b => (tupOf a).bind fun s => (tupOf b).map fun t => ⟨True, bl (HT.lexLt s t), 0⟩
theorem op_ltX (hu : X.A.units + 64 < cLine) : OpR X (compareOp .Lt) (fun x y H Q => rI0 (fun i j => .bl (decide (i < j))) x y H Q ∨ rLtT X.K x y H Q) := OpR.or op_lt (op_ltT (by omega))
theorem oLtX_ok : Op2Ok X oLtX (fun x y H Q => rI0 (fun i j => .bl (decide (i < j))) x y H Q ∨ rLtT X.K x y H Q) := fun a b c x y H Zx Q e hc ha hb k => by
  unfold oLtX at e
  split at e
  · cases e
    exact .inl ⟨_, _, int_of ha, int_of hb, resIm k rfl⟩
  · cases q : tupOf a with
    | none => rw [q] at e; cases e
    | some s =>
      rw [q] at e
      cases q2 : tupOf b with
      | none => rw [q2] at e; cases e
      | some t =>
        rw [q2] at e
        cases e
        have ea := tupOf_eq q
        have eb := tupOf_eq q2
        subst ea eb
        obtain ⟨a, e1, h1⟩ := tI_rep ha
        obtain ⟨b, e2, h2⟩ := tI_rep hb
        exact .inr ⟨a, b, s, t, e1, e2, h1, h2, resIm k rfl⟩
theorem ee_ltX (hu : X.A.units + 64 < cLine) (ha : EE X W M1 a m1) (hb : EE X W M2 b m2) : EE X W (M1 ++ M2) (.Compare a [.Lt] [b] pos) (vBin oLtX M2 m1 m2) := ee_cmp (op_ltX hu) oLtX_ok ha hb (nomark b)
theorem et_ltX (hu : X.A.units + 64 < cLine) (ha : EE X W M1 a m1) (hb : EE X W M2 b m2) : ET X W (M1 ++ M2) (.Compare a [.Lt] [b] pos) (vTv trB (vBin oLtX M2 m1 m2)) := et_cmp (op_ltX hu) oLtX_ok ha hb (nomark b)
/-! ### x in l, l a list -/
def anyEq (l : List D) (a : D) : Bool := (dPys l).any fun z => PyData.eqv z (dPy a)
def oIn : Op2 := fun a b => match b with
  | .lst l => some ⟨shD a ∧ shD (.lst l), bl (anyEq l a), 0⟩
  | _ => none
def oNi : Op2 := fun a b => match b with
  | .lst l => some ⟨shD a ∧ shD (.lst l), bl (!anyEq l a), 0⟩
  | _ => none
theorem oIn_ok : Op2Ok X oIn (rInD X.K) := fun a b c x y H Zx Q e hc ha hb k => by
  unfold oIn at e
  split at e
  · rename_i l
    cases e
    have hb' := dPy_dp (n := 0) _ (SeqAt.canLay_of_shaped hc.2) hb
    unfold dPy at hb'
    refine ⟨_, _, dPy_dp (n := 0) _ (SeqAt.canLay_of_shaped hc.1) ha, hb', hc.1, ?_, resIm k rfl⟩
    have := hc.2
    unfold shD dPy at this
    exact this
  · cases e
theorem oNi_ok : Op2Ok X oNi (rNotInD X.K) := fun a b c x y H Zx Q e hc ha hb k => by
  unfold oNi at e
  split at e
  · rename_i l
    cases e
    have hb' := dPy_dp (n := 0) _ (SeqAt.canLay_of_shaped hc.2) hb
    unfold dPy at hb'
    refine ⟨_, _, dPy_dp (n := 0) _ (SeqAt.canLay_of_shaped hc.1) ha, hb', hc.1, ?_, resIm k rfl⟩
    have := hc.2
    unfold shD dPy at this
    exact this
  · cases e
theorem units5 {k : Nat} {A : Around} (r : Room k A) : A.units + 65 < cLine := by have := r.un; omega
theorem ee_in (hu : X.A.units + 65 < cLine) (ha : EE X W M1 a m1) (hb : EE X W M2 b m2) (hm : behindInMarks .In b = false := by rfl) : EE X W (M1 ++ M2) (.Compare a [.In] [b] pos) (vBin oIn M2 m1 m2) := ee_cmp (op_inD hu) oIn_ok ha hb hm
theorem et_in (hu : X.A.units + 65 < cLine) (ha : EE X W M1 a m1) (hb : EE X W M2 b m2) (hm : behindInMarks .In b = false := by rfl) : ET X W (M1 ++ M2) (.Compare a [.In] [b] pos) (vTv trB (vBin oIn M2 m1 m2)) := et_cmp (op_inD hu) oIn_ok ha hb hm
theorem ee_ni (hu : X.A.units + 65 < cLine) (ha : EE X W M1 a m1) (hb : EE X W M2 b m2) (hm : behindInMarks .NotIn b = false := by rfl) : EE X W (M1 ++ M2) (.Compare a [.NotIn] [b] pos) (vBin oNi M2 m1 m2) := ee_cmp (op_notInD hu) oNi_ok ha hb hm
theorem et_ni (hu : X.A.units + 65 < cLine) (ha : EE X W M1 a m1) (hb : EE X W M2 b m2) (hm : behindInMarks .NotIn b = false := by rfl) : ET X W (M1 ++ M2) (.Compare a [.NotIn] [b] pos) (vTv trB (vBin oNi M2 m1 m2)) := et_cmp (op_notInD hu) oNi_ok ha hb hm
end
end Kv

namespace Kv
open PySem PySem.Spec L2
open PyProof.Rows hiding St
/-! ### l[::-1], module constants, l.insert -/
def oRev : Op1 := fun d => match d with
  | .lst l => some ⟨True, .lst l.reverse, 1⟩
  | _ => none
theorem RepDs.rev {K : PySem.W.Frag} {H : Hp} {Z : Addr → Prop} : ∀ {l : List D} {vs : List V}, RepDs K H Z 0 l vs [] → RepDs K H Z 0 l.reverse vs.reverse []
  | [], vs, h => by
    have h' := h
    unfold RepDs at h'
    rw [h'.1] at h ⊢
    exact h
  | d :: l, vs, h => by
    obtain ⟨v, r, e, h1, h2⟩ := RepDs.one h
    subst e
    rw [List.reverse_cons, List.reverse_cons]
    exact RepDs.snoc (RepDs.rev h2) h1
section
variable {X : Cx} {W : WX} {pos p : Pos} {e a b : Expr} {M : List Nat} {m : VE}
theorem ee_rev {k : Nat} {p1 p2 p3 : Pos} (he : EE X W M e m) : EE X W M (.Subscript e (.Slice none none (some (.UnaryOp .USub (.Constant (.int 1) k p1) p2)) p3) pos) (vUn oRev m) :=
  peImp (pe_revL he) (un_ok (r := fun x H1 Q => ∃ a xs, x = .ref a ∧ SqL X.K H1 a xs ∧ ∀ p, H1 p = none → Q (.ref p) (upd H1 p (.lst xs.reverse))) fun d c x H Zx Q e hc h k => by
    unfold oRev at e
    split at e
    · cases e
      obtain ⟨p, vs, e1, h1, r1⟩ := lst_of h
      exact ⟨p, vs, e1, .inl (.inl h1), fun q hq => res_newL k (RepDs.rev r1) hq⟩
    · cases e)
theorem ee_gi {x : Str} {i : Int} (hg : Gl X x) (hm : ∃ t, X.mg x = some (.int i t)) (hd : (x == ("__debug__" : Str)) = false := by decide) : EE X W [] (.Name x pos) (vC (.int i)) := by
  obtain ⟨t, hm⟩ := hm
  exact ee_c (pe_glob (v := .int i) hg hm ⟨t, rfl⟩ hd) fun _ _ => rfl
theorem ee_gs {x z : Str} (hg : Gl X x) (hm : ∃ t, X.mg x = some (.str z t)) (hd : (x == ("__debug__" : Str)) = false := by decide) : EE X W [] (.Name x pos) (vC (.str z)) := by
  obtain ⟨t, hm⟩ := hm
  exact ee_c (pe_glob (v := .str z) hg hm ⟨t, rfl⟩ hd) fun _ _ => rfl
end
section
variable {env : En} {Qn : Tv → En → Prop} {Qx : Xd → En → Prop} {d : D} {i i' : Int}
theorem e_rev {l : List D} : oRev (.lst l) = some ⟨True, .lst l.reverse, 1⟩ := id rfl
theorem e_ltX : oLtX (.im (.int i)) (.im (.int i')) = some ⟨True, bl (decide (i < i')), 0⟩ := id rfl
theorem e_ltT {s t : List Int} : oLtX (.im (.tup (s.map I.int))) (.im (.tup (t.map I.int))) = some ⟨True, bl (HT.lexLt s t), 0⟩ := by
  show (intsI (s.map I.int)).bind (fun s => (intsI (t.map I.int)).map fun t => (⟨True, bl (HT.lexLt s t), 0⟩ : Rs)) = _
  rw [intsI_map, intsI_map]
  rfl
theorem e_in {l : List D} : oIn d (.lst l) = some ⟨shD d ∧ shD (.lst l), bl (anyEq l d), 0⟩ := id rfl
theorem e_ni {l : List D} : oNi d (.lst l) = some ⟨shD d ∧ shD (.lst l), bl (!anyEq l d), 0⟩ := id rfl
theorem e_srtI {ns : List Int} : bSorted (.lst (ns.map fun i => .im (.int i))) = some ⟨True, .lst ((sortI ns).map fun i => .im (.int i)), 1⟩ := by
  unfold bSorted
  have := intsOf_map ns
  simp only [this]
theorem e_srtT {ts : List (List Int)} (h : ts ≠ []) : bSorted (.lst (ts.map tI)) = some ⟨∀ t ∈ ts, t ≠ [], .lst ((sortT ts).map tI), 1⟩ := by
  unfold bSorted
  have e1 : intsOf (ts.map tI) = none := by
    cases ts with
    | nil => exact absurd rfl h
    | cons t ts => rfl
  have e2 := tupsOf_map ts
  simp only [e1, e2]
  rfl
theorem e_truL {l : List D} : tru (.lst l) = some (!l.isEmpty) := id rfl
theorem e_truT {l : List I} : tru (.im (.tup l)) = some (!l.isEmpty) := id rfl
theorem e_par {i j : Nat} {m1 m2 : VE} {M1 M2 : List Nat} {P : VD} : vPar i j [.ex m1 M1, .ex m2 M2] env P = m1 env (fun a env1 => m2 env1 (fun b env2 => Apart b [] ∧ Apart a (M2 ++ []) ∧ nxK (((frz (a.s ++ (b.s ++ [])) env2).set i (some (a.d, 0))).set j (some (b.d, 0))) P.nx ⟨⟩) P.xc) P.xc := id rfl
theorem e_eqB {b c : Bool} : oEq (.im (.bl b)) (.im (.bl c)) = some ⟨shD (bl b) ∧ shD (bl c), bl (b == c), 0⟩ := id rfl
theorem e_cast {n : Nat} : ((no_index (OfNat.ofNat n) : Nat) : Int) = OfNat.ofNat n := id rfl
theorem e_cast0 : ((0 : Nat) : Int) = 0 := id rfl
theorem e_cast1 : ((1 : Nat) : Int) = 1 := id rfl
theorem e_res0 : res (d, 0) [] = ⟨d, 0, []⟩ := by cases d <;> rfl
theorem e_rd0 {j : Nat} : rdN d 0 j = ⟨d, 0, []⟩ := by cases d <;> rfl
theorem e_oc0 {io : List Nat} {os : List D} : outsClean (0 :: io) (d :: os) = outsClean io os := id rfl
theorem e_ocN {os : List D} : outsClean [] os = true := by
  cases os <;> rfl
theorem e_ocS {n : Nat} {io : List Nat} {os : List D} : outsClean ((n + 1) :: io) (d :: os) = (clean (n + 1) d && outsClean io os) := id rfl
theorem e_clI {n : Nat} {x : I} : clean n (.im x) = true := by unfold clean; rfl
theorem e_clL {n : Nat} {l : List D} : clean (n + 1) (.lst l) = cleans n l := by
  conv => lhs; unfold clean
theorem e_clM {α : Type} {n : Nat} {l : List α} {f : α → I} : cleans n (l.map fun x => .im (f x)) = true := by
  rw [← e_mapIf]
  exact cleans_im n _
theorem e_clN {n : Nat} : cleans n [] = true := by unfold cleans; rfl
theorem e_clC {n : Nat} {l : List D} : cleans n (d :: l) = (clean n d && cleans n l) := by
  conv => lhs; unfold cleans
end
theorem atI_mem {α : Type} {l : List α} {i : Int} (h0 : 0 ≤ i) (h1 : i < l.length) : ∃ x, x ∈ l ∧ l[i.toNat]? = some x ∧ atI l i = some x := by
  have hb : i.toNat < l.length := by omega
  refine ⟨l[i.toNat], List.getElem_mem hb, List.getElem?_eq_getElem hb, ?_⟩
  unfold atI ixN
  rw [if_pos h0, if_pos h1]
  exact List.getElem?_eq_getElem hb
instance (t : Tv) (M : List Nat) : Decidable (Apart t M) := inferInstanceAs (Decidable (∀ j ∈ t.s, j ∉ M))
/-! ### == of trees -/
theorem eqv_ints : ∀ s t : List Int, PyData.eqvAll (toPys (s.map I.int)) (toPys (t.map I.int)) = decide (s = t)
  | [], [] => rfl
  | [], _ :: _ => by
    show false = _
    simp
  | _ :: _, [] => by
    show false = _
    simp
  | a :: s, b :: t => by
    show (PyData.eqv (.int a) (.int b) && PyData.eqvAll (toPys (s.map I.int)) (toPys (t.map I.int))) = _
    rw [eqv_ints s t]
    show ((a == b) && decide (s = t)) = _
    rw [Bool.eq_iff_iff]
    simp
theorem eqD_tI (s t : List Int) : eqD (tI s) (tI t) = decide (s = t) := by
  show PyData.eqv (.tuple (toPys (s.map I.int))) (.tuple (toPys (t.map I.int))) = _
  unfold PyData.eqv
  exact eqv_ints s t
theorem lay_ints : ∀ s : List Int, PyData.canLayAll0 (toPys (s.map I.int)) = true ∧ PyData.depthAll (toPys (s.map I.int)) = 0
  | [] => ⟨rfl, rfl⟩
  | a :: s => by
    obtain ⟨h1, h2⟩ := lay_ints s
    refine ⟨?_, ?_⟩
    · show (true && PyData.canLayAll0 (toPys (s.map I.int))) = true
      rw [h1]; rfl
    · show max 0 (PyData.depthAll (toPys (s.map I.int))) = 0
      rw [h2]; rfl
theorem sh_tI (s : List Int) : shD (tI s) := by
  obtain ⟨h1, h2⟩ := lay_ints s
  show (PyData.canLayAll0 (toPys (s.map I.int)) && decide (PyData.depthAll (toPys (s.map I.int)) + 1 ≤ 64)) = true
  rw [h1, h2]
  rfl
theorem sh_lT (l : List (List Int)) : shD (.lst (l.map tI)) := by
  have key : ∀ l : List (List Int), PyData.canLayAll0 (dPys (l.map tI)) = true ∧ PyData.depthAll (dPys (l.map tI)) ≤ 1 := fun l => by
    induction l with
    | nil => exact ⟨rfl, by show 0 ≤ 1; omega⟩
    | cons s l ih =>
      obtain ⟨h1, h2⟩ := lay_ints s
      refine ⟨?_, ?_⟩
      · show (PyData.canLayAll0 (toPys (s.map I.int)) && PyData.canLayAll0 (dPys (l.map tI))) = true
        rw [h1, ih.1]; rfl
      · show max (PyData.depthAll (toPys (s.map I.int)) + 1) (PyData.depthAll (dPys (l.map tI))) ≤ 1
        rw [h2]
        have := ih.2
        omega
  obtain ⟨h1, h2⟩ := key l
  show (PyData.canLayAll0 (dPys (l.map tI)) && decide (PyData.depthAll (dPys (l.map tI)) + 1 ≤ 64)) = true
  rw [h1, Bool.true_and]
  exact decide_eq_true (by omega)
theorem any_lT (l : List (List Int)) (s : List Int) : anyEq (l.map tI) (tI s) = decide (s ∈ l) := by
  unfold anyEq
  induction l with
  | nil => simp [dPys]
  | cons t l ih =>
    show (PyData.eqv (dPy (tI t)) (dPy (tI s)) || (dPys (l.map tI)).any fun z => PyData.eqv z (dPy (tI s))) = _
    rw [ih, show PyData.eqv (dPy (tI t)) (dPy (tI s)) = decide (t = s) from eqD_tI t s, Bool.eq_iff_iff, Bool.or_eq_true, decide_eq_true_iff, decide_eq_true_iff, decide_eq_true_iff, List.mem_cons]
    exact ⟨fun h => h.imp Eq.symm id, fun h => h.imp Eq.symm id⟩
theorem e_eqT {s t : List Int} : oEq (.im (.tup (s.map I.int))) (.im (.tup (t.map I.int))) = some ⟨shD (tI s) ∧ shD (tI t), bl (decide (s = t)), 0⟩ := by
  rw [← eqD_tI]; rfl
theorem e_neT {s t : List Int} : oNe (.im (.tup (s.map I.int))) (.im (.tup (t.map I.int))) = some ⟨shD (tI s) ∧ shD (tI t), bl (!decide (s = t)), 0⟩ := by
  rw [← eqD_tI]; rfl
end Kv

namespace Kv
open PySem PySem.Spec L2
open PyProof.Rows hiding St
/-! ### lists owned to any depth: x[i] = v of what never changes -/
theorem RepDs.setI {K : PySem.W.Frag} {H : Hp} {Z : Addr → Prop} {n : Nat} {i : I} {v : V} : ∀ {l : List D} {vs : List V} {q : Nat} {A : List Addr} {o : I}, RepDs K H Z n l vs A → l[q]? = some (.im o) → RepI K H i v → RepDs K H Z n (l.set q (.im i)) (vs.set q v) A
  | [], vs, q, A, o, h, e, r => by simp at e
  | d :: l, vs, q, A, o, h, e, r => by
    unfold RepDs at h
    obtain ⟨w, wr, A1, A2, e1, h1, h2, e2⟩ := h
    subst e1
    cases q with
    | zero =>
      have ed : d = .im o := by simpa using e
      subst ed
      have h1' := h1
      unfold RepD at h1'
      show RepDs K H Z n (.im i :: l) (v :: wr) A
      unfold RepDs
      refine ⟨v, wr, A1, A2, rfl, ?_, h2, e2⟩
      unfold RepD
      exact ⟨r, h1'.2⟩
    | succ q =>
      show RepDs K H Z n (d :: l.set q (.im i)) (w :: wr.set q v) A
      unfold RepDs
      exact ⟨w, _, A1, A2, rfl, h1, RepDs.setI h2 (by simpa using e) r, e2⟩
section
variable {K : PySem.W.Frag} {σ : St} {env : En} {H : Hp} {Z : Addr → Prop} {As : Ow}
theorem SA.ownN {j n : Nat} {l : List D} (S : SA K H Z As σ env) (e : env[j]? = some (some (.lst l, n + 1))) : ∃ a vs A, σ[j]? = some (some (.ref a)) ∧ H a = some (.lst vs) ∧ As j = a :: A ∧ RepDs K H Z n l vs A := by
  obtain ⟨v, r1, r2⟩ := S.rep j (.lst l) (n + 1) e
  unfold RepD at r2
  obtain ⟨a, vs, A', e1, h1, h2, e2⟩ := r2
  subst e1
  exact ⟨a, vs, A', r1, h1, e2, h2⟩
theorem SA.wrN {j n : Nat} {l' : List D} {a : Addr} {vs vs' : List V} {A : List Addr} (S : SA K H Z As σ env) (hv : σ[j]? = some (some (.ref a))) (ha : H a = some (.lst vs)) (hj : As j = a :: A) (r : RepDs K H Z n l' vs' A) :
    SA K (upd H a (.lst vs')) Z As σ (env.set j (some (.lst l', n + 1))) := by
  have inj : a ∈ As j := by rw [hj]; exact List.mem_cons_self
  have nz : ¬ Z a := S.dz j a inj
  have hm : Mut (H a) := by rw [ha]; exact True.intro
  have nA : ∀ b ∈ A, b ≠ a := fun b hb e => by
    have := S.nd j
    rw [hj] at this
    exact (List.nodup_cons.mp this).1 (by rw [← e]; exact hb)
  have neA : ∀ i, i ≠ j → ∀ b ∈ As i, b ≠ a := fun i hi b hb e => S.dj i j hi b hb (by rw [e]; exact inj)
  have mt : ∀ b, Mut (H b) → Mut (upd H a (.lst vs') b) := fun b m => by
    by_cases e : b = a
    · rw [e, upd_same]; exact True.intro
    · rw [upd_ne e]; exact m
  refine ⟨by rw [List.length_set]; exact S.len, fun i d n e => ?_, S.nd, S.dj, fun i b hb => mt b (S.mu i b hb), S.dz, fun b z => mt b (S.zt b z)⟩
  have fx : ∀ b o, H b = some o → ¬ Mut (some o) → upd H a (.lst vs') b = some o := fun b o e m => by
    rw [upd_ne (fun q => m (by rw [← e, q]; exact hm))]; exact e
  have fz : ∀ b o, Z b → H b = some o → upd H a (.lst vs') b = some o ∧ Z b := fun b o z e => ⟨by rw [upd_ne (fun q => nz (by rw [← q]; exact z))]; exact e, z⟩
  rcases getElem?_set_some e with ⟨h1, h2⟩ | ⟨h1, h2⟩
  · cases h2
    subst h1
    refine ⟨_, hv, ?_⟩
    rw [hj]
    unfold RepD
    exact ⟨a, vs', A, rfl, upd_same, RepDs.keep fx fz _ _ _ _ (fun b hb o e => by rw [upd_ne (nA b hb)]; exact e) r, rfl⟩
  · obtain ⟨v, r1, r2⟩ := S.rep i d n h2
    exact ⟨v, r1, RepD.keep fx fz _ _ _ _ (fun b hb o e => by rw [upd_ne (neA i h1 b hb)]; exact e) r2⟩
end
/-- a slot's own list, of any depth -/
def ownX (env : En) (j : Nat) (k : Nat → List D → Prop) : Prop := match env[j]? with
  | some (some (.lst l, n + 1)) => k n l
  | _ => False
theorem ownX_of {env : En} {j : Nat} {k : Nat → List D → Prop} (h : ownX env j k) : ∃ n l, env[j]? = some (some (.lst l, n + 1)) ∧ k n l := by
  unfold ownX at h
  split at h
  · rename_i l n e
    exact ⟨n, l, e, h⟩
  · exact h.elim
/-- what never changes put over what never changes -/
def setX (l : List D) (k : Int) (d : D) : Option (List D) := match d with
  | .im i => (ixN l.length k).bind fun q => (match l[q]? with
    | some (.im _) => some (l.set q (.im i))
    | _ => none)
  | _ => none
def vSetX (j : Nat) (me mi : VE) : VS := fun env P => me env (fun t env1 => ownX env1 j fun _ _ => mi env1 (fun ti env2 => ownX env2 j fun n l => match ti.d with
  | .im (.int k) => (match setX l k t.d with
    | some l' => P.nx (env2.set j (some (.lst l', n + 1)))
    | none => False)
  | _ => False) P.xc) P.xc
section
variable {X : Cx} {W : WX} {U M Mi : List Nat} {pos : Pos} {e : Expr} {me mi : VE} {x : Str} {j : Nat}
theorem ss_setX {i : Expr} {p spos : Pos} (he : EE X W M e me) (hN : X.N[j]? = some x) (hv : Vis X.env.scope x) (hi : EE X W Mi i mi) (hd : (x == ("__debug__" : Str)) = false := by decide) (hcd : (x == ("__classdict__" : Str)) = false := by decide)
    (ha : ∀ v, assign (.Subscript (.Name x p) i spos) X.env v = (do
      let ov ← holding [v] (eval (.Name x p) X.env)
      let iv ← holding [v, ov] (eval i X.env)
      standAt spos
      holding [v, ov, iv] (setItem ov iv v)
      release [v, ov, iv] []) := by intro _; rfl)
    (hs : swapsWithSole [.Subscript (.Name x p) i spos] e pos.line X.env = pure false := by rfl) (hw : swappedStores [.Subscript (.Name x p) i spos] e X.env = pure none := by rfl)
    (h1 : (assignEach [.Subscript (.Name x p) i spos] X.env).map (·.2) = [assign (.Subscript (.Name x p) i spos) X.env] := by rfl) :
    SS X W U (.Assign [.Subscript (.Name x p) i spos] e pos) (vSetX j me mi) :=
  psImp (ps_asg he (pg_sub (pe_var hN hv hd hcd) hi set_list ha) hs hw h1) fun D σ H ⟨env, Z, As, P, S, q, bk⟩ => by
    refine ⟨env, Z, As, _, _, S, q, fun t env1 y H1 Z1 As1 B q st1 S1 T1 n1 => ?_, bk.xto⟩
    obtain ⟨n1', l1, e1, q⟩ := ownX_of q
    obtain ⟨a, vs1, A1, v1, _, _, _⟩ := S1.ownN e1
    have own1 := RepD.own _ _ _ _ T1.rep
    have S1f := SA.froze S1 (A := B) fun b hb => ⟨own1 b hb, (T1.dj b hb).2⟩
    have st1f := st1.froze n1
    refine ⟨_, v1, env1, _, As1, _, _, S1f, q, fun ti env2 k H2 Z2 As2 B2 q2 st2 S2 T2 n2 => ?_, (bk.step st1f.go .refl).xto⟩
    obtain ⟨n, l, e2, q2⟩ := ownX_of q2
    split at q2
    · rename_i kk ek
      split at q2
      · rename_i l' el
        unfold setX at el
        split at el
        · rename_i iv et
          cases hq : ixN l.length kk with
          | none => rw [hq] at el; cases el
          | some q0 =>
            rw [hq] at el
            have el : (match l[q0]? with
              | some (.im _) => some (l.set q0 (.im iv))
              | _ => none) = some l' := el
            split at el
            · rename_i o hlo
              cases el
              have ri : RepI X.K H2 iv y := by
                have r := T1.rep
                rw [et] at r
                unfold RepD at r
                exact RepI.keep (st2.fix S1f) iv y r.1
              obtain ⟨a', vs, A, v2, h2, h3, h4⟩ := S2.ownN e2
              rw [v1] at v2
              have ea : a = a' := V.ref.inj (Option.some.inj (Option.some.inj v2))
              subst ea
              have ek2 := T2.rep
              rw [ek] at ek2
              have ek3 := int_of ek2
              subst ek3
              refine ⟨a, vs, kk, q0, rfl, rfl, h2, by rw [RepDs.length h4]; exact hq, ?_⟩
              have S4 := S2.wrN v1 h2 h3 (RepDs.setI h4 hlo ri)
              exact bk.nx _ σ _ _ _ q2 ((st1f.go.trans st2.go).trans (go_wr (j := j) (by rw [h3]; exact List.mem_cons_self))) S4 .refl
            · cases el
        · cases el
      · exact q2.elim
    · exact q2.elim
end

/-! ### a list display that owns its parts -/
def ok2 (t : Tv) : Prop := match t.d with
  | .im _ => True
  | _ => t.n = 1 ∧ t.s = []
def oks2 : List Tv → Prop
  | [] => True
  | t :: ts => ok2 t ∧ oks2 ts
def vLst2 (ags : List Ag) : VE := fun env Qn Qx => vAs ags env (fun ts env1 => oks2 ts ∧ ts.length ≤ 16777216 ∧ Qn ⟨.lst (ts.map (·.d)), 2, []⟩ env1) Qx
theorem ok2_rep {K : PySem.W.Frag} {H : Hp} {Z : Addr → Prop} {As : Ow} {t : Tv} {v : V} {A : List Addr} (h : ok2 t) (T : TvOk K H Z As t v A) : RepD K H Z 1 t.d v A := by
  obtain ⟨d, n, s⟩ := t
  have key : ∀ {d : D}, RepD K H (Zs Z As s) n d v A → (n = 1 ∧ s = []) → RepD K H Z 1 d v A := fun {d} r hh => by
    obtain ⟨e1, e2⟩ := hh
    subst e1 e2
    exact RepD.keep (fun _ _ e _ => e) (fun a o z e => ⟨e, z.elim id fun ⟨_, hj, _⟩ => nomatch hj⟩) _ _ _ _ (fun _ _ _ e => e) r
  cases d with
  | im i =>
    have r := T.rep
    unfold RepD at r ⊢
    exact r
  | tup l => exact key T.rep h
  | lst l => exact key T.rep h
theorem oks2_rep {K : PySem.W.Frag} {H : Hp} {Z : Addr → Prop} {As : Ow} {σ : St} : ∀ {ags : List Ag} {ts : List Tv} {vs : List V} {B : List Addr}, ags.all Ag.isEx = true → oks2 ts → TsOk K H Z As σ ags ts vs B → RepDs K H Z 1 (ts.map (·.d)) vs B ∧ B.Nodup ∧ vs.length = ts.length
  | [], ts, vs, B, _, _, T => by
    obtain ⟨e1, e2, e3⟩ := T
    subst e1 e2 e3
    refine ⟨?_, .nil, rfl⟩
    show RepDs K H Z 1 [] [] []
    unfold RepDs
    exact ⟨rfl, rfl⟩
  | .io j :: r, ts, vs, B, hx, _, _ => by cases hx
  | .ex _ _ :: r, ts, vs, B, hx, ho, T => by
    obtain ⟨t, ts', v, vs', A1, A2, e1, e2, h1, h2, dj, e3⟩ := T
    subst e1 e2 e3
    obtain ⟨o1, o2⟩ := (show ok2 t ∧ oks2 ts' from ho)
    obtain ⟨r1, nd, ll⟩ := oks2_rep (ags := r) hx o2 h2
    refine ⟨?_, List.nodup_append.mpr ⟨h1.nd, nd, fun a ha b hb e => dj a ha (by rw [e]; exact hb)⟩, by simp [ll]⟩
    show RepDs K H Z 1 (t.d :: ts'.map (·.d)) (v :: vs') (A1 ++ A2)
    unfold RepDs
    exact ⟨v, vs', A1, A2, rfl, ok2_rep o1 h1, r1, rfl⟩
section
variable {X : Cx} {W : WX} {pos : Pos} {es : List Expr} {ags : List Ag}
theorem ee_lst2 (ha : EA X W es ags) (hx : ags.all Ag.isEx = true := by rfl) : EE X W (agM ags) (.List es pos) (vLst2 ags) :=
  peImp (pe_lst ha) fun σ H Q ⟨env, Z, As, Qn, Qx, S, q, hn, hxx⟩ => by
    refine ⟨env, Z, As, _, Qx, S, q, fun ts env1 vs H1 Z1 As1 B q st S1 T n => ?_, hxx⟩
    obtain ⟨ho, hl, q⟩ := q
    obtain ⟨r, nd, ll⟩ := oks2_rep hx ho T
    have own := T.own
    refine ⟨by rw [ll, sizeLine_eq]; exact hl, fun p hp => ?_⟩
    have nB : p ∉ B := fun hb => by
      have m := (own p hb).1
      rw [hp] at m; exact m
    refine hn _ env1 _ _ Z1 As1 (p :: B) q (st.same (same_upd hp)) (S1.same (same_upd hp)) ⟨?_, List.nodup_cons.mpr ⟨nB, nd⟩, fun b hb => ?_⟩ fun b hb => ?_
    · show RepD X.K (upd H1 p (.lst vs)) (Zs Z1 As1 []) (1 + 1) (.lst (ts.map (·.d))) (.ref p) (p :: B)
      unfold RepD
      refine ⟨p, vs, B, rfl, upd_same, RepDs.keep (fun a o e _ => same_upd hp a o e) (fun a o z e => ⟨same_upd hp a o e, .inl z⟩) _ _ _ _ (fun a _ o e => same_upd hp a o e) r, rfl⟩
    · rcases List.mem_cons.mp hb with e | hb
      · subst e
        refine ⟨fun z => ?_, fun j hj => ?_⟩
        · have m := S1.zt b z
          rw [hp] at m; exact m
        · have m := S1.mu j b hj
          rw [hp] at m; exact m
      · exact (own b hb).2
    · rcases List.mem_cons.mp hb with e | hb
      · subst e
        exact .inl (st.lv b hp)
      · exact n b hb
end
/-! ### what holds no frozen list leans on none -/
def vCl (m : VE) : VE := fun env Qn Qx => m env (fun t env1 => Qn (if clean t.n t.d = true then ⟨t.d, t.n, []⟩ else t) env1) Qx
theorem ee_cl {X : Cx} {W : WX} {M : List Nat} {e : Expr} {m : VE} (h : EE X W M e m) : EE X W M e (vCl m) := peImp h fun σ H Q ⟨env, Z, As, Qn, Qx, S, q, hn, hx⟩ =>
  ⟨env, Z, As, _, Qx, S, q, fun t env' v H' Z' As' B q' st S' T n => by
    by_cases c : clean t.n t.d = true
    · rw [if_pos c] at q'
      exact hn _ env' v H' Z' As' B q' st S' ⟨clean_rep _ _ c T.rep, T.nd, T.dj⟩ n
    · rw [if_neg c] at q'
      exact hn _ env' v H' Z' As' B q' st S' T n, hx⟩
/-! ### the rows that evaluate them -/
def clK (b : Bool) (t : Tv) (env : En) (Qn : Tv → En → Prop) (_ : Tag Qn) : Prop := Qn (if b = true then ⟨t.d, t.n, []⟩ else t) env
def oxK (env : En) (j : Nat) (k : Nat → List D → Prop) (_ : Tag k) : Prop := ownX env j k
def sxK (ti : D) (l : List D) (d : D) (k : List D → Prop) (_ : Tag k) : Prop := match ti with
  | .im (.int i) => (match setX l i d with
    | some l' => k l'
    | none => False)
  | _ => False
section
variable {env : En} {Qn : Tv → En → Prop} {Qx : Xd → En → Prop} {P : VD} {o : Option (D × Nat)} {d : D} {n j : Nat}
theorem e_ox0 {l : List D} {k : Nat → List D → Prop} {t : Tag k} : oxK (some (.lst l, n + 1) :: env) 0 k t = k n l := id rfl
theorem e_oxS {k : Nat → List D → Prop} {t : Tag k} : oxK (o :: env) (j + 1) k t = oxK env j k ⟨⟩ := id rfl
theorem e_sxK {i : Int} {l : List D} {k : List D → Prop} {t : Tag k} : sxK (.im (.int i)) l d k t = olK (setX l i d) k ⟨⟩ := by
  unfold sxK olK
  rfl
theorem e_setX {me mi : VE} : vSetX j me mi env P = me env (fun t env1 => oxK env1 j (fun _ _ => mi env1 (fun ti env2 => oxK env2 j (fun n l => sxK ti.d l t.d (fun l' => nxK (env2.set j (some (.lst l', n + 1))) P.nx ⟨⟩) ⟨⟩) ⟨⟩) P.xc) ⟨⟩) P.xc := id rfl
theorem e_lst2 {ags : List Ag} : vLst2 ags env Qn Qx = vAs ags env (fun ts env1 => oks2 ts ∧ ts.length ≤ 16777216 ∧ Qn ⟨.lst (ts.map (·.d)), 2, []⟩ env1) Qx := id rfl
theorem e_vCl {m : VE} : vCl m env Qn Qx = m env (fun t env1 => clK (clean t.n t.d) t env1 Qn ⟨⟩) Qx := id rfl
theorem e_clK0 {b : Bool} {t : Tag Qn} : clK b ⟨d, n, []⟩ env Qn t = Qn ⟨d, n, []⟩ env := by
  cases b <;> rfl
theorem e_clKT {s : List Nat} {t : Tag Qn} : clK true ⟨d, n, s⟩ env Qn t = Qn ⟨d, n, []⟩ env := id rfl
theorem e_clKF {s : List Nat} {t : Tag Qn} : clK false ⟨d, n, s⟩ env Qn t = Qn ⟨d, n, s⟩ env := id rfl
theorem e_mkL {l r : List D} : mkTup (.lst l :: r) = .tup (.lst l :: r) := id rfl
theorem e_clU {l : List D} : clean n (.tup l) = cleans n l := by
  conv => lhs; unfold clean
theorem e_okN : oks2 [] = True := id rfl
theorem e_okC {t : Tv} {ts : List Tv} : oks2 (t :: ts) = (ok2 t ∧ oks2 ts) := id rfl
theorem e_okI {i : I} {s : List Nat} : ok2 ⟨.im i, n, s⟩ = True := id rfl
theorem e_okL {l : List D} : ok2 ⟨.lst l, 1, []⟩ = True := by
  show ((1 : Nat) = 1 ∧ ([] : List Nat) = []) = True
  simp
variable {x0 x1 x2 x3 x4 : D} {y : I} {al : List D}
theorem e_sX0 {u : I} : setX (.im u :: al) 0 (.im y) = some (.im y :: al) := by
  simp [setX, ixN]
theorem e_sX1 {u : I} : setX (x0 :: .im u :: al) 1 (.im y) = some (x0 :: .im y :: al) := by
  have : ixN (al.length + 1 + 1) 1 = some 1 := by simp [ixN]; omega
  simp [setX, this]
theorem e_sX2 {u : I} : setX (x0 :: x1 :: .im u :: al) 2 (.im y) = some (x0 :: x1 :: .im y :: al) := by
  have : ixN (al.length + 1 + 1 + 1) 2 = some 2 := by simp [ixN]; omega
  simp [setX, this]
theorem e_sX3 {u : I} : setX (x0 :: x1 :: x2 :: .im u :: al) 3 (.im y) = some (x0 :: x1 :: x2 :: .im y :: al) := by
  have : ixN (al.length + 1 + 1 + 1 + 1) 3 = some 3 := by simp [ixN]; omega
  simp [setX, this]
theorem e_sX4 {u : I} : setX (x0 :: x1 :: x2 :: x3 :: .im u :: al) 4 (.im y) = some (x0 :: x1 :: x2 :: x3 :: .im y :: al) := by
  have : ixN (al.length + 1 + 1 + 1 + 1 + 1) 4 = some 4 := by simp [ixN]; omega
  simp [setX, this]
end
theorem apart_of {d : D} {n : Nat} {s M : List Nat} (h : (s.all fun j => !M.contains j) = true) : Apart ⟨d, n, s⟩ M := fun j hj hm => by
  have := List.all_eq_true.mp h j hj
  rw [List.contains_iff_mem.mpr hm] at this
  cases this
end Kv

namespace Kv
open PySem PySem.Spec L2
open PyProof.Rows hiding St
/-! ### comprehensions with a test; over range by place; of two clauses; while -/
section
variable {vs : List Nat} {T : Tg} {tt : VT} {me : VE} {kk : List D → En → Prop} {t1 : Tag vs} {t2 : Tag T} {t3 : Tag tt} {t4 : Tag me} {t5 : Tag kk} {α : Type} {env : En}
theorem lc_fm (l : List α) (p q : α → D) (c : α → Bool) (acc0 : List D) (hl : l.length + acc0.length ≤ 16777216)
    (hs : ∀ a ∈ l, ∀ (K : D → En → Prop) (F : En → Prop), (c a = true → K (q a) env) → (c a = false → F env) → bndK T (p a) env (fun env1 => tt env1 (fun b env2 => IfK b (me env2 (fun t env3 => nxK (wipeE vs (frz t.s env3)) (K t.d) ⟨⟩) NoX) (nxK (wipeE vs env2) F ⟨⟩) ⟨⟩ ⟨⟩) NoX) ⟨⟩)
    (he : kk (acc0 ++ (l.filter c).map q) env) : lcK vs T tt me (l.map p) acc0 env kk t1 t2 t3 t4 t5 := by
  refine lc_ind (fun ds acc e => ∃ l1 l2, l = l1 ++ l2 ∧ ds = l2.map p ∧ acc = acc0 ++ (l1.filter c).map q ∧ e = env) (fun d r acc e ⟨l1, l2, h1, h2, h3, h4⟩ K F k f => ?_) (fun acc e ⟨l1, l2, h1, h2, h3, h4⟩ => ?_) (by simpa using hl) ⟨[], l, rfl, rfl, by simp, rfl⟩
  · cases l2 with
    | nil => cases h2
    | cons a l2 =>
      cases h2
      subst h3 h4
      refine hs a (by rw [h1]; simp) K F (fun ca => k _ _ ⟨l1 ++ [a], l2, by rw [h1]; simp, rfl, ?_, rfl⟩) fun ca => f _ ⟨l1 ++ [a], l2, by rw [h1]; simp, rfl, ?_, rfl⟩
      · rw [List.filter_append, List.map_append, List.filter_cons_of_pos (by rw [ca])]
        simp
      · rw [List.filter_append, List.filter_cons_of_neg (by rw [ca]; decide)]
        simp
  · cases l2 with
    | nil =>
      rw [List.append_nil] at h1
      subst h1 h3 h4
      exact he
    | cons a l2 => cases h2
theorem rgD_nat (n : Nat) : rgD 0 (n : Int) = (List.range n).map fun (i : Nat) => .im (.int (i : Int)) := by
  unfold rgD
  rw [show ((n : Int) - 0).toNat = n by omega]
  apply List.map_congr_left
  intro a _
  show D.im (.int (0 + (a : Int))) = _
  rw [Int.zero_add]
/-- over range(len): the i-th value is that of the i-th item of l -/
theorem lc_rgn {n : Int} (l : List α) (q : α → D) (hn : n = l.length) (hl : l.length ≤ 16777216)
    (hs : ∀ (i : Nat) (a : α), l[i]? = some a → ∀ (K : D → En → Prop) (F : En → Prop), K (q a) env → bndK T (.im (.int (i : Int))) env (fun env1 => tt env1 (fun b env2 => IfK b (me env2 (fun t env3 => nxK (wipeE vs (frz t.s env3)) (K t.d) ⟨⟩) NoX) (nxK (wipeE vs env2) F ⟨⟩) ⟨⟩ ⟨⟩) NoX) ⟨⟩)
    (he : kk (l.map q) env) : lcK vs T tt me (rgD 0 n) [] env kk t1 t2 t3 t4 t5 := by
  subst hn
  rw [rgD_nat]
  refine lc_ind (fun ds acc e => ∃ (i : Nat), i ≤ l.length ∧ ds = ((List.range l.length).drop i).map (fun (i : Nat) => .im (.int (i : Int))) ∧ acc = (l.take i).map q ∧ e = env) (fun d r acc e ⟨i, h1, h2, h3, h4⟩ K F k f => ?_) (fun acc e ⟨i, h1, h2, h3, h4⟩ => ?_) (by simpa using hl) ⟨0, Nat.zero_le _, rfl, rfl, rfl⟩
  · by_cases hi : i < l.length
    · rw [List.drop_eq_getElem_cons (by rw [List.length_range]; exact hi), List.getElem_range] at h2
      cases h2
      subst h3 h4
      refine hs i l[i] (List.getElem?_eq_getElem hi) K F (k _ _ ⟨i + 1, hi, rfl, ?_, rfl⟩)
      rw [List.take_succ_eq_append_getElem hi, List.map_append]
      rfl
    · rw [List.drop_eq_nil_of_le (by rw [List.length_range]; omega)] at h2
      cases h2
  · by_cases hi : i < l.length
    · rw [List.drop_eq_getElem_cons (by rw [List.length_range]; exact hi)] at h2
      cases h2
    · rw [List.take_of_length_le (by omega)] at h3
      subst h3 h4
      exact he
end
def lc2K (vs vs1 : List Nat) (T T1 : Tg) (tt : VT) (mi1 : VI) (tt1 : VT) (me : VE) (ds acc : List D) (env : En) (k : List D → En → Prop) (_ : Tag vs) (_ : Tag vs1) (_ : Tag T) (_ : Tag T1) (_ : Tag tt) (_ : Tag mi1) (_ : Tag tt1) (_ : Tag me) (_ : Tag k) : Prop := lc2V vs vs1 T T1 tt mi1 tt1 me ds acc env k
theorem lc2_ind {vs vs1 : List Nat} {T T1 : Tg} {tt tt1 : VT} {mi1 : VI} {me : VE} {kk : List D → En → Prop} {t1 : Tag vs} {t2 : Tag vs1} {t3 : Tag T} {t4 : Tag T1} {t5 : Tag tt} {t6 : Tag mi1} {t7 : Tag tt1} {t8 : Tag me} {t9 : Tag kk} (Inv : List D → List D → En → Prop)
    (hs : ∀ d r acc env, Inv (d :: r) acc env → ∀ (K : List D → En → Prop), (∀ acc' env', Inv r acc' env' → K acc' env') →
      bndK T d env (fun env1 => tt env1 (fun b env2 => IfK b (mi1 env2 (fun ds1 env3 => nxK (wipeE vs1 env3) (fun e => lcK vs1 T1 tt1 me ds1 acc e (fun acc' env4 => nxK (wipeE vs env4) (K acc') ⟨⟩) ⟨⟩ ⟨⟩ ⟨⟩ ⟨⟩ ⟨⟩) ⟨⟩) NoX) (nxK (wipeE vs env2) (K acc) ⟨⟩) ⟨⟩ ⟨⟩) NoX) ⟨⟩)
    (he : ∀ acc env, Inv [] acc env → kk acc env) : ∀ {ds acc : List D} {env : En}, Inv ds acc env → lc2K vs vs1 T T1 tt mi1 tt1 me ds acc env kk t1 t2 t3 t4 t5 t6 t7 t8 t9
  | [], acc, env, h => he acc env h
  | d :: r, acc, env, h => hs d r acc env h (fun acc' e => lc2V vs vs1 T T1 tt mi1 tt1 me r acc' e kk) fun acc' env' h' => lc2_ind (t1 := t1) (t2 := t2) (t3 := t3) (t4 := t4) (t5 := t5) (t6 := t6) (t7 := t7) (t8 := t8) (t9 := t9) Inv hs he h'
theorem while_ind {t : VT} {b : VS} {env : En} {P : VD} {t1 : Tag t} {t2 : Tag b} {t3 : Tag P} (Iv : Nat → En → Prop) (h0 : ∃ m, Iv m env) (hs : ∀ m env, Iv m env → ∀ K : En → Prop, (∀ m' env', m' < m → Iv m' env' → K env') → t env (fun c env1 => IfK c (b env1 { P with nx := K, ct := K, bk := P.nx }) (P.nx env1) ⟨⟩ ⟨⟩) P.xc) : whK t b env P t1 t2 t3 := by
  refine ⟨Iv, h0, fun m env h => ?_⟩
  exact hs m env h _ fun m' env' hm h' => ⟨m', hm, h'⟩
section
variable {env : En} {Qn : Tv → En → Prop} {Qx : Xd → En → Prop} {P : VD} {d : D}
theorem e_asgT {T : Tg} {m : VE} : vAsg T m env P = m env (fun t env1 => nxK (frz t.s env1) (fun e => bndK T t.d e P.nx ⟨⟩) ⟨⟩) P.xc := id rfl
theorem e_lc2c {vs vs1 : List Nat} {T T1 : Tg} {mi mi1 : VI} {tt tt1 : VT} {me : VE} : vLc2 vs vs1 T T1 mi tt mi1 tt1 me env Qn Qx = mi env (fun ds env1 => lowE vs env1 ∧ nxK (wipeE vs env1) (fun e => lc2K vs vs1 T T1 tt mi1 tt1 me ds [] e (fun acc env2 => nxK (resE vs env1 env2) (Qn ⟨.lst acc, 1, []⟩) ⟨⟩) ⟨⟩ ⟨⟩ ⟨⟩ ⟨⟩ ⟨⟩ ⟨⟩ ⟨⟩ ⟨⟩ ⟨⟩) ⟨⟩) Qx := id rfl
theorem e_eqS {a b : Str} : oEq (.im (.str a)) (.im (.str b)) = some ⟨shD (.im (.str a)) ∧ shD (.im (.str b)), bl (a == b), 0⟩ := id rfl
theorem e_neS {a b : Str} : oNe (.im (.str a)) (.im (.str b)) = some ⟨shD (.im (.str a)) ∧ shD (.im (.str b)), bl (!(a == b)), 0⟩ := id rfl
theorem e_boolM {α : Type} {l : List α} {f : α → Bool} : boolsOf (l.map fun i => .im (.bl (f i))) = some (l.map f) := by
  have := boolsOf_map (l.map f)
  rw [List.map_map] at this
  exact this
theorem e_all {l : List D} : bAll (.lst l) = (boolsOf l).map fun bs => ⟨True, bl (bs.all id), 0⟩ := id rfl
theorem e_any {l : List D} : bAny (.lst l) = (boolsOf l).map fun bs => ⟨True, bl (bs.any id), 0⟩ := id rfl
end
end Kv

namespace Kv
open PySem PySem.Spec L2
open PyProof.Rows hiding St
/-! ### list(range(..)), x.insert(i, e) -/
def oLRg : Op1 := fun d => match d with
  | .im (.int j) => some ⟨R62 j ∧ j ≤ 16777216, .lst (rgD 0 j), 1⟩
  | _ => none
def rLRg (x : V) (H : Hp) (Q : VK) : Prop := ∃ n, x = .int n ∧ RgOk 0 n ∧ ∀ q, H q = none → Q (.ref q) (upd H q (.lst (rgV 0 n)))
theorem ints_reps {K : PySem.W.Frag} {H : Hp} {Z : Addr → Prop} : ∀ l : List Int, RepDs K H Z 0 (l.map fun i => D.im (.int i)) (l.map V.int) []
  | [] => by
    unfold RepDs
    exact ⟨rfl, rfl⟩
  | i :: l => by
    rw [List.map_cons, List.map_cons]
    unfold RepDs
    exact ⟨_, _, [], [], rfl, by unfold RepD; exact ⟨rfl, rfl⟩, ints_reps l, rfl⟩
theorem rgD_ints (a b : Int) : rgD a b = ((List.range (b - a).toNat).map fun (i : Nat) => a + (i : Int)).map fun i => .im (.int i) := by
  unfold rgD
  rw [List.map_map]
  rfl
theorem rgV_ints (a b : Int) : rgV a b = ((List.range (b - a).toNat).map fun (i : Nat) => a + (i : Int)).map V.int := by
  unfold rgV
  rw [List.map_map]
  rfl
section
variable {X : Cx} {W : WX} {pos p p2 pos2 : Pos} {M : List Nat} {m : VE} {e : Expr}
theorem oLRg_ok : Op1Ok X oLRg rLRg := fun a c x H Zx Q e hc h k => by
  unfold oLRg at e
  split at e
  · rename_i j
    cases e
    refine ⟨j, int_of h, ⟨by omega, by omega, hc.1.1, hc.1.2, by omega⟩, fun q hq => ?_⟩
    refine res_newL k ?_ hq
    rw [rgD_ints, rgV_ints]
    exact ints_reps _
  · cases e
theorem ee_lrg (hc : X.calm = true) (hg : Gl X "list") (hm : X.mg "list" = none) (hg2 : Gl X "range") (hm2 : X.mg "range" = none) (ha : EE X W M e m)
    (na : starEach [e] X.env = (false, eval e X.env) :: starEach [] X.env := by rfl) (na2 : starEach [Expr.Call (.Name "range" p2) [e] [] pos2] X.env = (false, eval (.Call (.Name "range" p2) [e] [] pos2) X.env) :: starEach [] X.env := by rfl) :
    EE X W M (.Call (.Name "list" p) [.Call (.Name "range" p2) [e] [] pos2] [] pos) (vUn oLRg m) :=
  peImp (pe_listRg hc hg hm (prg_1 hg2 hm2 ha na) na2) fun σ H Q h => un_ok oLRg_ok σ H Q h
def mIns : OpM := fun l as => match as with
  | [.im (.int i), d] => some (l.length < 16777216 ∧ 0 ≤ i ∧ i < 16777216, l.take i.toNat ++ [d] ++ l.drop i.toNat)
  | _ => none
theorem mIns_ok : OpMOk X mIns (fun x vs H Q => ∃ (l : Addr) (xs : List V) (i : Int) (y : V), x = .ref l ∧ vs = [.int i, y] ∧ H l = some (.lst xs) ∧ xs.length < sizeLine ∧ 0 ≤ i ∧ i < 2 ^ 63 ∧
    Q .non (upd H l (.lst (xs.take i.toNat ++ [y] ++ xs.drop i.toNat)))) := fun l as c p vs xs H Zx Q e hc hp hl ha k => by
  unfold mIns at e
  split at e
  · rename_i i d
    cases e
    obtain ⟨v, r, e1, h1, h2⟩ := ha.one
    obtain ⟨v2, r2, e2, h3, h4⟩ := h2.one
    have e3 := h4.nil_of
    have ev := int_of h1
    subst e1 e2 e3 ev
    refine ⟨p, vs, i, v2, rfl, rfl, hp, by rw [RepDs.length hl, sizeLine_eq]; exact hc.1, hc.2.1, by have := hc.2.2; omega, k _ _ ?_⟩
    refine RepDs.append (RepDs.append (hl.take _) ?_) (hl.drop _)
    unfold RepDs
    refine ⟨v2, [], [], [], rfl, h3, ?_, rfl⟩
    unfold RepDs
    exact ⟨rfl, rfl⟩
  · cases e
end
theorem e_lrg {i : Int} : oLRg (.im (.int i)) = some ⟨R62 i ∧ i ≤ 16777216, .lst (rgD 0 i), 1⟩ := id rfl
theorem e_ins {l : List D} {i : Int} {d : D} : mIns l [.im (.int i), d] = some (l.length < 16777216 ∧ 0 ≤ i ∧ i < 16777216, l.take i.toNat ++ [d] ++ l.drop i.toNat) := id rfl
/-! ### range over numbers of any size -/
theorem turn_long {P : Program} {w : World} {K : PySem.W.Frag} {tg : Expr} (it : Addr) (lo : Int) (n : Nat) : Turn P w K tg (Itr lo n) [it] it (fun i h => IsLongIter h it (lo + (i : Nat) * 1) ((n : Int) - (i : Nat)) 1) where
  mem := by simp
  obj := fun i h st b hb => by
    have e : b = it := by simpa using hb
    subst e
    exact ⟨_, st, fun v z => nomatch z⟩
  keep := fun i h h' st k => k it (by simp) _ st
  item := by
    intro X hP hw hK hc i pins s σ H E I hf st hg
    subst hP hw hK
    obtain ⟨f0, f1, f2, f3, f4, f5⟩ := hf it (by simp)
    have W := Walks.longrange (prog := X.prog) (w := X.w) (I.ok.hd hc) it lo 1 n
    refine W.item i s _ _ hg st fun v h' tk hv st' kk => ?_
    obtain ⟨t, rfl⟩ := hv
    have I1 : Inv X pins σ H { s with heap := h', toks := tk } := I.turned (fun b o hb e => kk b o (by simpa using hb) e) f0 f1 f3 f4 f5
    refine ⟨_, rfl, go_of (s := { s with heap := h', toks := tk }) (n := "longrange_iterator") st' rfl rfl (by decide) ⟨.int (lo + i), H, I1, ⟨t, ?_⟩, ⟨rfl, rfl⟩, st', fun b hb => (hf b hb).1⟩⟩
    rw [Int.mul_one]
  done := by
    intro X hP hw hK hc i pins s σ H E I hf st hg
    subst hP hw hK
    obtain ⟨f0, f1, f2, f3, f4, f5⟩ := hf it (by simp)
    exact wpAny_pyNext_long_end (I.ok.hd hc) st (by have : n ≤ i := hg; omega) fun h' eb => ⟨rfl, I.turned (t' := s.toks) (fun b o hb e => eb b o hb e) f0 f1 f3 f4 f5⟩
  self := fun A i s Q E st h => wpAny_pyIter_longiter st h
section
variable {X : Cx} {W : WX} {tg : Expr}
theorem range_itL {pins : List (Addr × Obj)} {σ : St} {H : Hp} {s : Shared} {R : It → Hp → Prop} {E : Value → Shared → Prop} {lo hi : Int} {t u v : Tok} {tk : Nat} (I : Inv X pins σ H s)
    (q : R (Itr lo (hi - lo).toNat) H) : wpAny (model X.prog X.w) X.A (pyIter (.ref s.heap.objs.size)) (PIE X pins σ tg R) E { s with heap := s.heap.push { cls := .type "range", data := .fields #[.int lo t, .int hi u, .int 1 v] }, toks := tk } := by
  have I1 : Inv X pins σ H { s with heap := s.heap.push { cls := .type "range", data := .fields #[.int lo t, .int hi u, .int 1 v] }, toks := tk } := I.kept fun b o e => Heap.get?_push_of_some _ e
  have e1 : lo + ((0 : Nat) : Int) * 1 = lo := by simp
  have e2 : (((hi - lo).toNat : Nat) : Int) - ((0 : Nat) : Int) = Builtin.Range.rangeSize lo hi 1 := by rw [rangeSize_one]; split <;> omega
  by_cases hsm : Builtin.Range.small lo hi 1 = true
  · refine wpAny_pyIter_range (IsRange.new ..) hsm ?_
    refine pi_one (tk := tk) I1 _ (turn_range _ lo (hi - lo).toNat) ?_ q
    show IsRangeIter _ _ (lo + ((0 : Nat) : Int) * 1) ((((hi - lo).toNat : Nat) : Int) - ((0 : Nat) : Int)) 1
    rw [e1, e2]
    exact Heap.get?_push_size _ rfl
  · refine wpAny_pyIter_longrange (IsRange.new ..) (by simpa using hsm) ?_
    refine pi_one (tk := tk) I1 _ (turn_long _ lo (hi - lo).toNat) ?_ q
    show IsLongIter _ _ (lo + ((0 : Nat) : Int) * 1) ((((hi - lo).toNat : Nat) : Int) - ((0 : Nat) : Int)) 1
    rw [e1, e2]
    exact Heap.get?_push_size _ rfl
def iRngL (ta : TA) : TI := fun σ H R => ta σ H fun vs H1 => ∃ i j : Int, vs = [.int i, .int j] ∧ R (Itr i (j - i).toNat) H1
theorem pi_rangeL {a b : Expr} {ta : TA} {p pos : Pos} (hg : Gl X "range") (hm : X.mg "range" = none) (ha : PA X [a, b] ta) (hs : starEach [a, b] X.env = [(false, eval a X.env), (false, eval b X.env)] := by rfl) (hs2 : starEach [b] X.env = [(false, eval b X.env)] := by rfl) :
    PI X tg (.Call (.Name "range" p) [a, b] [] pos) (iRngL ta) := by
  refine ⟨fun pins s σ H R I h => ?_⟩
  refine Call_ (ld_blt I hg hm boot_range (PyProof.Rows.callWith_type1 (thn (ha.run pos pins s σ H _ I h) fun us s1 ⟨vs, H1, I1, r1, q1⟩ => ?_) (by rw [hs, hs2]) (by rw [hs2]; rfl)))
  obtain ⟨i, j, e, q⟩ := q1
  subst e
  cases r1 with
  | cons r rr =>
    cases rr with
    | cons r' rr =>
      cases rr
      obtain ⟨t, rfl⟩ := r
      obtain ⟨t', rfl⟩ := r'
      exact call_range_2 (range_itL I1 q)
def vRgL (ags : List Ag) : VI := fun env Qn Qx => vAs ags env (fun ts env1 => match ts with
  | [t, u] => (match t.d, u.d with
    | .im (.int i), .im (.int j) => Qn (rgD i j) env1
    | _, _ => False)
  | _ => False) Qx
theorem ei_rgL {a b : Expr} {ags : List Ag} {p pos : Pos} (hg : Gl X "range") (hm : X.mg "range" = none) (ha : EA X W [a, b] ags) (hx : ags.all Ag.isEx = true := by rfl) (hs : starEach [a, b] X.env = [(false, eval a X.env), (false, eval b X.env)] := by rfl) (hs2 : starEach [b] X.env = [(false, eval b X.env)] := by rfl) :
    EI X W (agM ags) tg (.Call (.Name "range" p) [a, b] [] pos) (vRgL ags) :=
  piImp (pi_rangeL hg hm ha hs hs2) fun σ H R ⟨env, Z, As, Qn, Qx, S, q, hn, hxx⟩ => by
    refine ⟨env, Z, As, _, Qx, S, q, fun ts env' vs H' Z' As' B q st S' T n => ?_, hxx⟩
    have own := T.own
    have S2 := S'.froze (A := B) fun b hb => ⟨(own b hb).1, (own b hb).2.2⟩
    have r := T.look (Zx := Zs (fun z => Z' z ∨ z ∈ B) As' (ts.flatMap (·.s))) hx (Zs.mono (fun _ z => .inl z) fun _ h => h) fun b hb => .inl (.inr hb)
    split at q
    · split at q
      · rename_i t u i j e e'
        simp only [List.map_cons, List.map_nil] at r
        rw [e, e'] at r
        unfold RepDs at r
        obtain ⟨v, vr, A1, A2, e1, h1, h2, _⟩ := r
        unfold RepDs at h2
        obtain ⟨v2, vr2, A3, A4, e2, h3, h4, _⟩ := h2
        unfold RepDs at h4
        rw [e2, h4.1] at e1
        have ev := int_of h1
        have ev2 := int_of h3
        subst ev ev2
        exact ⟨i, j, e1, hn _ _ H' _ As' _ q (st.froze n) S2 wk_rng⟩
      · exact q.elim
    · exact q.elim
end
section
variable {env : En} {QI : List D → En → Prop} {Qx : Xd → En → Prop} {i i' : Int} {n n' : Nat}
def rgKL (t u : Tv) (env : En) (QI : List D → En → Prop) (_ : Tag QI) : Prop := match t.d, u.d with
  | .im (.int i), .im (.int j) => QI (rgD i j) env
  | _, _ => False
theorem e_rgL {m1 m2 : VE} {M1 M2 : List Nat} : vRgL [.ex m1 M1, .ex m2 M2] env QI Qx = vAs [.ex m1 M1, .ex m2 M2] env (fun ts env1 => match ts with
  | [t, u] => rgKL t u env1 QI ⟨⟩
  | _ => False) Qx := id rfl
theorem e_rgKL {s s' : List Nat} {t : Tag QI} : rgKL ⟨.im (.int i), n, s⟩ ⟨.im (.int i'), n', s'⟩ env QI t = QI (rgD i i') env := id rfl
end
/-! ### == of lists -/
theorem eqv_tIs : ∀ s t : List (List Int), PyData.eqvAll (dPys (s.map tI)) (dPys (t.map tI)) = decide (s = t)
  | [], [] => rfl
  | [], _ :: _ => by
    show false = _
    simp
  | _ :: _, [] => by
    show false = _
    simp
  | a :: s, b :: t => by
    show (PyData.eqv (dPy (tI a)) (dPy (tI b)) && PyData.eqvAll (dPys (s.map tI)) (dPys (t.map tI))) = _
    rw [eqv_tIs s t, show PyData.eqv (dPy (tI a)) (dPy (tI b)) = decide (a = b) from eqD_tI a b, Bool.eq_iff_iff]
    simp
theorem dPys_ints : ∀ l : List Int, dPys (l.map fun i => .im (.int i)) = toPys (l.map I.int)
  | [] => rfl
  | i :: l => by
    show toPy (.int i) :: dPys (l.map fun i => .im (.int i)) = toPy (.int i) :: toPys (l.map I.int)
    rw [dPys_ints l]
theorem eqD_lI (s t : List Int) : eqD (.lst (s.map fun i => .im (.int i))) (.lst (t.map fun i => .im (.int i))) = decide (s = t) := by
  show PyData.eqv (.list (dPys (s.map fun i => .im (.int i)))) (.list (dPys (t.map fun i => .im (.int i)))) = _
  rw [dPys_ints, dPys_ints]
  unfold PyData.eqv
  exact eqv_ints s t
theorem eqD_lT (s t : List (List Int)) : eqD (.lst (s.map tI)) (.lst (t.map tI)) = decide (s = t) := by
  show PyData.eqv (.list (dPys (s.map tI))) (.list (dPys (t.map tI))) = _
  unfold PyData.eqv
  exact eqv_tIs s t
theorem sh_lI (s : List Int) : shD (.lst (s.map fun i => .im (.int i))) := by
  obtain ⟨h1, h2⟩ := lay_ints s
  show (PyData.canLayAll0 (dPys (s.map fun i => .im (.int i))) && decide (PyData.depthAll (dPys (s.map fun i => .im (.int i))) + 1 ≤ 64)) = true
  rw [dPys_ints, h1, h2]
  rfl
theorem e_eqLI {s t : List Int} : oEq (.lst (s.map fun i => .im (.int i))) (.lst (t.map fun i => .im (.int i))) = some ⟨True, .im (.bl (decide (s = t))), 0⟩ := by
  rw [← eqD_lI, ← (eq_true (⟨sh_lI s, sh_lI t⟩ : shD (.lst (s.map fun i => .im (.int i))) ∧ shD (.lst (t.map fun i => .im (.int i)))))]; rfl
theorem e_neLT {s t : List (List Int)} : oNe (.lst (s.map fun s => .im (.tup (s.map I.int)))) (.lst (t.map fun s => .im (.tup (s.map I.int)))) = some ⟨True, .im (.bl (!decide (s = t))), 0⟩ := by
  rw [← eqD_lT, ← (eq_true (⟨sh_lT s, sh_lT t⟩ : shD (.lst (s.map tI)) ∧ shD (.lst (t.map tI))))]; rfl
/-! ### a comprehension that changes a state -/
section
variable {vs : List Nat} {T : Tg} {tt : VT} {me : VE} {kk : List D → En → Prop} {t1 : Tag vs} {t2 : Tag T} {t3 : Tag tt} {t4 : Tag me} {t5 : Tag kk} {α S : Type}
theorem lc_thr (l : List α) (p : α → D) (G : S → En) (Ok : S → Prop) (R : α → Int → Prop) {s0 : S} (h0 : Ok s0) (hl : l.length ≤ 16777216)
    (hs : ∀ a ∈ l, ∀ s, Ok s → ∀ (K : D → En → Prop) (F : En → Prop), (∀ v s', Ok s' → R a v → K (.im (.int v)) (G s')) → bndK T (p a) (G s) (fun env1 => tt env1 (fun b env2 => IfK b (me env2 (fun t env3 => nxK (wipeE vs (frz t.s env3)) (K t.d) ⟨⟩) NoX) (nxK (wipeE vs env2) F ⟨⟩) ⟨⟩ ⟨⟩) NoX) ⟨⟩)
    (he : ∀ (ws : List Int) s', Ok s' → ws.length = l.length → (∀ q ∈ l.zip ws, R q.1 q.2) → kk (ws.map fun v => .im (.int v)) (G s')) : lcK vs T tt me (l.map p) [] (G s0) kk t1 t2 t3 t4 t5 := by
  refine lc_ind (fun ds acc e => ∃ (l1 l2 : List α) (ws : List Int) (s : S), Ok s ∧ l = l1 ++ l2 ∧ ds = l2.map p ∧ acc = ws.map (fun v => .im (.int v)) ∧ ws.length = l1.length ∧ (∀ q ∈ l1.zip ws, R q.1 q.2) ∧ e = G s)
    (fun d r acc e ⟨l1, l2, ws, s, hs', h1, h2, h3, h4, h5, h6⟩ K F k f => ?_) (fun acc e ⟨l1, l2, ws, s, hs', h1, h2, h3, h4, h5, h6⟩ => ?_) (by simpa using hl) ⟨[], l, [], s0, h0, rfl, rfl, rfl, rfl, fun _ h => (nomatch h), rfl⟩
  · cases l2 with
    | nil => cases h2
    | cons a l2 =>
      cases h2
      subst h3 h6
      refine hs a (by rw [h1]; simp) s hs' K F fun v s' o r => k _ _ ⟨l1 ++ [a], l2, ws ++ [v], s', o, by rw [h1]; simp, rfl, by simp, by simp [h4], fun q hq => ?_, rfl⟩
      rw [List.zip_append h4.symm] at hq
      rcases List.mem_append.mp hq with hq | hq
      · exact h5 q hq
      · rw [List.zip_cons_cons, List.zip_nil_left, List.mem_singleton] at hq
        rw [hq]; exact r
  · cases l2 with
    | cons a l2 => cases h2
    | nil =>
      rw [List.append_nil] at h1
      subst h1 h3 h6
      exact he ws s hs' h4 h5
end
theorem zip_right {α : Type} : ∀ {l : List α} {ws : List Int} {x : Int}, ws.length = l.length → x ∈ ws → ∃ a, (a, x) ∈ l.zip ws
  | [], [], x, _, h => by cases h
  | [], _ :: _, x, e, _ => by cases e
  | _ :: _, [], x, e, _ => by cases e
  | a :: l, w :: ws, x, e, h => by
    rcases List.mem_cons.mp h with h | h
    · exact ⟨a, by rw [h]; exact List.mem_cons_self⟩
    · obtain ⟨b, hb⟩ := zip_right (l := l) (by simpa using e) h
      exact ⟨b, List.mem_cons_of_mem _ hb⟩
end Kv

namespace Kv
open PySem PySem.Spec L2
open PyProof.Rows hiding St
/-! ### raise, try -/
def vRaise (c : Str) : VS := fun env P => P.xc ⟨c, []⟩ env
/-- what is known of an own exception class -/
structure ExcF (K : PySem.W.Frag) (c : Str) : Prop where
  ex : PySem.W.excIn K (He.ga K c) He.veBase "ValueError.__new__" = true
  kp : PySem.W.keepIn K (.ref (He.ga K c)) = true
  be : PySem.W.subIn K (.ref (He.ga K c)) (.type "BaseException") = some true
  ty : PySem.W.typeIn K (.ref (He.ga K c)) = some (.type "type")
section
variable {X : Cx} {W : WX} {pos pos' p : Pos} {U : List Nat}
theorem pmk_own0 {x : Str} {C : Addr} (q : PySem.W.excIn X.K C He.veBase "ValueError.__new__" = true) (gC : X.mg x = some (.ref C)) (kC : PySem.W.keepIn X.K (.ref C) = true) (r : Raises X (.ref C)) (hg : Gl X x)
    (hdb : (x == ("__debug__" : Str)) = false := by decide) : L2N.PMk X (.Call (.Name x p) [] [] pos) (fun _ H Q => Q (.ref C) none H) := by
  intro pins s σ H Q I h
  refine wpAny_Call_Name_kw (ld_glob I hg gC ?_ hdb)
  refine PySem.W.callWith_K0 I.kIn kC ?_
  show wpAny _ _ (call (.ref C) []) _ _ _
  obtain ⟨bm, N, nm, qn, bs, hdct, sn, sub, ab, col, dd, k0, k1, k2, k3, k5, mN, hC, hN, hni, T⟩ := exc_obj I.kIn q
  refine wpAny_call_exc_subT PySem.F.excBase_ValueError T hC hN hni (fun h' e hm => ?_) (by show 0 ≤ sizeLine; exact Nat.zero_le _)
  exact L2N.mk_of I hm r h (I.hok.gone hm.new)
theorem ss_raise0 {x : Str} (hc : X.calm = true) (tk : L2N.Takes X W) (F : ExcF X.K x) (gC : X.mg x = some (.ref (He.ga X.K x))) (hg : Gl X x) (hdb : (x == ("__debug__" : Str)) = false := by decide) : SS X W U (.Raise (some (.Call (.Name x p) [] [] pos)) none pos') (vRaise x) :=
  psImp (L2N.ps_raise hc tk (pmk_own0 F.ex gC F.kp (raises_own F.be F.ty) hg hdb)) fun D σ H ⟨env, Z, As, P, S, q, bk⟩ => bk.xc _ env (.ref (He.ga X.K x)) none σ H Z As q .refl S ⟨rfl, rfl⟩ .refl
/-- try: body except C as n (slot i): suite; tbl tells of each class whether C takes it -/
def vTry (i : Nat) (tbl : List (Str × Bool)) (mb : VS) (ms : Addr → Xd → VS) : VS := fun env P =>
  mb env { P with xc := fun x env1 => match tbl.lookup x.c with
    | some true => ∀ a, ms a x (env1.set i (some (.im (.adr a x.c), 0))) { P with nx := fun e => P.nx (wipeE [i] e), bk := fun e => P.bk (wipeE [i] e), ct := fun e => P.ct (wipeE [i] e), xc := fun _ _ => False }
    | some false => P.xc x env1
    | none => False }
theorem lookup_mem {α : Type} {c : Str} {b : α} : ∀ {l : List (Str × α)}, l.lookup c = some b → (c, b) ∈ l
  | [], h => by cases h
  | (x, y) :: l, h => by
    rw [List.lookup_cons] at h
    by_cases q : c = x
    · rw [q, beq_self_eq_true] at h
      cases h
      rw [q]
      exact List.mem_cons_self
    · rw [show (c == x) = false from beq_eq_false_iff_ne.mpr q] at h
      exact List.mem_cons_of_mem _ (lookup_mem h)
theorem ss_try {c n : Str} {i : Nat} {body suite : List Stmt} {b₀ : Stmt} {np pos pos2 : Pos} {mb : VS} {ms : Addr → Xd → VS} {tbl : List (Str × Bool)} (hs : X.stack = X.env :: X.outer) (hf : X.env.frame = some X.env.locals) (hN : X.N.Nodup) (hi : X.N[i]? = some n) (hln : X.env.kindOf n = some .local)
    (hg : Gl X c) (hdb : (c == ("__debug__" : Str)) = false) (hm : X.mg c = some (.ref (He.ga X.K c))) (tk : L2N.Takes X W)
    (ht : ∀ p ∈ tbl, PySem.W.exmOne X.K (.ref (He.ga X.K p.1)) (.ref (He.ga X.K c)) = some p.2)
    (hb : ∀ (W : WX) (pn : List (Addr × Obj)) (xe : Value → Shared → Prop), L2N.Takes (X.tr pn xe) W → PassesOwn (model X.prog X.w) X.A X.env xe → SSs (X.tr pn xe) W U body mb)
    (hsu : ∀ (a : Addr) (oe : Obj) (x : Xd) (d : Option Addr) (pn : List (Addr × Obj)), L2N.Zn (.ref (He.ga X.K x.c)) d oe → (x.f = [] → d = none) → (∃ vs, oe.data = .fields vs) → SSs (X.suite a ((a, oe) :: pn)) (fun _ _ _ _ => False) U (b₀ :: suite) (ms a x)) :
    SS X W (i :: U) (.Try body [.ExceptHandler (some (.Name c np)) (some n) (b₀ :: suite) pos2] [] [] pos) (vTry i tbl mb ms) := by
  refine psImp (L2N.ps_try_as (i := i) (tb := fun W => LS X W U mb) (ts := fun a cls d D σ H => ∃ x : Xd, cls = .ref (He.ga X.K x.c) ∧ (x.f = [] → d = none) ∧ LS X (fun _ _ _ _ => False) U (ms a x) D σ H) hs hf hN hi hln ⟨hg, hdb, .inl hm⟩ tk (fun W pn xe t p => hb W pn xe t p) fun a oe cls d pn hz hv => ⟨fun pins s σ H D I ⟨x, hx, hd, ls⟩ => ?_⟩) fun D σ H ⟨env, Z, As, P, S, q, bk⟩ => ?_
  · subst hx
    exact (hsu a oe x d pn hz hd hv).run pins s σ H D I ls
  · have up : ∀ {σ σ' : St}, Fx U σ σ' → Fx (i :: U) σ σ' := fun f => f.mono fun _ h => List.mem_cons_of_mem _ h
    refine ⟨env, Z, As, _, S, q, ⟨fun e s h z a p g S f => bk.nx e s h z a p g S (up f), fun e s h z a p g S f => bk.bk e s h z a p g S (up f), fun e s h z a p g S f => bk.ct e s h z a p g S (up f), fun t e v s h z a B p g S T n f => bk.rt t e v s h z a B p g S T n (up f), fun x e cls d s h z a p g S o f => ?_⟩⟩
    obtain ⟨o1, o2⟩ := o
    subst o1
    have p : (match tbl.lookup x.c with
      | some true => ∀ a, ms a x (e.set i (some (.im (.adr a x.c), 0))) { P with nx := fun e => P.nx (wipeE [i] e), bk := fun e => P.bk (wipeE [i] e), ct := fun e => P.ct (wipeE [i] e), xc := fun _ _ => False }
      | some false => P.xc x e
      | none => False) := p
    cases hl : tbl.lookup x.c with
    | none => rw [hl] at p; exact p.elim
    | some b =>
      rw [hl] at p
      have hex := ht _ (lookup_mem hl)
      refine ⟨b, hex, fun hbt ad na => ?_, fun hbf => ?_⟩
      · subst hbt
        have S2 : SA X.K h z (fun j => if j = i then [] else a j) (s.set i (some (.ref ad))) (e.set i (some (.im (.adr ad x.c), 0))) := S.put (by unfold RepD; exact ⟨rfl, rfl⟩)
        have g2 : Go H Z As h z (fun j => if j = i then [] else a j) := g.trans (go_put i)
        have f2 : Fx (i :: U) σ (s.set i (some (.ref ad))) := (up f).trans (Fx.set List.mem_cons_self)
        have wp : ∀ {e2 : En} {s2 : St} {h2 : Hp} {z2 : Addr → Prop} {a2 : Ow}, SA X.K h2 z2 a2 s2 e2 → SA X.K h2 z2 (aW a2 [i]) (s2.set i none) (wipeE [i] e2) := fun S => SA.wipe (vs := [i]) S
        have gw : ∀ {h2 : Hp} {z2 : Addr → Prop} {a2 : Ow}, Go h2 z2 a2 h2 z2 (aW a2 [i]) := fun {h2 z2 a2} => ⟨fun _ _ e _ => e, fun _ e => e, fun _ z => z, fun _ z => .inl z, fun k a h => .inl ⟨k, (aW_sub h).1⟩⟩
        refine ⟨x, rfl, fun hx => ?_, _, z, _, _, S2, p ad, ⟨fun e3 s3 h3 z3 a3 p3 g3 S3 f3 => ?_, fun e3 s3 h3 z3 a3 p3 g3 S3 f3 => ?_, fun e3 s3 h3 z3 a3 p3 g3 S3 f3 => ?_, fun t e3 v s3 h3 z3 a3 B p3 g3 S3 T n f3 => ?_, fun x e3 cls d s3 h3 z3 a3 p3 => p3.elim⟩⟩
        · rw [hx] at o2; exact o2
        · exact bk.nx _ _ h3 z3 _ p3 ((g2.trans g3).trans gw) (wp S3) ((f2.trans (up f3)).trans (Fx.set List.mem_cons_self))
        · exact bk.bk _ _ h3 z3 _ p3 ((g2.trans g3).trans gw) (wp S3) ((f2.trans (up f3)).trans (Fx.set List.mem_cons_self))
        · exact bk.ct _ _ h3 z3 _ p3 ((g2.trans g3).trans gw) (wp S3) ((f2.trans (up f3)).trans (Fx.set List.mem_cons_self))
        · exact bk.rt t e3 v s3 h3 z3 a3 B p3 (g2.trans g3) S3 T (n.go g2) (f2.trans (up f3))
      · subst hbf
        exact bk.xc x e _ d s h z a p g S ⟨rfl, o2⟩ (up f)
end
end Kv

namespace Kv
open PySem PySem.Spec L2
open PyProof.Rows hiding St
/-! ### defs that are called within an except suite -/
/-- the handled exception's object -/
structure EOk (K : PySem.W.Frag) (x : Xd) (oe : Obj) (d : Option Addr) : Prop where
  zn : L2N.Zn (.ref (He.ga K x.c)) d oe
  nd : x.f = [] → d = none
  fs : ∃ vs, oe.data = .fields vs
theorem EOk.hot {K : PySem.W.Frag} {x : Xd} {oe : Obj} {d : Option Addr} {A : Around} {a : Addr} (h : EOk K x oe d) (hh : A.handled = some (.ref a)) : L2H.Hot1 A (a, oe) := by
  obtain ⟨vs, e⟩ := h.fs
  exact ⟨hh, vs, e, h.zn.2.2 vs e⟩
structure FnX (P : Program) (w : World) (K : PySem.W.Frag) (mg : Str → Option Value) (base : Heap) (k : Nat) (f : Addr) (fd : FuncData) (ps : List Str) (sp : Addr → Xd → Sp) : Prop where
  len : ∀ a x vs H Q E, sp a x vs H Q E → vs.length = ps.length
  run : ∀ (A : Around) (outer : List PySem.Env) (s : Shared) (H : Hp) (args : Args) (us : List Value) (vs : List V) (Q : VK) (E : XK) (a : Addr) (oe : Obj) (x : Xd) (d : Option Addr), L2H.RoomH k A → A.handled = some (.ref a) → EOk K x oe d →
    L2H.PinOk outer H s (a, oe) → Env0 P w K mg base A outer s H → BindsTo s fd args (ps.zip us) → Vals vs us → sp a x vs H Q E → codeAny (model P w) A (.call (.ref f) args) (CR (L2N.CX P w) outer P w H s Q E) s
abbrev cxX (P : Program) (w : World) (K : PySem.W.Frag) (mg : Str → Option Value) (base : Heap) (N : List Str) (qual : Str) (scope : Scope) (f : Addr) (cd : Value) (A : Around) (outer : List PySem.Env) (s : Shared) (H : Hp) (E : XK) (p : Addr × Obj) : Cx :=
  L2H.cxH (L2N.CX P w) P w K mg base N qual scope f cd A outer s H E p
section
variable {P : Program} {w : World} {K : PySem.W.Frag} {mg : Str → Option Value} {base : Heap} {x qual : Str} {params : Arguments} {body : List Stmt} {scope : Scope} {dvs : List V} {kws : List (Str × V)} {f : Addr} {fd : FuncData} {N ps : List Str} {k : Nat}
theorem fn_ofX {sp : Addr → Xd → Sp} (F : FunD K x qual params body scope dvs kws f fd) (S : FnScope N ps scope) (len : ∀ a x vs H Q E, sp a x vs H Q E → vs.length = ps.length)
    (hbody : ∀ (cdv : Value) (A : Around) (outer : List PySem.Env) (s : Shared) (H : Hp) (vs : List V) (Q : VK) (E : XK) (a : Addr) (oe : Obj) (y : Xd) (d : Option Addr), A.handled = some (.ref a) → EOk K y oe d → L2H.RoomH k (A.deeper (envOfC qual scope s.heap.objs.size f cdv)) → sp a y vs H Q E →
      ∃ t, PSs (cxX P w K mg base N qual scope f cdv A outer s H E (a, oe)) body t ∧ t { nx := fun _ H' => Q .non H', rt := Q } (L2.start N vs) H) : FnX P w K mg base (k + 1) f fd ps sp := by
  obtain ⟨oc, od, dV, kV, doc, pm, an, cdv, ct, osl, efd, look, codeok, _, _⟩ := F.ex
  subst efd
  refine ⟨len, ?_⟩
  intro A outer s H args us vs Q E a oe y d room hh eok pin env0 binds vals spec
  have lv := len _ _ _ _ _ _ spec
  have kin : K.In s.heap := env0.mod.kin.keeps fun b o e => (env0.bs b o e).1
  have nolim : s.heap.NoLimit := env0.mod.nolimit.keeps fun b o e => (env0.bs b o e).1
  refine codeAny_call_function room.depth (kin _ _ look) rfl S.co S.gen rfl
    (PySem.W.codeRec_of kin codeok) (binds _ _ _ _ ?_)
  refine wpAny_newFunctionEnv_cells S.kind (fun z hz => ?_) fun en hen s1 ic => ?_
  · obtain ⟨n, v⟩ := z
    rcases S.par n (List.of_mem_zip hz).1 with l | l
    · exact .inl l
    · exact .inr ⟨l, PySem.W.cellsFrom_some _ _ _ (.inl l)⟩
  subst hen
  refine ⟨nolim.keeps ic.toInCall.keep, codeAny_func ?_⟩
  obtain ⟨t, pt, qt⟩ := hbody cdv A outer s H vs Q E a oe y d hh eok (room.deeper _) spec
  have inv := L2H.inv_startH (CX := L2N.CX P w) (mg := mg) (base := base) (E := E) S pin env0 lv vals ic
  have done : ∀ {σ' : St} {H' : Hp} {v : V} {u : Value} {s' : Shared}, Inv (cxX P w K mg base N qual scope f cdv A outer s H E (a, oe)) [] σ' H' s' → RelV v u → Q v H' → CE outer P w H s Q u s' :=
    fun {σ' H' v u s'} J r q => ⟨v, H', J.os, J.bare, J.base, J.hok, r, q⟩
  refine wpAny_mono (pt.run [] s1 (L2.start N vs) H _ inv qt) (fun fl s' end_ => ?_) fun e s' e' => e'
  match fl, end_ with
  | .ret u, ⟨v, σ', H', J, r, q⟩ => exact done J r q
  | .next, ⟨σ', H', J, q⟩ => exact done (v := V.non) (u := Value.none) J rfl q
  | .brk, ⟨_, _, _, q⟩ => exact q.elim
  | .cont, ⟨_, _, _, q⟩ => exact q.elim
theorem def_core {X : Cx} {H : Hp} {vs : List V} {Q : VK} {E : XK} {io U : List Nat} {m : VS} (hK : X.K = K) (S : FnScope N ps scope) (hio : io.length = ps.length) (hU : ∀ i n, io[i]? = some (n + 1) → i ∉ U) (h : spOf K io (runOf N.length io m) vs H Q E) :
    LS X (fun cls d _ H => E cls d H) U m { nx := fun _ H' => Q .non H', rt := Q } (L2.start N vs) H := by
  subst hK
  obtain ⟨ds, Z, As, Qn, Qx, hds, hvs, SS, hno, q, hn, hx⟩ := h
  have hN : io.length ≤ N.length := by
    have := congrArg List.length S.pre
    rw [List.length_take] at this
    omega
  have e0 : L2.start N vs = vs.map some ++ List.replicate (N.length - io.length) none := by unfold L2.start; rw [hvs]
  refine ⟨_, Z, As, _, ?_, q, ?_, ?_, ?_, ?_, ?_⟩
  · rw [e0]
    refine ⟨by rw [List.length_append, List.length_append, List.length_map, argE_length hds, hvs, List.length_replicate, List.length_replicate], fun i d n e => ?_, SS.nd, SS.dj, SS.mu, SS.dz, SS.zt⟩
    by_cases hi : i < (argE ds io).length
    · rw [List.getElem?_append_left hi] at e
      obtain ⟨v, r1, r2⟩ := SS.rep i d n e
      exact ⟨v, by rw [List.getElem?_append_left (by rw [List.length_map, hvs, ← argE_length hds]; exact hi)]; exact r1, r2⟩
    · rw [List.getElem?_append_right (by omega), List.getElem?_replicate] at e
      split at e <;> cases e
  · intro e σ' H' Z' As' p g S' fx
    rw [e0] at fx
    obtain ⟨outs, Z2, As2, k1, ex, _⟩ := exit_of SS hds hvs hN hU g S' fx p [] (fun _ h => nomatch h)
    exact hn _ outs .non H' Z2 As2 [] k1 ex ⟨by unfold RepD; exact ⟨rfl, rfl⟩, .nil, fun b hb => nomatch hb⟩ fun b hb => nomatch hb
  · intro e σ' H' Z' As' p g S' fx
    exact p.elim
  · intro e σ' H' Z' As' p g S' fx
    exact p.elim
  · intro t e v σ' H' Z' As' B p g S' T n fx
    rw [e0] at fx
    obtain ⟨outs, Z2, As2, k1, ex, hz, hz2, ha, hs, hzz⟩ := exit_of SS hds hvs hN hU g S' fx p (t.s.filter fun j => !isIo io j) (fun j hj => by simpa using (List.mem_filter.mp hj).2)
    refine hn _ outs v H' Z2 As2 B k1 ex ⟨RepD.keep (fun _ _ e _ => e) (fun a o z e => ⟨e, ?_⟩) _ _ _ _ (fun _ _ _ e => e) T.rep, T.nd, fun b hb => ⟨fun z => ?_, fun j hj => (T.dj b hb).2 j (hs j b hj)⟩⟩ n
    · rcases z with z | ⟨j, hj, z⟩
      · exact .inl (hz a z)
      · by_cases q : isIo io j = true
        · exact .inr ⟨j, List.mem_filter.mpr ⟨hj, q⟩, by rw [ha j q]; exact z⟩
        · exact .inl (hz2 j (List.mem_filter.mpr ⟨hj, by simpa using q⟩) a z)
    · rcases hzz b z with h | ⟨j, h⟩
      · exact (T.dj b hb).1 h
      · exact (T.dj b hb).2 j h
  · intro x e cls d σ' H' Z' As' p g S' o fx
    rw [e0] at fx
    obtain ⟨outs, Z2, As2, k1, ex, _⟩ := exit_of SS hds hvs hN hU g S' fx p [] (fun _ h => nomatch h)
    exact hx x outs cls d H' Z2 As2 k1 ex o
/-- THE RULE for such a def -/
theorem def_okX {io U : List Nat} {m : Addr → Xd → VS} (F : FunD K x qual params body scope dvs kws f fd) (S : FnScope N ps scope) (hio : io.length = ps.length) (hU : ∀ i n, io[i]? = some (n + 1) → i ∉ U)
    (hb : ∀ (cdv : Value) (A : Around) (outer : List PySem.Env) (s : Shared) (H : Hp) (E : XK) (a : Addr) (oe : Obj) (y : Xd) (d : Option Addr), A.handled = some (.ref a) → EOk K y oe d → L2H.RoomH k (A.deeper (envOfC qual scope s.heap.objs.size f cdv)) →
      SSs (cxX P w K mg base N qual scope f cdv A outer s H E (a, oe)) (fun cls d _ H => E cls d H) U body (m a y)) :
    FnX P w K mg base (k + 1) f fd ps (fun a y => spOf K io (runOf N.length io (m a y))) :=
  fn_ofX F S (fun a y vs H Q E h => by
    obtain ⟨_, _, _, _, _, _, h, _⟩ := h
    exact h.trans hio) fun cdv A outer s H vs Q E a oe y d hh eok hr h => ⟨_, hb cdv A outer s H E a oe y d hh eok hr, def_core (X := cxX P w K mg base N qual scope f cdv A outer s H E (a, oe)) rfl S hio hU h⟩
end
section
variable {X : Cx} {W : WX} {k : Nat} {f : Addr} {fd : FuncData} {ps : List Str} {sp : Addr → Xd → Sp} {E : St → XK} {nm : Str} {q pos : Pos} {e : Expr} {es : List Expr} {t : TA} {a : Addr} {oe : Obj} {x : Xd} {d : Option Addr}
theorem pe_callX (F : FnX X.prog X.w X.K X.mg X.base k f fd ps sp) (hr : L2H.RoomH k X.A) (hh : X.A.handled = some (.ref a)) (hp : (a, oe) ∈ X.pn) (eok : EOk X.K x oe d) (hg : Gl X nm) (hm : X.mg nm = some (.ref f)) (hk : PySem.W.keepIn X.K (.ref f) = true) (hb : Binds X.K fd ps [])
    (hx : ∀ σ, PassesAt (L2N.CX X.prog X.w) X σ (E σ)) (ha : PA X (e :: es) t) (hdb : (nm == ("__debug__" : Str)) = false := by decide) (he : starEach (e :: es) X.env = (false, eval e X.env) :: starEach es X.env := by rfl) (hpl : (backTo pos (starEach es X.env)).any (·.1) = false := by rfl) :
    PE X (.Call (.Name nm q) (e :: es) [] pos) (tCallSD (sp a x) [] E t) := by
  constructor
  intro pins s σ H Q I h
  refine wpAny_Call_Name_kw (ld_glob I hg hm ?_ hdb)
  refine PySem.W.callWith_K (h₀ := X.base) I.ok.mod.kin hk (thn (ha.run pos pins s σ H _ I h) fun us s1 h1 => ?_) he hpl
  obtain ⟨vs, H1, I1, r, q1⟩ := h1
  rw [List.append_nil] at q1
  refine ⟨I1.kIn, ?_⟩
  have lu : us.length = ps.length := by rw [← r.length]; exact F.len _ _ _ _ _ _ q1
  have b := hb s1 us I1.kIn (by rw [List.append_nil]; exact lu)
  rw [List.append_nil] at b
  obtain ⟨g1, g2, g3, g4, g5⟩ := I1.pin (a, oe) (List.mem_append_left _ hp)
  have pin : L2H.PinOk X.stack H1 s1 (a, oe) := ⟨g1, g2, fun hm => (List.mem_cons.mp (I1.stkSub a hm)).elim g3 g4, g5⟩
  refine wpAny_call (codeAny_mono (F.run X.A X.stack s1 H1 ⟨us, []⟩ us vs Q (E σ) a oe x d hr hh eok pin I1.env0 b r q1) fun r s' hq => ?_)
  match r, hq with
  | .error e, hq => exact hx σ pins H1 s1 e s' I1 hq
  | .ok (.ret u), hq => exact I1.after hq
  | .ok .next, hq => exact hq.elim
  | .ok .brk, hq => exact hq.elim
  | .ok .cont, hq => exact hq.elim
theorem ee_callX {io : List Nat} {ags : List Ag} {run : Addr → Xd → VF} (F : FnX X.prog X.w X.K X.mg X.base k f fd ps (fun a y => spOf X.K io (run a y))) (hr : L2H.RoomH k X.A) (hh : X.A.handled = some (.ref a)) (hp : (a, oe) ∈ X.pn) (eok : EOk X.K x oe d) (hg : Gl X nm) (hm : X.mg nm = some (.ref f))
    (hk : PySem.W.keepIn X.K (.ref f) = true) (hb : Binds X.K fd ps []) (hx : ∀ σ, PassesAt (L2N.CX X.prog X.w) X σ (WE W σ)) (ha : EA X W (e :: es) ags) (hdb : (nm == ("__debug__" : Str)) = false := by decide) (he : starEach (e :: es) X.env = (false, eval e X.env) :: starEach es X.env := by rfl) (hpl : (backTo pos (starEach es X.env)).any (·.1) = false := by rfl) :
    EE X W (agM ags ++ ioS ags) (.Call (.Name nm q) (e :: es) [] pos) (vCall (run a x) io ags) :=
  peImp (pe_callX F hr hh hp eok hg hm hk hb hx ha hdb he hpl) call_le
end
/-! ### isinstance of the handled exception -/
/-- the own classes: all of QuayError, of ValueError -/
def isaB (c k : Str) : Bool := c == k || (k == "QuayError" || k == "ValueError")
def oIsX (a0 : Addr) (x0 : Xd) (rs : List Str) (k : Str) : Op1 := fun d => match d with
  | .im (.adr a c) => some ⟨(a = a0 ∧ c = x0.c) ∧ x0.f = [] ∧ rs.contains x0.c = true, bl (isaB x0.c k), 0⟩
  | _ => none
section
variable {X : Cx} {W : WX} {a D : Addr} {oe : Obj} {x0 : Xd} {d0 : Option Addr}
theorem call_isX (C : ExcC X.K D) (hz : Zc (.ref D) none oe) (hf : ∃ vs, oe.data = .fields vs) (hp : (a, oe) ∈ X.pn) : CallR X (.builtin "isinstance") (rIsE X.K D a) := by
  intro pins s σ H xs us Q I r h
  obtain ⟨c, cv, b, exs, hcv, hkit, q⟩ := h
  subst exs
  obtain ⟨u1, u2, eus, r1, r2⟩ := r.two
  subst eus
  obtain rfl : u1 = .ref a := r1
  obtain rfl : u2 = cv := hcv _ r2
  have there := (I.pin (a, oe) (List.mem_append.mpr (.inl hp))).1
  obtain ⟨fs, efs⟩ := hf
  have inst : PySem.W.InstAt s.heap a oe D none := by
    obtain ⟨c1, c2, c3, c4⟩ := oe
    obtain ⟨z1, z2⟩ := hz
    dsimp only at z1 z2 efs
    subst z1 z2 efs
    exact ⟨there, rfl, rfl, trivial⟩
  refine PySem.W.kia_one (PySem.W.handS_kitx_exc C.hg C.hk C.hs C.hd C.ha C.hn C.ht C.hm) I.kIn inst hkit (fun z => nomatch z) ?_
  exact fun tk => ⟨.bl b, H, I.kept (t' := tk) fun _ _ z => z, rfl, q⟩
variable {pos p p2 : Pos} {e : Expr} {M : List Nat} {m : VE} {k : Str} {rs : List Str}
theorem ee_isX {cV : V} {cv : Value} (hp : (a, oe) ∈ X.pn) (eok : EOk X.K x0 oe d0) (hC : ∀ c ∈ rs, ExcC X.K (He.ga X.K c)) (hk : ∀ c ∈ rs, PySem.W.kitOne X.K (.ref (He.ga X.K c)) cv = some (isaB c k)) (hv : ∀ u, RelV cV u → u = cv) (hcv : PE X (.Name k p2) (tC cV)) (hg : Gl X "isinstance") (hm : X.mg "isinstance" = none) (he : EE X W M e m)
    (hs : starEach [e, .Name k p2] X.env = (false, eval e X.env) :: starEach [.Name k p2] X.env := by rfl) (hs2 : starEach [.Name k p2] X.env = (false, eval (.Name k p2) X.env) :: starEach [] X.env := by rfl) (hpl : (backTo pos (starEach [.Name k p2] X.env)).any (·.1) = false := by rfl) :
    EE X W M (.Call (.Name "isinstance" p) [e, .Name k p2] [] pos) (vUn (oIsX a x0 rs k) m) := by
  by_cases ok : x0.f = [] ∧ rs.contains x0.c = true
  · have hr := List.contains_iff_mem.mp ok.2
    have ed := eok.nd ok.1
    subst ed
    refine peImp (pe_callB (call_isX (hC _ hr) eok.zn.zc eok.fs hp) hg hm (by decide +kernel) (pa_cons he (pa_cons hcv pa_nil hs2) hs) (by decide) (by decide) hs hpl) fun σ H Q h => ?_
    refine un_ok (r := fun y H Q => rIsE X.K (He.ga X.K x0.c) a [y, cV] H Q) (fun d c y H Zx Q e hc h kk => ?_) σ H Q h
    unfold oIsX at e
    split at e
    · cases e
      obtain ⟨⟨e1, e2⟩, _⟩ := hc
      have ey := im_of h
      unfold RepI at ey
      subst e1
      rw [ey]
      exact ⟨cV, cv, _, rfl, hv, hk _ hr, resIm kk rfl⟩
    · cases e
  · have no : CallR X (.builtin "isinstance") (fun _ _ _ => False) := fun _ _ _ _ _ _ _ _ _ z => z.elim
    refine peImp (pe_callB no hg hm (by decide +kernel) (pa_cons he (pa_cons hcv pa_nil hs2) hs) (by decide) (by decide) hs hpl) fun σ H Q h => ?_
    refine un_ok (r := fun y H Q => False) (fun d c y H Zx Q e hc h kk => ?_) σ H Q h
    unfold oIsX at e
    split at e
    · cases e
      exact ok hc.2
    · cases e
end
end Kv

namespace Kv
open PySem PySem.Spec L2
open PyProof.Rows hiding St
/-! ### where an exception is handled: a list's end; any -/
section
variable {prog : Program} {w : World} {A : Around} {E : Value → Shared → Prop} {s : Shared}
theorem list_end_hot {it l x1 : Addr} {i : Nat} {items : Array Value} {Q : Option Value → Shared → Prop} (hot : HotX.HotAt A x1 s.heap) (hit : s.heap.IsListIter it l i) (hl : s.heap.IsList l items) (hx : items[i]? = none) (hne : x1 ≠ it)
    (hQ : ∀ h', (∀ b o, b ≠ it → s.heap.get? b = some o → h'.get? b = some o) → Q none { s with heap := h' }) : wpAny (model prog w) A (pyNext (.ref it)) Q E s := by
  obtain ⟨o, ho, hc, hd⟩ := id hit
  obtain ⟨ol, hol, _, nl, hdl⟩ := hl
  obtain ⟨hh, o1, vs1, h1, d1, c1⟩ := hot
  unfold pyNext; refine wpAny_bind (wpAny_attempt (wpAny_callSpecial?_slot (name := Str.ofString "__next__") hit.typeIs slot_listiter_next (wpAny_call_entry slot_listiter_next hit.typeIs entry_listiter_next ?_ (args_listiter_next _))))
  show wpAny _ _ (field (.ref it) 0 >>= _) _ _ s; refine wpAny_bind (wpAny_field ho hd (x := .ref l) rfl ?_)
  show wpAny _ _ (if (Value.ref l == Value.none) = true then _ else _) _ _ s; rw [if_neg (show ¬ ((Value.ref l == Value.none) = true) from Bool.false_ne_true)]
  show wpAny _ _ (field (.ref it) 1 >>= _) _ _ s; refine wpAny_bind (wpAny_field ho hd (x := .int i 0) rfl ?_)
  show wpAny _ _ (seqItems? (.ref l) >>= _) _ _ s; refine wpAny_bind (wpAny_seqItems hol hdl ?_)
  simp only [Int.toNat_natCast, hx]; refine wpAny_bind (wpAny_rule (wpAny_bind (wpAny_setField ho hd (by simp) ?_)))
  show wpAny _ _ (newExc (.type "StopIteration") [] >>= _) _ _ _; refine wpAny_bind ?_
  simp only [newExc, newTuple]; refine wpAny_bind (wpAny_newObj_type ?_ (by size_fits))
  refine wpAny_bind (m := firstArgMember _ _) (wpAny_of_eq (a := Value.none) (by first | rfl | (simp only [firstArgMember]; rfl)) ?_); refine wpAny_newObj_type ?_ (by size_fits)
  have k0 : ∀ b u, b ≠ it → s.heap.get? b = some u → (s.heap.update it (Obj.mapFields (·.setIfInBounds 0 Value.none))).get? b = some u := fun b u hb e => by rw [Heap.get?_update_other _ _ (Ne.symm hb)]; exact e
  have kx := k0 x1 o1 hne h1
  refine HotX.raiseNew_hot ⟨hh, o1, vs1, Heap.get?_push_of_some _ (Heap.get?_push_of_some _ kx), d1, c1⟩
    (Nat.ne_of_lt (Heap.lt_size (Heap.get?_push_of_some _ kx))) (Heap.get?_push_size _ rfl) rfl (by first | (simp; done) | (simp; omega) | (simp only [Array.size_append]; simp; omega)) ?_
  refine wpAny_bind (wpAny_isInstance (T := "StopIteration") (b := true) ⟨_, Heap.get?_update_self _ (Heap.get?_push_size _ rfl) rfl, rfl⟩ isSubtype_stop ?_)
  refine wpAny_pure (hQ _ fun b u hb e => ?_)
  have e1 := k0 b u hb e
  rw [Heap.get?_update_other _ _ (Nat.ne_of_gt (Heap.lt_size (Heap.get?_push_of_some _ e1)))]
  exact Heap.get?_push_of_some _ (Heap.get?_push_of_some _ e1)
theorem walks_listH {x1 : Addr} (I ax : Addr) (hne : ax ≠ I) (hx : x1 ≠ I) (items : Array Value) : Walks prog w A I [I, ax, x1] [I] items.size (fun i v => items[i]? = some v) (fun i h => (h.IsListIter I ax i ∧ h.IsList ax items) ∧ HotX.HotAt A x1 h) where
  sub := fun b hb => by simp at hb; simp [hb]
  frame := fun _ _ _ st hk => by
    obtain ⟨⟨s1, s2⟩, hh, o1, vs1, h1, d1, c1⟩ := st
    exact ⟨⟨s1.at fun o e => hk I (by simp) o e, s2.at fun o e => hk ax (by simp) o e⟩, hh, o1, vs1, hk x1 (by simp) _ h1, d1, c1⟩
  item := fun i s Q E hi st hQ => by
    obtain ⟨⟨s1, s2⟩, hh, o1, vs1, h1, d1, c1⟩ := st
    refine wpAny_pyNext_list_item s1 s2 (x := items[i]) (by simp [hi]) fun h' hit' hs' => hQ _ h' s.toks (by simp [hi]) ⟨⟨hit', s2.extBut hs'.extBut hne⟩, hh, o1, vs1, hs'.extBut x1 _ hx h1, d1, c1⟩ fun b o hb e => hs'.extBut b o (fun h => hb (by simp [h])) e
  done := fun s Q E st hQ => list_end_hot st.2 st.1.1 st.1.2 (by simp) hx fun h' he' => hQ h' s.toks fun b o hb e => he' b o (fun h => hb (by simp [h])) e
  self := fun _ _ _ _ st hQ => wpAny_pyIter_listiter st.1.1 hQ
end
section
variable {X : Cx}
theorem cr_anyH (hc : L2H.HotC X) : CallR X (.builtin "any") (rAny X.K) := by
  intro pins s σ H vs us Q I r h
  obtain ⟨a, bs, evs, hs, q⟩ := h
  subst evs
  obtain ⟨its, rv, hl, _⟩ := I.list hs
  obtain ⟨x1, hot⟩ := hc.at I
  rw [Vals.ref1 r]
  have hb := rv.bls
  obtain ⟨hh, o1, vs1, h1, d1, c1⟩ := hot
  refine call_any_walk (iter_any hl.isList fun s₂ e2 st hne => ?_)
  subst e2
  have hx : x1 ≠ s.heap.objs.size := Nat.ne_of_lt (Heap.lt_size h1)
  refine ⟨_, _, _, _, _, _, _, rfl, walks_listH (A := X.A.in1) (x1 := x1) _ a hne hx its.toArray, ⟨st, hh, o1, vs1, Heap.get?_push_of_some _ h1, d1, c1⟩, truth_bools hb, fun h' tk hk => ?_⟩
  refine ⟨.bl _, H, I.kept fun b o eo => hk b o (fun hm => ?_) (Heap.get?_push_of_some _ eo), ?_, q⟩
  · have e1 : b = s.heap.objs.size := by simpa using hm
    subst e1
    exact absurd (Heap.lt_size eo) (Nat.lt_irrefl _)
  · show Value.bool _ = Value.bool _
    rw [← L2.any_range, hb, List.size_toArray, List.length_map]
variable {W : WX} {pos p : Pos} {e : Expr} {ags : List Ag}
theorem ee_anyH (hc : L2H.HotC X) (hg : Gl X "any") (hm : X.mg "any" = none) (ha : EA X W [e] ags) (hx : ags.all Ag.isEx = true := by rfl) (he : starEach [e] X.env = (false, eval e X.env) :: starEach [] X.env := by rfl) (hpl : (backTo pos (starEach [] X.env)).any (·.1) = false := by rfl) :
    EE X W (agM ags) (.Call (.Name "any" p) [e] [] pos) (vOp (one bAny) ags) :=
  ee_callB (cr_anyH hc) (one_ok fun a c x H Zx Q e hc h k => by
    unfold bAny at e
    split at e
    · rename_i l
      cases q : boolsOf l with
      | none => rw [q] at e; cases e
      | some ns =>
        rw [q] at e
        cases e
        obtain ⟨p, vs, e1, h1, r1⟩ := lst_of h
        have ev := boolsOf_rep q r1
        subst ev
        exact ⟨p, ns, by rw [e1], .inl (.inl h1), resIm k rfl⟩
    · cases e) hg hm (by decide +kernel) ha hx (by decide) (by decide) he hpl
end
theorem unitsH {k : Nat} {A : Around} (r : L2H.RoomH k A) : A.units + 64 < cLine := by have := r.un; omega
theorem units5H {k : Nat} {A : Around} (r : L2H.RoomH k A) : A.units + 65 < cLine := by have := r.un; omega
/-! ### the head's facts of own exception classes -/
def excCB (K : PySem.W.Frag) (c : Str) : Bool :=
  decide (PySem.W.findIn K (.ref (He.ga K c)) "__getattribute__" = some (some (.builtin "BaseException.__getattribute__"))) && (decide (PySem.W.findIn K (.ref (He.ga K c)) "__getattr__" = some none) && (decide (PySem.W.subIn K (.ref (He.ga K c)) (.type "BaseException") = some true) &&
  (PySem.W.hasDictIn K (He.ga K c) && (decide (PySem.W.findIn K (.ref (He.ga K c)) "__class__" = some (some (.builtin "object.__class__"))) && (decide (PySem.W.specialIn K (.builtin "object.__class__") "__get__" = some (some (.builtin "getset_descriptor.__get__"))) &&
  (decide (PySem.W.takesIn K (.builtin "object.__class__") = some true) && decide (PySem.W.mroIn K (He.ga K c) (.type "object") = some true)))))))
theorem excC_ok {K : PySem.W.Frag} {c : Str} (h : excCB K c = true) : ExcC K (He.ga K c) := by
  unfold excCB at h
  simp only [Bool.and_eq_true, decide_eq_true_eq] at h
  obtain ⟨h1, h2, h3, h4, h5, h6, h7, h8⟩ := h
  exact ⟨h1, h2, h3, h4, h5, h6, h7, h8⟩
def cvOf (K : PySem.W.Frag) (T : Str) : Value := if T = "ValueError" then .type "ValueError" else .ref (He.ga K T)
def exB (rs ask : List Str) (K : PySem.W.Frag) : Bool := rs.all (excCB K) && ask.all fun T => rs.all fun c => decide (PySem.W.kitOne K (.ref (He.ga K c)) (cvOf K T) = some (isaB c T))
theorem exB_c {K : PySem.W.Frag} {rs ask : List Str} (h : exB rs ask K = true) : ∀ c ∈ rs, ExcC K (He.ga K c) := fun c hc => excC_ok (List.all_eq_true.mp (Bool.and_eq_true_iff.mp h).1 c hc)
theorem exB_k {K : PySem.W.Frag} {rs ask : List Str} (h : exB rs ask K = true) {T : Str} (hT : ask.contains T = true) (hv : (T == "ValueError") = false) : ∀ c ∈ rs, PySem.W.kitOne K (.ref (He.ga K c)) (.ref (He.ga K T)) = some (isaB c T) := fun c hc => by
  have := of_decide_eq_true (List.all_eq_true.mp (List.all_eq_true.mp (Bool.and_eq_true_iff.mp h).2 T (List.contains_iff_mem.mp hT)) c hc)
  unfold cvOf at this
  rwa [if_neg (fun z => by rw [z] at hv; simp at hv)] at this
theorem exB_v {K : PySem.W.Frag} {rs ask : List Str} (h : exB rs ask K = true) (hT : ask.contains "ValueError" = true) : ∀ c ∈ rs, PySem.W.kitOne K (.ref (He.ga K c)) (.type "ValueError") = some (isaB c "ValueError") := fun c hc => by
  have := of_decide_eq_true (List.all_eq_true.mp (List.all_eq_true.mp (Bool.and_eq_true_iff.mp h).2 "ValueError" (List.contains_iff_mem.mp hT)) c hc)
  unfold cvOf at this
  rwa [if_pos rfl] at this
theorem excF_ok {K : PySem.W.Frag} {c : Str} (h : (He.Fa.exc c).ok K = true) : ExcF K c := by
  obtain ⟨h1, h2, h3, h4⟩ := He.exc_ok h
  exact ⟨h1, h2, h3, h4⟩
def hookY (n : Nat) (fa : List He.Fa) (fn : List He.DefD) (ex : PySem.W.Frag → Bool) : PySem.W.Hook where
  α := He.AlD × Bool
  obs := fun s => (He.obsDG n fa fn s.heap.get?, ex (He.frG s.heap.get? (He.asD s.heap.get? n)))
  val := fun _ => (He.valD fn, true)
  says := fun _ h => ∃ K : PySem.W.Frag, K.In h ∧ He.SaysD fa fn K ∧ ex K = true
  of := fun _ _ e => ⟨_, He.frG_in, congrArg (fun z : He.AlD × Bool => z.1) e, congrArg (fun z : He.AlD × Bool => z.2) e⟩
  keeps := fun _ _ _ ⟨K, hK, c⟩ k => ⟨K, PySem.W.Frag.In.keeps hK k, c⟩
def obsY (n : Nat) (fa : List He.Fa) (fn : List He.DefD) (ex : PySem.W.Frag → Bool) (g : Addr → Option Obj) : He.AlD × Bool := (He.obsDG n fa fn g, ex (He.frG g (He.asD g n)))
theorem obsY_eq {n : Nat} {fa : List He.Fa} {fn : List He.DefD} {ex : PySem.W.Frag → Bool} {g : Addr → Option Obj} {s : Shared} (h : ∀ a, g a = s.heap.get? a) : obsY n fa fn ex g = (hookY n fa fn ex).obs s := by
  have e : g = s.heap.get? := funext h
  rw [e] <;> rfl
/-! ### rows -/
section
variable {env : En} {P : VD} {Qn : Tv → En → Prop} {Qx : Xd → En → Prop}
def tryK (i : Nat) (tbl : List (Str × Bool)) (ms : Addr → Xd → VS) (x : Xd) (env : En) (P : VD) (_ : Tag ms) (_ : Tag P) : Prop := match tbl.lookup x.c with
  | some true => ∀ a, ms a x (env.set i (some (.im (.adr a x.c), 0))) { P with nx := fun e => P.nx (wipeE [i] e), bk := fun e => P.bk (wipeE [i] e), ct := fun e => P.ct (wipeE [i] e), xc := fun _ _ => False }
  | some false => P.xc x env
  | none => False
theorem e_try {i : Nat} {tbl : List (Str × Bool)} {mb : VS} {ms : Addr → Xd → VS} : vTry i tbl mb ms env P = mb env { P with xc := fun x env1 => tryK i tbl ms x env1 P ⟨⟩ ⟨⟩ } := id rfl
theorem e_tryK {i : Nat} {c : Str} {f : List (Str × I)} {r : List (Str × Bool)} {ms : Addr → Xd → VS} {t1 : Tag ms} {t2 : Tag P} : tryK i ((c, true) :: r) ms ⟨c, f⟩ env P t1 t2 =
    ∀ a, nxK (env.set i (some (.im (.adr a c), 0))) (fun e => ms a ⟨c, f⟩ e { P with nx := fun e => P.nx (wipeE [i] e), bk := fun e => P.bk (wipeE [i] e), ct := fun e => P.ct (wipeE [i] e), xc := fun _ _ => False }) ⟨⟩ := by
  unfold tryK
  rw [List.lookup_cons]
  simp only [beq_self_eq_true]
  rfl
theorem e_raise {c : Str} : vRaise c env P = P.xc ⟨c, []⟩ env := id rfl
theorem e_isX {a0 a : Addr} {x0 : Xd} {rs : List Str} {k c : Str} : oIsX a0 x0 rs k (.im (.adr a c)) = some ⟨(a = a0 ∧ c = x0.c) ∧ x0.f = [] ∧ rs.contains x0.c = true, .im (.bl (isaB x0.c k)), 0⟩ := id rfl
theorem e_con {c : Str} {r : List Str} : (c :: r).contains c = true := by simp
end
end Kv

namespace Kv
open PySem PySem.Spec L2
open PyProof.Rows hiding St
/-! ### what is owned moves: a name read for the last time, an item of an owned tuple, a tuple of owned lists -/
def vMv (j : Nat) : VE := fun env Qn _ => at_ env j fun d n => Qn ⟨d, n, []⟩ (env.set j none)
section
variable {X : Cx} {W : WX} {pos p : Pos} {M : List Nat} {m : VE} {e : Expr}
theorem ee_mv {j : Nat} {x : Str} (hN : X.N[j]? = some x) (hv : Vis X.env.scope x) (hd : (x == ("__debug__" : Str)) = false := by decide) (hcd : (x == ("__classdict__" : Str)) = false := by decide) : EE X W [j] (.Name x pos) (vMv j) :=
  peImp (pe_var hN hv hd hcd) fun σ H Q ⟨env, Z, As, Qn, Qx, S, q, hn, hx⟩ => by
    obtain ⟨d, n, e, q⟩ := at_of q
    obtain ⟨v, h1, h2⟩ := S.rep j d n e
    refine ⟨v, h1, hn _ (env.set j none) v H Z _ (As j) q ⟨fun _ _ e _ => e, fun _ e => e, fun _ z => z, fun _ z => .inl z, fun i a ha => .inl ?_, fun i hi a ha => .inl ?_⟩ (S.drop j) ⟨?_, S.nd j, fun b hb => ⟨S.dz j b hb, fun i hi => ?_⟩⟩ fun b hb => .inr ⟨j, List.mem_singleton.mpr rfl, hb⟩⟩
    · by_cases e : i = j
      · rw [if_pos e] at ha; cases ha
      · rw [if_neg e] at ha; exact ha
    · rw [if_neg fun e => hi (List.mem_singleton.mpr e)]; exact ha
    · exact RepD.keep (fun _ _ e _ => e) (fun a o z e => ⟨e, .inl z⟩) _ _ _ _ (fun _ _ _ e => e) h2
    · by_cases e : i = j
      · rw [if_pos e] at hi; cases hi
      · rw [if_neg e] at hi; exact S.dj i j e b hi hb
theorem RepDs.getN {K : PySem.W.Frag} {H : Hp} {Z : Addr → Prop} {n : Nat} : ∀ {ds : List D} {vs : List V} {A : List Addr} {i : Nat} {d : D}, RepDs K H Z n ds vs A → ds[i]? = some d → ∃ v A0 A1 A2, vs[i]? = some v ∧ RepD K H Z n d v A1 ∧ A = A0 ++ (A1 ++ A2)
  | [], vs, A, i, d, h, e => by simp at e
  | c :: ds, vs, A, 0, d, h, e => by
    unfold RepDs at h
    obtain ⟨v, r, A1, A2, e1, h1, h2, e2⟩ := h
    cases e
    exact ⟨v, [], A1, A2, by rw [e1]; rfl, h1, e2⟩
  | c :: ds, vs, A, i + 1, d, h, e => by
    unfold RepDs at h
    obtain ⟨v, r, A1, A2, e1, h1, h2, e2⟩ := h
    obtain ⟨w, B0, B1, B2, q1, q2, q3⟩ := RepDs.getN (i := i) h2 (by simpa using e)
    exact ⟨w, A1 ++ B0, B1, B2, by rw [e1]; simpa using q1, q2, by rw [e2, q3, List.append_assoc]⟩
def vIx2 (k : Nat) (m : VE) : VE := fun env Qn Qx => m env (fun t env1 => match t.d with
  | .tup l => (match l[k]? with
    | some d => Qn ⟨d, t.n, t.s⟩ env1
    | none => False)
  | _ => False) Qx
theorem ee_ix2 {k : Nat} {c : Int} (hk : c = (k : Int)) (h : EE X W M e m) (hs : PlainIx (.Constant (.int c) j' p) := by intro _ _; rfl) : EE X W M (.Subscript e (.Constant (.int c) j' p) pos) (vIx2 k m) :=
  peImp (pe_ix ix_seq h pe_int hs) fun σ H Q ⟨env, Z, As, Qn, Qx, S, q, hn, hx⟩ => by
    refine ⟨env, Z, As, _, Qx, S, q, fun t env1 v H1 Z1 As1 B q st S1 T n => ?_, hx⟩
    split at q
    · rename_i l el
      cases el2 : l[k]? with
      | none => rw [el2] at q; exact q.elim
      | some d =>
        rw [el2] at q
        have r := T.rep
        rw [el] at r
        unfold RepD at r
        obtain ⟨a, vs, ev, hq, hr⟩ := r
        obtain ⟨w, B0, B1, B2, w1, w2, w3⟩ := RepDs.getN hr el2
        have sub : ∀ b, b ∈ B1 → b ∈ B := fun b hb => by rw [w3]; exact List.mem_append_right _ (List.mem_append_left _ hb)
        have hlt : k < vs.length := (List.getElem?_eq_some_iff.mp w1).1
        refine .inr (.inl ⟨a, vs, c, w, ev, rfl, hq, ?_, hn _ env1 w H1 Z1 As1 B1 q st S1 ⟨w2, ?_, fun b hb => T.dj b (sub b hb)⟩ fun b hb => n b (sub b hb)⟩)
        · subst hk
          unfold atI ixN
          rw [if_pos (by omega), if_pos (by omega)]
          simpa using w1
        · have nd := T.nd
          rw [w3] at nd
          exact (List.nodup_append.mp (List.nodup_append.mp nd).2.1).1
    · exact q.elim
variable {es : List Expr} {ags : List Ag}
def vTup2 (ags : List Ag) : VE := fun env Qn Qx => vAs ags env (fun ts env1 => oks2 ts ∧ ts.length ≤ 16777216 ∧ Qn (res (mkTup (ts.map (·.d)), 1) []) env1) Qx
theorem ee_tup2 {x1 : Nat} (ha : EA X W es ags) (hx : ags.all Ag.isEx = true := by rfl) : EE X W (agM ags) (.Tuple es x1 pos) (vTup2 ags) :=
  peImp (pe_tup ha) fun σ H Q ⟨env, Z, As, Qn, Qx, S, q, hn, hxx⟩ => by
    refine ⟨env, Z, As, _, Qx, S, q, fun ts env1 vs H1 Z1 As1 B q st S1 T n => ?_, hxx⟩
    obtain ⟨ho, hl, q⟩ := q
    obtain ⟨r, nd, ll⟩ := oks2_rep hx ho T
    have own := T.own
    refine ⟨by rw [ll, sizeLine_eq]; exact hl, fun p hp => ?_⟩
    have sm : Same H1 (upd H1 p (.tup vs)) := same_upd hp
    have rr : RepD X.K (upd H1 p (.tup vs)) (Zs Z1 As1 []) 1 (mkTup (ts.map (·.d))) (.ref p) B :=
      mkTup_rep (.inl (.inl upd_same)) (RepDs.keep (fun a o e _ => sm a o e) (fun a o z e => ⟨sm a o e, .inl z⟩) _ _ _ _ (fun a _ o e => sm a o e) r)
    generalize mkTup (ts.map (·.d)) = D0 at q rr
    cases D0 with
    | im i =>
      have rr' := rr
      unfold RepD at rr'
      rw [rr'.2] at *
      exact hn _ env1 _ _ Z1 As1 [] q (st.same sm) (S1.same sm) ⟨by show RepD _ _ _ 0 (.im i) _ []; unfold RepD; exact ⟨rr'.1, rfl⟩, .nil, fun b hb => nomatch hb⟩ fun b hb => nomatch hb
    | tup l => exact hn _ env1 _ _ Z1 As1 B q (st.same sm) (S1.same sm) ⟨rr, nd, fun b hb => (own b hb).2⟩ n
    | lst l => exact hn _ env1 _ _ Z1 As1 B q (st.same sm) (S1.same sm) ⟨rr, nd, fun b hb => (own b hb).2⟩ n
end
theorem roomHM {k : Nat} {A : Around} {v : Option Value} (r : Room k A) : L2H.RoomH k (A.mark v) := ⟨r.dp, r.un⟩
/-! ### enumerate of a list -/
def enumD : Nat → List D → List D
  | _, [] => []
  | i, d :: l => mkTup [.im (.int i), d] :: enumD (i + 1) l
theorem enumD_length : ∀ (i : Nat) (l : List D), (enumD i l).length = l.length
  | _, [] => rfl
  | i, d :: l => by
    show (enumD (i + 1) l).length + 1 = _
    rw [enumD_length (i + 1) l, List.length_cons]
theorem enumD_get : ∀ {k : Nat} {l : List D} {i : Nat} {d : D}, (enumD k l)[i]? = some d → ∃ a, l[i]? = some a ∧ d = mkTup [.im (.int ((k + i : Nat) : Int)), a]
  | k, [], i, d, e => by simp [enumD] at e
  | k, a :: l, 0, d, e => by
    simp [enumD] at e
    exact ⟨a, rfl, e.symm⟩
  | k, a :: l, i + 1, d, e => by
    have e : (enumD (k + 1) l)[i]? = some d := by simpa [enumD] using e
    obtain ⟨x, h1, h2⟩ := enumD_get e
    exact ⟨x, by simpa using h1, by rw [h2, show k + 1 + i = k + (i + 1) by omega]⟩
theorem wk_enum {K : PySem.W.Frag} {H : Hp} {Z : Addr → Prop} {a : Addr} {ds : List D} {vs : List V} (h : FzL K H Z a vs) (r : RepDs K H Z 0 ds vs []) : Wk K (Ite K a) (enumD 0 ds) H Z := by
  have hl := RepDs.length r
  have st : ∀ {H2 Z2}, Pers H Z H2 Z2 → SqL K H2 a vs := fun g => (h.keep g.2 g.1).sq
  refine ⟨fun i H2 Z2 hi g => ?_, fun i d H2 Z2 x H3 e g y => ?_, fun H2 Z2 g => ⟨vs, st g, by rw [enumD_length]; omega⟩⟩
  · rw [enumD_length] at hi
    obtain ⟨x, hx⟩ := get_some (m := vs) hl (show i < ds.length by omega)
    exact ⟨vs, x, st g, hx⟩
  · obtain ⟨T, x1, e1, hT, e2, q1⟩ := y
    subst e1 e2
    obtain ⟨da, g1, e3⟩ := enumD_get e
    subst e3
    obtain ⟨v, k1, r1⟩ := RepDs.get r g1
    have c1 := (q1 vs (st g)).symm.trans k1
    cases c1
    rw [Nat.zero_add]
    exact ⟨same_upd hT, pair_rep (by unfold RepD; exact ⟨rfl, rfl⟩) (RepD.pers g r1) hT⟩
def vEnum (ags : List Ag) : VI := fun env Qn Qx => vAs ags env (fun ts env1 => match ts with
  | [t] => (match t.d with
    | .lst l => Qn (enumD 0 l) (frz (ts.flatMap (·.s)) env1)
    | _ => False)
  | _ => False) Qx
section
variable {X : Cx} {W : WX} {pos tpos p : Pos} {e : Expr} {ags : List Ag} {elts : List Expr} {kk : Nat}
theorem ei_enum (hg : Gl X "enumerate") (hm : X.mg "enumerate" = none) (ha : EA X W [e] ags) (hx : ags.all Ag.isEx = true := by rfl) (hs : starEach [e] X.env = [(false, eval e X.env)] := by rfl) : EI X W (agM ags) (.Tuple elts kk tpos) (.Call (.Name "enumerate" p) [e] [] pos) (vEnum ags) :=
  piImp (pi_enum hg hm ha hs) fun σ H R ⟨env, Z, As, Qn, Qx, S, q, hn, hxx⟩ => by
    refine ⟨env, Z, As, _, Qx, S, q, fun ts env' vs H' Z' As' B q st S' T n => ?_, hxx⟩
    have own := T.own
    have S2 := S'.froze (A := B) fun b hb => ⟨(own b hb).1, (own b hb).2.2⟩
    have r := T.look (Zx := Zs (fun z => Z' z ∨ z ∈ B) As' (ts.flatMap (·.s))) hx (Zs.mono (fun _ z => .inl z) fun _ h => h) fun b hb => .inl (.inr hb)
    have S3 := SA.frz (ts.flatMap (·.s)) S2
    have g3 := (st.froze n).trans' S (step_frz (agM ags) (ts.flatMap (·.s)))
    split at q
    · rename_i t
      simp only [List.map_cons, List.map_nil] at r
      unfold RepDs at r
      obtain ⟨v, vr, A1, A2, e1, h1, h2, e3⟩ := r
      have e4 := List.append_eq_nil_iff.mp e3.symm
      rw [e4.1] at h1
      unfold RepDs at h2
      rw [h2.1] at e1
      split at q
      · rename_i l el
        rw [el] at h1
        unfold RepD at h1
        obtain ⟨a, xs, ea, f1, r1⟩ := h1
        rw [ea] at e1
        exact ⟨a, xs, e1, f1.sq, hn _ _ H' _ _ _ q g3 S3 (wk_enum f1 r1)⟩
      · exact q.elim
    · exact q.elim
end
/-! ### rows -/
section
variable {env : En} {P : VD} {Qn : Tv → En → Prop} {Qx : Xd → En → Prop} {QI : List D → En → Prop} {j : Nat} {d : D} {n : Nat}
theorem e_mv : vMv j env Qn Qx = atK env j (fun d n => nxK (env.set j none) (Qn ⟨d, n, []⟩) ⟨⟩) ⟨⟩ := id rfl
def ix2K (k : Nat) (t : Tv) (env : En) (Qn : Tv → En → Prop) (_ : Tag Qn) : Prop := match t.d with
  | .tup l => (match l[k]? with
    | some d => Qn ⟨d, t.n, t.s⟩ env
    | none => False)
  | _ => False
theorem e_ix2 {k : Nat} {m : VE} : vIx2 k m env Qn Qx = m env (fun t env1 => ix2K k t env1 Qn ⟨⟩) Qx := id rfl
theorem e_ix20 {l : List D} {s : List Nat} {t : Tag Qn} : ix2K 0 ⟨.tup (d :: l), n, s⟩ env Qn t = Qn ⟨d, n, s⟩ env := id rfl
theorem e_ix21 {l : List D} {d0 : D} {s : List Nat} {t : Tag Qn} : ix2K 1 ⟨.tup (d0 :: d :: l), n, s⟩ env Qn t = Qn ⟨d, n, s⟩ env := id rfl
theorem e_tup2 {ags : List Ag} : vTup2 ags env Qn Qx = vAs ags env (fun ts env1 => oks2 ts ∧ ts.length ≤ 16777216 ∧ Qn (res (mkTup (ts.map (·.d)), 1) []) env1) Qx := id rfl
def enumK (t : Tv) (env : En) (QI : List D → En → Prop) (_ : Tag QI) : Prop := match t.d with
  | .lst l => QI (enumD 0 l) (frz (t.s ++ []) env)
  | _ => False
theorem e_enum {m : VE} {M : List Nat} : vEnum [.ex m M] env QI Qx = m env (fun t env1 => Apart t [] ∧ enumK t env1 QI ⟨⟩) Qx := id rfl
theorem e_enumK {l : List D} {s : List Nat} {t : Tag QI} : enumK ⟨.lst l, n, s⟩ env QI t = nxK (frz (s ++ []) env) (QI (enumD 0 l)) ⟨⟩ := id rfl
end
/-- an enumerated list of mapped items -/
theorem enumD_map {α : Type} (f : α → I) : ∀ (k : Nat) (l : List α), enumD k (l.map fun a => .im (f a)) = (l.zipIdx k).map fun q => .im (.tup [.int (q.2 : Int), f q.1])
  | _, [] => rfl
  | k, a :: l => by
    show mkTup [.im (.int k), .im (f a)] :: enumD (k + 1) (l.map fun a => .im (f a)) = _
    rw [enumD_map f (k + 1) l, List.zipIdx_cons, List.map_cons]
    rfl
end Kv

namespace Kv
open PySem PySem.Spec L2
open PyProof.Rows hiding St
/-! ### // by a divisor of either sign -/
def oDivX : Op2 := oI2 (fun _ j => j ≠ 0 ∧ j.natAbs.log2 < 9000) fun i j => i.fdiv j
section
variable {X : Cx} {W : WX} {pos : Pos} {a b : Expr} {M1 M2 : List Nat} {m1 m2 : VE}
theorem op_fdivX : OpR X (binaryOp .FloorDiv) (rI (fun _ j => j ≠ 0 ∧ j.natAbs.log2 < 9000) fun i j => .int (i.fdiv j)) := opI fun i j _ _ _ _ _ hc q => floordiv_int hc.1 q (.inl (PyProof.noPylong_of_log2 hc.2))
theorem ee_divX (ha : EE X W M1 a m1) (hb : EE X W M2 b m2) : EE X W (M1 ++ M2) (.BinOp a .FloorDiv b pos) (vBin oDivX M2 m1 m2) := ee_op op_fdivX (oI2_ok fun _ _ h => h) ha hb
end
theorem e_divX {i i' : Int} : oDivX (.im (.int i)) (.im (.int i')) = some ⟨i' ≠ 0 ∧ i'.natAbs.log2 < 9000, .im (.int (i.fdiv i')), 0⟩ := id rfl
/-! ### for over an owned list that the body leaves as it is: it stays owned -/
def forVO (T : Tg) (j : Nat) (ds : List D) (b : VS) : List D → VS
  | [], env, P => P.nx env
  | d :: r, env, P => bindT T d env fun env1 => b env1 { P with nx := fun e => e[j]? = some (some (.lst ds, 1)) ∧ forVO T j ds b r e P, ct := fun e => e[j]? = some (some (.lst ds, 1)) ∧ forVO T j ds b r e P, bk := P.nx }
def vForO (T : Tg) (j : Nat) (b : VS) : VS := fun env P => ownL env j fun ds => forVO T j ds b ds env P
section
variable {X : Cx} {W : WX} {U : List Nat} {pos p : Pos} {tg : Expr} {T : Tg} {body : List Stmt} {b : VS} {j : Nat} {x : Str}
theorem ss_forO (hp : PassesOwn (model X.prog X.w) X.A X.env X.xe) (hc : X.calm = true) (hN : X.N[j]? = some x) (hv : Vis X.env.scope x) (hg : PG X tg (gT X.K T)) (hb : SSs X W U body b) (hT : ∀ i ∈ T.slots, i ∈ U) (hj : j ∉ U) (hd : (x == ("__debug__" : Str)) = false := by decide) (hcd : (x == ("__classdict__" : Str)) = false := by decide)
    (hs : ∀ y, foldedSetIterable (.Name x p) X.env y = pure y := by intro _; rfl) : SS X W U (.For tg (.Name x p) body [] pos) (vForO T j b) :=
  psImp (ps_for hp hc (pi_seq (pe_var hN hv hd hcd)) hg hb hs) fun D σ H ⟨env, Z, As, P, S, q, bk⟩ => by
    obtain ⟨ds, e0, q⟩ := ownL_of q
    obtain ⟨a, vs, v1, h1, hA, r⟩ := S.own1 e0
    refine ⟨_, v1, a, rfl, .inl ⟨⟨vs, .inl (.inl h1)⟩, ?_⟩⟩
    refine ⟨fun i m σ2 H2 => m = ds.length - i ∧ i ≤ ds.length ∧ ∃ env2 Z2 As2, SA X.K H2 Z2 As2 σ2 env2 ∧ Go H Z As H2 Z2 As2 ∧ Fx U σ σ2 ∧ env2[j]? = some (some (.lst ds, 1)) ∧ forVO T j ds b (ds.drop i) env2 P, ⟨ds.length, by omega, Nat.zero_le _, env, Z, As, S, .refl, .refl, e0, q⟩, ?_⟩
    rintro i m σ2 H2 ⟨rfl, hi, env2, Z2, As2, S2, g2, f2, e2, q2⟩
    obtain ⟨a2, vs2, w1, w2, w3, w4⟩ := S2.own1 e2
    have ea : a2 = a := by
      have := f2.2 j hj
      rw [v1, w1] at this
      exact V.ref.inj (Option.some.inj (Option.some.inj this))
    subst ea
    have hl := RepDs.length w4
    have sq : SqL X.K H2 a2 vs2 := .inl (.inl w2)
    by_cases hlt : i < ds.length
    · refine .inr ⟨?_, fun σ3 H3 => i + 1 ≤ ds.length ∧ ∃ env3 Z3 As3, SA X.K H3 Z3 As3 σ3 env3 ∧ Go H Z As H3 Z3 As3 ∧ Fx U σ σ3 ∧ env3[j]? = some (some (.lst ds, 1)) ∧ forVO T j ds b (ds.drop (i + 1)) env3 P, fun σ3 H3 ⟨h1, h2⟩ => ⟨ds.length - (i + 1), by omega, rfl, h1, h2⟩, fun y H3 yl => ?_⟩
      · obtain ⟨y, hy⟩ := get_some (m := vs2) hl hlt
        exact ⟨vs2, y, sq, hy⟩
      obtain ⟨eH, yq⟩ := yl
      subst eH
      obtain ⟨v, k1, rd⟩ := RepDs.get w4 (List.getElem?_eq_getElem hlt)
      have ey := (yq vs2 sq).symm.trans k1
      cases ey
      rw [List.drop_eq_getElem_cons hlt] at q2
      refine bind_ok (U := U) T hT S2 rd q2 fun σ4 H4 hb4 => ?_
      obtain ⟨env4, As4, q4, S4, eH, f4, g4⟩ := hb4
      subst eH
      have gO : Go H Z As H4 Z2 As4 := g2.trans g4
      have fA : Fx U σ σ4 := f2.trans f4
      refine ⟨env4, Z2, As4, _, S4, q4, ?_, ?_, ?_, ?_, ?_⟩
      · intro env5 σ5 H5 Z5 As5 p5 g5 S5 f5
        exact ⟨hlt, env5, Z5, As5, S5, gO.trans g5, fA.trans f5, p5⟩
      · intro env5 σ5 H5 Z5 As5 p5 g5 S5 f5
        exact bk.nx env5 σ5 H5 Z5 As5 p5 (gO.trans g5) S5 (fA.trans f5)
      · intro env5 σ5 H5 Z5 As5 p5 g5 S5 f5
        exact ⟨hlt, env5, Z5, As5, S5, gO.trans g5, fA.trans f5, p5⟩
      · intro t5 env5 v5 σ5 H5 Z5 As5 B5 p5 g5 S5 T5 n5 f5
        exact bk.rt t5 env5 v5 σ5 H5 Z5 As5 B5 p5 (gO.trans g5) S5 T5 (n5.go gO) (fA.trans f5)
      · intro x5 env5 c5 d5 σ5 H5 Z5 As5 p5 g5 S5 o5 f5
        exact bk.xc x5 env5 c5 d5 σ5 H5 Z5 As5 p5 (gO.trans g5) S5 o5 (fA.trans f5)
    · have e : i = ds.length := by omega
      subst e
      rw [List.drop_length] at q2
      exact .inl ⟨⟨vs2, sq, by omega⟩, bk.nx env2 σ2 H2 Z2 As2 q2 g2 S2 f2⟩
end
def forKO (T : Tg) (j : Nat) (ds : List D) (b : VS) (r : List D) (env : En) (P : VD) (_ : Tag T) (_ : Tag b) (_ : Tag P) : Prop := forVO T j ds b r env P
def ownKO (env : En) (j : Nat) (k : List D → Prop) (_ : Tag k) : Prop := ownL env j k
section
variable {env : En} {P : VD} {o : Option (D × Nat)} {j : Nat}
theorem e_forO {T : Tg} {b : VS} : vForO T j b env P = ownKO env j (fun ds => forKO T j ds b ds env P ⟨⟩ ⟨⟩ ⟨⟩) ⟨⟩ := id rfl
theorem e_owO {l : List D} {k : List D → Prop} {t : Tag k} : ownKO (some (.lst l, 1) :: env) 0 k t = k l := id rfl
theorem e_owOS {k : List D → Prop} {t : Tag k} : ownKO (o :: env) (j + 1) k t = ownKO env j k ⟨⟩ := by
  unfold ownKO ownL
  rw [List.getElem?_cons_succ]
end
theorem forO_ind {T : Tg} {b : VS} {P : VD} {t1 : Tag T} {t2 : Tag b} {t3 : Tag P} {j : Nat} {ds : List D} (Inv : List D → En → Prop) (ho : ∀ r env, Inv r env → env[j]? = some (some (.lst ds, 1)))
    (hs : ∀ d r env, Inv (d :: r) env → ∀ K : En → Prop, (∀ env', Inv r env' → K env') → bndK T d env (fun env1 => b env1 { P with nx := K, ct := K, bk := P.nx }) ⟨⟩)
    (he : ∀ env, Inv [] env → P.nx env) : ∀ {r : List D} {env : En}, Inv r env → forKO T j ds b r env P t1 t2 t3
  | [], env, h => he env h
  | d :: r, env, h => hs d r env h (fun e => e[j]? = some (some (.lst ds, 1)) ∧ forVO T j ds b r e P) fun env' h' => ⟨ho r env' h', forO_ind (t1 := t1) (t2 := t2) (t3 := t3) Inv ho hs he h'⟩
end Kv

namespace Lk
open PySem PySem.Spec L2 Kv
open PyProof.Rows hiding St
/-! def divisor_of_two(a, b): 0 a, 1 b -/
def io_divisor_of_two : List Nat := [0, 0]
def m_divisor_of_two : VS :=
  (vSeq (vWhile (vTv trB (vBin oGt [] (vN 1) (vC (.int 0)))) (vSeq (vPar 0 1 [.ex (vN 1) [], .ex (vBin oMod [] (vN 0) (vN 1)) []])
  vSkip))
  (vSeq (vRetV 0)
  vSkip))
def run_divisor_of_two : VF := runOf 2 io_divisor_of_two m_divisor_of_two
/-! def common_divisor(numbers): 0 numbers, 1 found, 2 number -/
def io_common_divisor : List Nat := [0]
def m_common_divisor : VS :=
  (vSeq (vSet 1 (vC (.int 0)))
  (vSeq (vFor (.nm 2) (vItE (vN 0)) (vSeq (vSet 1 (vCall (run_divisor_of_two) io_divisor_of_two [.ex (vN 1) [], .ex (vOp (one bAbs) [.ex (vN 2) []]) []]))
  vSkip))
  (vSeq (vRetV 1)
  vSkip)))
def run_common_divisor : VF := runOf 3 io_common_divisor m_common_divisor
/-! def one_length(columns): 0 columns, 1 column -/
def io_one_length : List Nat := [0]
def m_one_length : VS :=
  (vSeq (vRet (vOp (one bAll) [.ex (vLc [1] (.nm 1) (vItE (vN 0)) vYes (vBin oEq [] (vOp (one bLen) [.ex (vN 1) []]) (vOp (one bLen) [.ex (vBin oIx [] (vN 0) (vC (.int 0))) []]))) [1]]))
  vSkip)
def run_one_length : VF := runOf 2 io_one_length m_one_length
/-! def first_place(numbers): 0 numbers, 1 i, 2 number -/
def io_first_place : List Nat := [0]
def m_first_place : VS :=
  (vSeq (vFor (.tp [(.nm 1), (.nm 2)]) (vEnum [.ex (vN 0) []]) (vSeq (vIf (vTv trB (vBin oNe [] (vN 2) (vC (.int 0)))) (vSeq (vRetV 1)
  vSkip) vSkip)
  vSkip))
  (vSeq (vRet (vUn oNeg (vC (.int 1))))
  vSkip))
def run_first_place : VF := runOf 3 io_first_place m_first_place
/-! def primitive(numbers): 0 numbers, 1 common, 2 number -/
def io_primitive : List Nat := [0]
def m_primitive : VS :=
  (vSeq (vSet 1 (vCall (run_common_divisor) io_common_divisor [.ex (vN 0) []]))
  (vJoin (vIf (vTv trB (vBin oLtX [] (vBin oIx [] (vN 0) (vCall (run_first_place) io_first_place [.ex (vN 0) []])) (vC (.int 0)))) (vSeq (vSet 1 (vUn oNeg (vN 1)))
  vSkip) vSkip)
  (vSeq (vRet (vLc [2] (.nm 2) (vItE (vN 0)) vYes (vBin oDivX [] (vN 2) (vN 1))))
  vSkip)))
def run_primitive : VF := runOf 3 io_primitive m_primitive
/-! def cancelled(vector, mix, basis): 0 vector, 1 mix, 2 basis, 3 place, 4 row, 5 row_mix, 6 by, 7 off, 8 x, 9 y -/
def io_cancelled : List Nat := [0, 0, 1]
def m_cancelled : VS :=
  (vSeq (vForO (.tp [(.nm 3), (.nm 4), (.nm 5)]) 2 (vSeq (vAsg (.tp [(.nm 6), (.nm 7)]) (vOp oTup [.ex (vBin oIx [] (vN 4) (vN 3)) [], .ex (vBin oIx [] (vN 0) (vN 3)) []]))
  (vSeq (vIf (vTv trB (vBin oNe [] (vN 7) (vC (.int 0)))) (vSeq (vSet 0 (vLc [8, 9] (.tp [(.nm 8), (.nm 9)]) (vZip [.ex (vN 0) [], .ex (vN 4) []]) vYes (vBin oSub [] (vBin oMul [] (vN 6) (vN 8)) (vBin oMul [] (vN 7) (vN 9)))))
  (vSeq (vSet 1 (vLc [8, 9] (.tp [(.nm 8), (.nm 9)]) (vZip [.ex (vN 1) [], .ex (vN 5) []]) vYes (vBin oSub [] (vBin oMul [] (vN 6) (vN 8)) (vBin oMul [] (vN 7) (vN 9)))))
  vSkip)) vSkip)
  vSkip)))
  (vSeq (vRet (vOp oTup [.ex (vN 0) [], .ex (vN 1) []]))
  vSkip))
def run_cancelled : VF := runOf 10 io_cancelled m_cancelled
/-! def swept(columns): 0 columns, 1 basis, 2 found, 3 i, 4 column, 5 unit, 6 vector, 7 mix, 8 place, 9 j -/
def io_swept : List Nat := [0]
def m_swept : VS :=
  (vSeq (vSet 1 (vOp oLst []))
  (vSeq (vSet 2 (vC .non))
  (vSeq (vFor (.tp [(.nm 3), (.nm 4)]) (vEnum [.ex (vN 0) []]) (vSeq (vSet 5 (vLc [9] (.nm 9) (vRg1 [.ex (vOp (one bLen) [.ex (vN 0) []]) []]) vYes (vIfE (vTv trB (vBin oEq [] (vN 9) (vN 3))) (vC (.int 1)) (vC (.int 0)))))
  (vSeq (vAsg (.tp [(.nm 6), (.nm 7)]) (vCall (run_cancelled) io_cancelled [.ex (vCl (vOp (one bList) [.ex (vN 4) []])) [], .ex (vMv 5) [5], .io 1]))
  (vSeq (vSet 8 (vCall (run_first_place) io_first_place [.ex (vN 6) []]))
  (vSeq (vIf (vTv trB (vBin oGe [] (vN 8) (vC (.int 0)))) (vSeq (vMut 1 mApp [.ex (vOp oTup [.ex (vN 8) [], .ex (vN 6) [], .ex (vN 7) []]) []])
  vSkip) (vSeq (vIf (vTv trB (vUn oIsN (vN 2))) (vSeq (vSet 2 (vCall (run_primitive) io_primitive [.ex (vN 7) []]))
  vSkip) vSkip)
  vSkip))
  vSkip)))))
  (vSeq (vRet (vTup2 [.ex (vOp (one bLen) [.ex (vN 1) []]) [], .ex (vMv 2) [2]]))
  vSkip))))
def run_swept : VF := runOf 10 io_swept m_swept
/-! def dependence(columns): 0 columns, 1 found -/
def io_dependence : List Nat := [0]
def m_dependence : VS :=
  (vSeq (vIf (vOrT (vTv trB (vBin oEq [] (vOp (one bLen) [.ex (vN 0) []]) (vC (.int 0)))) (vOrT (vNotT (vTv tru (vCall (run_one_length) io_one_length [.ex (vN 0) []]))) (vTv trB (vBin oLe [] (vOp (one bLen) [.ex (vN 0) []]) (vOp (one bLen) [.ex (vBin oIx [] (vN 0) (vC (.int 0))) []]))))) (vSeq (vRaise "BadCounts")
  vSkip) vSkip)
  (vSeq (vSet 1 (vIx2 1 (vCall (run_swept) io_swept [.ex (vN 0) []])))
  (vSeq (vRetV 1)
  vSkip)))
def run_dependence : VF := runOf 2 io_dependence m_dependence
/-! def is_dependence(columns, numbers): 0 columns, 1 numbers, 2 place, 3 i, 4 number, 5 column -/
def io_is_dependence : List Nat := [0, 0]
def m_is_dependence : VS :=
  (vSeq (vIf (vOrT (vTv trB (vBin oNe [] (vOp (one bLen) [.ex (vN 1) []]) (vOp (one bLen) [.ex (vN 0) []]))) (vNotT (vTv tru (vCall (run_one_length) io_one_length [.ex (vN 0) []])))) (vSeq (vRet (vC (.bl false)))
  vSkip) vSkip)
  (vSeq (vSet 2 (vCall (run_first_place) io_first_place [.ex (vN 1) []]))
  (vSeq (vIf (vOrT (vTv trB (vBin oLtX [] (vN 2) (vC (.int 0)))) (vOrT (vTv trB (vBin oLtX [] (vBin oIx [] (vN 1) (vN 2)) (vC (.int 0)))) (vTv trB (vBin oNe [] (vCall (run_common_divisor) io_common_divisor [.ex (vN 1) []]) (vC (.int 1)))))) (vSeq (vRet (vC (.bl false)))
  vSkip) vSkip)
  (vSeq (vFor (.nm 3) (vRg1 [.ex (vOp (one bLen) [.ex (vBin oIx [] (vN 0) (vC (.int 0))) []]) []]) (vSeq (vIf (vTv trB (vBin oNe [] (vOp (one bSum) [.ex (vLc [4, 5] (.tp [(.nm 4), (.nm 5)]) (vZip [.ex (vN 1) [], .ex (vN 0) []]) vYes (vBin oMul [] (vN 4) (vBin oIx [] (vN 5) (vN 3)))) [4, 5]]) (vC (.int 0)))) (vSeq (vRet (vC (.bl false)))
  vSkip) vSkip)
  vSkip))
  (vSeq (vRet (vC (.bl true)))
  vSkip)))))
def run_is_dependence : VF := runOf 6 io_is_dependence m_is_dependence
/-! def rank(columns): 0 columns -/
def io_rank : List Nat := [0]
def m_rank : VS :=
  (vSeq (vIf (vNotT (vTv tru (vCall (run_one_length) io_one_length [.ex (vN 0) []]))) (vSeq (vRaise "BadCounts")
  vSkip) vSkip)
  (vSeq (vRet (vBin oIx [] (vCall (run_swept) io_swept [.ex (vN 0) []]) (vC (.int 0))))
  vSkip))
def run_rank : VF := runOf 1 io_rank m_rank
/-! def _law_mix(a, b): 0 a, 1 b, 2 x, 3 y, 4 z -/
def io__law_mix : List Nat := [0, 0]
def m__law_mix : VS :=
  (vSeq (vSet 2 (vBin oMod [] (vBin oAdd [] (vBin oAdd [] (vBin oMul [] (vBin oMod [] (vOp (one bInt) [.ex (vN 0) []]) (vC (.int 2147483647))) (vC (.int 48271))) (vBin oMul [] (vBin oMod [] (vOp (one bInt) [.ex (vN 1) []]) (vC (.int 998244353))) (vC (.int 69621)))) (vC (.int 12345))) (vC (.int 2147483647))))
  (vSeq (vSet 3 (vBin oMod [] (vBin oAdd [] (vBin oAdd [] (vBin oMul [] (vN 2) (vN 2)) (vBin oDiv [] (vN 2) (vC (.int 127)))) (vC (.int 40692))) (vC (.int 2147483399))))
  (vSeq (vSet 4 (vBin oMod [] (vBin oAdd [] (vBin oAdd [] (vBin oDiv [] (vN 3) (vC (.int 1009))) (vBin oMul [] (vBin oMod [] (vN 3) (vC (.int 1009))) (vC (.int 16807)))) (vBin oMul [] (vBin oMod [] (vBin oDiv [] (vN 2) (vC (.int 31))) (vC (.int 65536))) (vC (.int 7919)))) (vC (.int 2147483629))))
  (vSeq (vRet (vBin oMod [] (vBin oAdd [] (vBin oAdd [] (vBin oMul [] (vN 4) (vN 4)) (vBin oMul [] (vC (.int 271828)) (vN 3))) (vN 2)) (vC (.int 998244353))))
  vSkip))))
def run__law_mix : VF := runOf 5 io__law_mix m__law_mix
/-! def _law_store(script): 0 script, 1 cell -/
def io__law_store : List Nat := [0]
def m__law_store : VS :=
  (vSeq (vRet (vLst2 [.ex (vLc [1] (.nm 1) (vItE (vN 0)) vYes (vOp (one bInt) [.ex (vN 1) []])) [1], .ex (vC (.int 0)) [], .ex (vC (.int 0)) [], .ex (vC (.int 0)) [], .ex (vC (.int 271828)) []]))
  vSkip)
def run__law_store : VF := runOf 2 io__law_store m__law_store
/-! def _law_take(store, many): 0 store, 1 many, 2 cell, 3 great -/
def io__law_take : List Nat := [2, 0]
def m__law_take : VS :=
  (vSeq (vIf (vTv trB (vBin oLtX [] (vN 1) (vC (.int 2)))) (vSeq (vRet (vC (.int 0)))
  vSkip) vSkip)
  (vSeq (vSetX 0 (vBin oAdd [] (vBin oIx [] (vN 0) (vC (.int 3))) (vC (.int 1))) (vC (.int 3)))
  (vJoin (vIf (vAndT (vTv trB (vBin oEq [] (vBin oIx [] (vN 0) (vC (.int 2))) (vC (.int 0)))) (vTv trB (vBin oLtX [] (vBin oIx [] (vN 0) (vC (.int 1))) (vOp (one bLen) [.ex (vBin oIx [] (vN 0) (vC (.int 0))) []])))) (vSeq (vSet 2 (vOp (one bInt) [.ex (vBin oIx [] (vBin oIx [] (vN 0) (vC (.int 0))) (vBin oIx [] (vN 0) (vC (.int 1)))) []]))
  (vSeq (vSetX 0 (vBin oAdd [] (vBin oIx [] (vN 0) (vC (.int 1))) (vC (.int 1))) (vC (.int 1)))
  (vSeq (vSetX 0 (vCall (run__law_mix) io__law_mix [.ex (vBin oAdd [] (vBin oIx [] (vN 0) (vC (.int 4))) (vBin oMod [] (vN 2) (vC (.int 2147483629)))) [], .ex (vBin oIx [] (vN 0) (vC (.int 3))) []]) (vC (.int 4)))
  (vSeq (vIf (vTv trB (vBin oGe [] (vOp (one bAbs) [.ex (vN 2) []]) (vBin oPow [] (vC (.int 10)) (vC (.int 18))))) (vSeq (vSetX 0 (vBin oMod [] (vOp (one bAbs) [.ex (vN 2) []]) (vBin oMul [] (vBin oMul [] (vBin oMul [] (vBin oMul [] (vBin oMul [] (vBin oPow [] (vC (.int 10)) (vC (.int 64))) (vBin oPow [] (vC (.int 10)) (vC (.int 64)))) (vBin oPow [] (vC (.int 10)) (vC (.int 64)))) (vBin oPow [] (vC (.int 10)) (vC (.int 64)))) (vBin oPow [] (vC (.int 10)) (vC (.int 64)))) (vBin oPow [] (vC (.int 10)) (vC (.int 64))))) (vC (.int 2)))
  vSkip) vSkip)
  vSkip)))) vSkip)
  (vSeq (vIf (vTv trB (vBin oGt [] (vBin oIx [] (vN 0) (vC (.int 2))) (vC (.int 0)))) (vSeq (vSet 3 (vOp (one bInt) [.ex (vBin oIx [] (vN 0) (vC (.int 2))) []]))
  (vSeq (vSetX 0 (vBin oDiv [] (vN 3) (vN 1)) (vC (.int 2)))
  (vSeq (vRet (vBin oMod [] (vN 3) (vN 1)))
  vSkip))) vSkip)
  (vSeq (vSetX 0 (vCall (run__law_mix) io__law_mix [.ex (vBin oIx [] (vN 0) (vC (.int 4))) [], .ex (vBin oIx [] (vN 0) (vC (.int 3))) []]) (vC (.int 4)))
  (vSeq (vRet (vBin oMod [] (vOp (one bInt) [.ex (vBin oIx [] (vN 0) (vC (.int 4))) []]) (vN 1)))
  vSkip))))))
def run__law_take : VF := runOf 4 io__law_take m__law_take
/-! def _law_span(store, low, high): 0 store, 1 low, 2 high, 3 form -/
def io__law_span : List Nat := [2, 0, 0]
def m__law_span : VS :=
  (vSeq (vIf (vTv trB (vBin oLe [] (vN 2) (vN 1))) (vSeq (vRetV 1)
  vSkip) vSkip)
  (vSeq (vSet 3 (vCall (run__law_take) io__law_take [.io 0, .ex (vC (.int 12)) []]))
  (vSeq (vIf (vTv trB (vBin oEq [] (vN 3) (vC (.int 0)))) (vSeq (vRetV 1)
  vSkip) vSkip)
  (vSeq (vIf (vTv trB (vBin oEq [] (vN 3) (vC (.int 1)))) (vSeq (vRetV 2)
  vSkip) vSkip)
  (vSeq (vIf (vTv trB (vBin oEq [] (vN 3) (vC (.int 2)))) (vSeq (vRet (vBin oAdd [] (vN 1) (vC (.int 1))))
  vSkip) vSkip)
  (vSeq (vIf (vTv trB (vBin oEq [] (vN 3) (vC (.int 3)))) (vSeq (vRet (vOp (twoI min) [.ex (vOp (twoI max) [.ex (vN 1) [], .ex (vC (.int 0)) []]) [], .ex (vN 2) []]))
  vSkip) vSkip)
  (vSeq (vRet (vBin oAdd [0] (vN 1) (vCall (run__law_take) io__law_take [.io 0, .ex (vBin oAdd [] (vBin oSub [] (vN 2) (vN 1)) (vC (.int 1))) []])))
  vSkip)))))))
def run__law_span : VF := runOf 4 io__law_span m__law_span
/-! def _law_pick(store, rows): 0 store, 1 rows -/
def io__law_pick : List Nat := [2, 0]
def m__law_pick : VS :=
  (vSeq (vRet (vBin oIx [0] (vN 1) (vCall (run__law_take) io__law_take [.io 0, .ex (vOp (one bLen) [.ex (vN 1) []]) []])))
  vSkip)
def run__law_pick : VF := runOf 2 io__law_pick m__law_pick
/-! def _law_put(rows, at, row): 0 rows, 1 at, 2 row -/
def io__law_put : List Nat := [0, 0, 0]
def m__law_put : VS :=
  (vSeq (vRet (vBin oAdd [] (vBin oAdd [] (vCl (vOp oSlH [.ex (vN 0) [], .ex (vN 1) []])) (vOp oLst [.ex (vN 2) []])) (vCl (vOp oSlL [.ex (vN 0) [], .ex (vBin oAdd [] (vN 1) (vC (.int 1))) []]))))
  vSkip)
def run__law_put : VF := runOf 3 io__law_put m__law_put
/-! def _law_whole(x): 0 x -/
def io__law_whole : List Nat := [0]
def m__law_whole : VS :=
  (vSeq (vRet (vAndV (vUn (oIs .int) (vN 0)) (vUn oNot (vUn (oIs .bool) (vN 0)))))
  vSkip)
def run__law_whole : VF := runOf 1 io__law_whole m__law_whole
/-! def _law_same(a, b): 0 a, 1 b, 2 k -/
def io__law_same : List Nat := [0, 0]
def m__law_same (self : VF) : VS :=
  (vSeq (vIf (vOrT (vTv trB (vUn oIsN (vN 0))) (vTv trB (vUn oIsN (vN 1)))) (vSeq (vRet (vAndV (vUn oIsN (vN 0)) (vUn oIsN (vN 1))))
  vSkip) vSkip)
  (vSeq (vIf (vTv tru (vUn (oIs .bool) (vN 1))) (vSeq (vRet (vAndV (vUn (oIs .bool) (vN 0)) (vBin oEq [] (vN 0) (vN 1))))
  vSkip) vSkip)
  (vSeq (vIf (vTv tru (vUn (oIs .int) (vN 1))) (vSeq (vRet (vAndV (vCall (run__law_whole) io__law_whole [.ex (vN 0) []]) (vBin oEq [] (vN 0) (vN 1))))
  vSkip) vSkip)
  (vSeq (vIf (vTv tru (vUn (oIs .str) (vN 1))) (vSeq (vRet (vAndV (vUn (oIs .str) (vN 0)) (vBin oEq [] (vN 0) (vN 1))))
  vSkip) vSkip)
  (vSeq (vIf (vAndT (vTv tru (vUn (oIs .list) (vN 1))) (vNotT (vTv tru (vUn (oIs .list) (vN 0))))) (vSeq (vRet (vC (.bl false)))
  vSkip) vSkip)
  (vSeq (vIf (vAndT (vTv tru (vUn (oIs .tuple) (vN 1))) (vNotT (vTv tru (vUn (oIs .tuple) (vN 0))))) (vSeq (vRet (vC (.bl false)))
  vSkip) vSkip)
  (vSeq (vIf (vTv trB (vBin oNe [] (vOp (one bLen) [.ex (vN 0) []]) (vOp (one bLen) [.ex (vN 1) []]))) (vSeq (vRet (vC (.bl false)))
  vSkip) vSkip)
  (vSeq (vFor (.nm 2) (vRg1 [.ex (vOp (one bLen) [.ex (vN 1) []]) []]) (vSeq (vIf (vNotT (vTv tru (vCall (self) io__law_same [.ex (vBin oIx [] (vN 0) (vN 2)) [], .ex (vBin oIx [] (vN 1) (vN 2)) []]))) (vSeq (vRet (vC (.bl false)))
  vSkip) vSkip)
  vSkip))
  (vSeq (vRet (vC (.bl true)))
  vSkip)))))))))
def run__law_same : Nat → VF
  | 0 => fun _ _ _ => False
  | n + 1 => runOf 3 io__law_same (m__law_same (run__law_same n))
/-! def _law_nil(d): 0 d, 1 k -/
def io__law_nil : List Nat := [0]
def m__law_nil : VS :=
  (vSeq (vRet (vOp (one bTuple) [.ex (vLc [1] (.nm 1) (vRg1 [.ex (vN 0) []]) vYes (vC (.int 0))) [1]]))
  vSkip)
def run__law_nil : VF := runOf 2 io__law_nil m__law_nil
/-! def _law_multiple(p, z): 0 p, 1 z, 2 n -/
def io__law_multiple : List Nat := [0, 0]
def m__law_multiple : VS :=
  (vSeq (vRet (vOp (one bTuple) [.ex (vLc [2] (.nm 2) (vItE (vN 0)) vYes (vBin oMul [] (vN 2) (vN 1))) [2]]))
  vSkip)
def run__law_multiple : VF := runOf 3 io__law_multiple m__law_multiple
/-! def _law_far(p): 0 p, 1 n -/
def io__law_far : List Nat := [0]
def m__law_far : VS :=
  (vSeq (vRet (vOp (one bMax) [.ex (vLc [1] (.nm 1) (vItE (vN 0)) vYes (vOp (one bAbs) [.ex (vN 1) []])) [1]]))
  vSkip)
def run__law_far : VF := runOf 2 io__law_far m__law_far
/-! def _law_columns(store, many, rows): 0 store, 1 many, 2 rows, 3 out, 4 far, 5 k, 6 form, 7 column, 8 j -/
def io__law_columns : List Nat := [2, 0, 0]
def m__law_columns : VS :=
  (vSeq (vSet 3 (vOp oLst []))
  (vSeq (vSet 4 (vBin oIx [0] (vOp oLst [.ex (vC (.int 9)) [], .ex (vC (.int 9)) [], .ex (vC (.int 9)) [], .ex (vC (.int 49999)) []]) (vCall (run__law_take) io__law_take [.io 0, .ex (vC (.int 4)) []])))
  (vSeq (vFor (.nm 5) (vRg1 [.ex (vN 1) []]) (vSeq (vSet 6 (vCall (run__law_take) io__law_take [.io 0, .ex (vC (.int 9)) []]))
  (vSeq (vSet 7 (vOp (one bTuple) [.ex (vLc [8] (.nm 8) (vRg1 [.ex (vN 2) []]) vYes (vCall (run__law_span) io__law_span [.io 0, .ex (vBin oSub [] (vC (.int 0)) (vN 4)) [], .ex (vN 4) []])) [0, 8]]))
  (vJoin (vIf (vTv trB (vBin oEq [] (vN 6) (vC (.int 0)))) (vSeq (vSet 7 (vCall (run__law_nil) io__law_nil [.ex (vN 2) []]))
  vSkip) vSkip)
  (vJoin (vIf (vAndT (vTv tru (vN 3)) (vTv trB (vBin oEq [] (vN 6) (vC (.int 1))))) (vSeq (vSet 7 (vCall (run__law_pick) io__law_pick [.io 0, .ex (vN 3) []]))
  vSkip) vSkip)
  (vJoin (vIf (vAndT (vTv tru (vN 3)) (vTv trB (vBin oEq [] (vN 6) (vC (.int 2))))) (vSeq (vSet 7 (vCall (run__law_multiple) io__law_multiple [.ex (vCall (run__law_pick) io__law_pick [.io 0, .ex (vN 3) []]) [0], .ex (vUn oNeg (vC (.int 2))) []]))
  (vSeq (vIf (vTv trB (vBin oGt [] (vCall (run__law_far) io__law_far [.ex (vN 7) []]) (vC (.int 99999)))) (vSeq (vSet 7 (vCall (run__law_nil) io__law_nil [.ex (vN 2) []]))
  vSkip) vSkip)
  vSkip)) vSkip)
  (vSeq (vMut 3 mApp [.ex (vN 7) []])
  vSkip)))))))
  (vSeq (vRetV 3)
  vSkip))))
def run__law_columns : VF := runOf 9 io__law_columns m__law_columns
/-! def _law_bad_counts(e): 0 e, 1 odd -/
def io__law_bad_counts : List Nat := [0]
def m__law_bad_counts (a0 : Addr) (x0 : Xd) : VS :=
  (vSeq (vSet 1 (vOp oLst [.ex (vUn (oIsX a0 x0 ["BadCounts"] "BadLine") (vN 0)) [], .ex (vUn (oIsX a0 x0 ["BadCounts"] "DayClosed") (vN 0)) [], .ex (vUn (oIsX a0 x0 ["BadCounts"] "NothingToUndo") (vN 0)) [], .ex (vUn (oIsX a0 x0 ["BadCounts"] "NotPlain") (vN 0)) []]))
  (vSeq (vSet 1 (vBin oAdd [] (vN 1) (vOp oLst [.ex (vUn (oIsX a0 x0 ["BadCounts"] "NotAllEnds") (vN 0)) [], .ex (vUn (oIsX a0 x0 ["BadCounts"] "NotAnEnd") (vN 0)) [], .ex (vUn (oIsX a0 x0 ["BadCounts"] "BadName") (vN 0)) [], .ex (vUn (oIsX a0 x0 ["BadCounts"] "BadStep") (vN 0)) []])))
  (vSeq (vSet 1 (vBin oAdd [] (vN 1) (vOp oLst [.ex (vUn (oIsX a0 x0 ["BadCounts"] "BadWindow") (vN 0)) [], .ex (vUn (oIsX a0 x0 ["BadCounts"] "BadRig") (vN 0)) [], .ex (vUn (oIsX a0 x0 ["BadCounts"] "BadEnds") (vN 0)) [], .ex (vUn (oIsX a0 x0 ["BadCounts"] "OffLedger") (vN 0)) []])))
  (vSeq (vSet 1 (vBin oAdd [] (vN 1) (vOp oLst [.ex (vUn (oIsX a0 x0 ["BadCounts"] "TooLong") (vN 0)) [], .ex (vUn (oIsX a0 x0 ["BadCounts"] "NotLaid") (vN 0)) [], .ex (vUn (oIsX a0 x0 ["BadCounts"] "BadPaper") (vN 0)) []])))
  (vSeq (vRet (vAndV (vUn (oIsX a0 x0 ["BadCounts"] "BadCounts") (vN 0)) (vAndV (vUn (oIsX a0 x0 ["BadCounts"] "ValueError") (vN 0)) (vUn oNot (vOp (one bAny) [.ex (vN 1) []])))))
  vSkip)))))
def run__law_bad_counts (a0 : Addr) (x0 : Xd) : VF := runOf 2 io__law_bad_counts (m__law_bad_counts a0 x0)
/-! def _law_common(numbers): 0 numbers, 1 g, 2 n, 3 b, 4 k, 5 rest -/
def io__law_common : List Nat := [0]
def m__law_common : VS :=
  (vSeq (vSet 1 (vC (.int 0)))
  (vSeq (vFor (.nm 2) (vItE (vN 0)) (vSeq (vSet 3 (vOp (one bAbs) [.ex (vN 2) []]))
  (vSeq (vFor (.nm 4) (vRg1 [.ex (vC (.int 20000)) []]) (vSeq (vIf (vTv trB (vBin oEq [] (vN 3) (vC (.int 0)))) (vSeq vBreak
  vSkip) vSkip)
  (vSeq (vSet 5 (vBin oMod [] (vOp (one bInt) [.ex (vN 1) []]) (vN 3)))
  (vSeq (vSet 1 (vN 3))
  (vSeq (vSet 3 (vN 5))
  vSkip)))))
  vSkip)))
  (vSeq (vRetV 1)
  vSkip)))
def run__law_common : VF := runOf 6 io__law_common m__law_common
/-! def _law_depends(columns, numbers): 0 columns, 1 numbers, 2 first, 3 k, 4 n, 5 j -/
def io__law_depends : List Nat := [0, 0]
def m__law_depends : VS :=
  (vSeq (vIf (vOrT (vNotT (vTv tru (vUn (oIs .list) (vN 1)))) (vTv trB (vBin oNe [] (vOp (one bLen) [.ex (vN 1) []]) (vOp (one bLen) [.ex (vN 0) []])))) (vSeq (vRet (vC (.bl false)))
  vSkip) vSkip)
  (vSeq (vIf (vTv tru (vLc [4] (.nm 4) (vItE (vN 1)) (vNotT (vTv tru (vCall (run__law_whole) io__law_whole [.ex (vN 4) []]))) (vN 4))) (vSeq (vRet (vC (.bl false)))
  vSkip) vSkip)
  (vSeq (vSet 2 (vCl (vOp oSlH [.ex (vLc [4] (.nm 4) (vItE (vN 1)) (vTv trB (vBin oNe [] (vN 4) (vC (.int 0)))) (vN 4)) [4], .ex (vC (.int 1)) []])))
  (vSeq (vIf (vOrT (vNotT (vTv tru (vN 2))) (vOrT (vTv trB (vBin oLtX [] (vBin oIx [] (vN 2) (vC (.int 0))) (vC (.int 0)))) (vTv trB (vBin oNe [] (vCall (run__law_common) io__law_common [.ex (vN 1) []]) (vC (.int 1)))))) (vSeq (vRet (vC (.bl false)))
  vSkip) vSkip)
  (vSeq (vFor (.nm 3) (vRg1 [.ex (vOp (one bLen) [.ex (vBin oIx [] (vN 0) (vC (.int 0))) []]) []]) (vSeq (vIf (vTv trB (vBin oNe [] (vOp (one bSum) [.ex (vLc [5] (.nm 5) (vRg1 [.ex (vOp (one bLen) [.ex (vN 0) []]) []]) vYes (vBin oMul [] (vBin oIx [] (vN 1) (vN 5)) (vBin oIx [] (vBin oIx [] (vN 0) (vN 5)) (vN 3)))) [5]]) (vC (.int 0)))) (vSeq (vRet (vC (.bl false)))
  vSkip) vSkip)
  vSkip))
  (vSeq (vRet (vC (.bl true)))
  vSkip))))))
def run__law_depends : VF := runOf 6 io__law_depends m__law_depends
/-! def _law_clean(numbers): 0 numbers, 1 first, 2 g, 3 n -/
def io__law_clean : List Nat := [0]
def m__law_clean : VS :=
  (vSeq (vSet 1 (vBin oIx [] (vLc [3] (.nm 3) (vItE (vN 0)) (vTv trB (vBin oNe [] (vN 3) (vC (.int 0)))) (vN 3)) (vC (.int 0))))
  (vSeq (vSet 2 (vCall (run__law_common) io__law_common [.ex (vN 0) []]))
  (vJoin (vIf (vTv trB (vBin oLtX [] (vN 1) (vC (.int 0)))) (vSeq (vSet 2 (vBin oSub [] (vC (.int 0)) (vN 2)))
  vSkip) vSkip)
  (vSeq (vRet (vLc [3] (.nm 3) (vItE (vN 0)) vYes (vBin oDivX [] (vN 3) (vN 2))))
  vSkip))))
def run__law_clean : VF := runOf 4 io__law_clean m__law_clean
/-! def _law_eliminated(columns): 0 columns, 1 base, 2 found, 3 j, 4 v, 5 made, 6 row, 7 places, 8 f, 9 g, 10 top, 11 k, 12 n -/
def io__law_eliminated : List Nat := [0]
def m__law_eliminated : VS :=
  (vSeq (vSet 1 (vOp oLst []))
  (vSeq (vSet 2 (vOp oLst []))
  (vSeq (vFor (.nm 3) (vRg1 [.ex (vOp (one bLen) [.ex (vN 0) []]) []]) (vSeq (vSet 4 (vCl (vOp (one bList) [.ex (vBin oIx [] (vN 0) (vN 3)) []])))
  (vSeq (vSet 5 (vLc [11] (.nm 11) (vRg1 [.ex (vOp (one bLen) [.ex (vN 0) []]) []]) vYes (vOp (one bInt) [.ex (vBin oEq [] (vN 11) (vN 3)) []])))
  (vSeq (vForO (.nm 6) 1 (vSeq (vSet 8 (vBin oIx [] (vN 4) (vBin oIx [] (vN 6) (vC (.int 1)))))
  (vSeq (vIf (vTv trB (vBin oNe [] (vN 8) (vC (.int 0)))) (vSeq (vSet 10 (vBin oIx [] (vBin oIx [] (vN 6) (vC (.int 0))) (vBin oIx [] (vN 6) (vC (.int 1)))))
  (vSeq (vSet 4 (vLc [11] (.nm 11) (vRg1 [.ex (vOp (one bLen) [.ex (vN 4) []]) []]) vYes (vBin oSub [] (vBin oMul [] (vBin oIx [] (vN 4) (vN 11)) (vN 10)) (vBin oMul [] (vBin oIx [] (vBin oIx [] (vN 6) (vC (.int 0))) (vN 11)) (vN 8)))))
  (vSeq (vSet 5 (vLc [11] (.nm 11) (vRg1 [.ex (vOp (one bLen) [.ex (vN 5) []]) []]) vYes (vBin oSub [] (vBin oMul [] (vBin oIx [] (vN 5) (vN 11)) (vN 10)) (vBin oMul [] (vBin oIx [] (vBin oIx [] (vN 6) (vC (.int 2))) (vN 11)) (vN 8)))))
  vSkip))) vSkip)
  vSkip)))
  (vSeq (vSet 7 (vLc [11] (.nm 11) (vRg1 [.ex (vOp (one bLen) [.ex (vN 4) []]) []]) (vTv trB (vBin oNe [] (vBin oIx [] (vN 4) (vN 11)) (vC (.int 0)))) (vN 11)))
  (vSeq (vIf (vTv tru (vN 7)) (vSeq (vSet 9 (vCall (run__law_common) io__law_common [.ex (vBin oAdd [] (vN 4) (vN 5)) []]))
  (vSeq (vMut 1 mApp [.ex (vOp oTup [.ex (vLc [12] (.nm 12) (vItE (vN 4)) vYes (vBin oDiv [] (vN 12) (vN 9))) [12], .ex (vBin oIx [] (vN 7) (vC (.int 0))) [], .ex (vLc [12] (.nm 12) (vItE (vN 5)) vYes (vBin oDiv [] (vN 12) (vN 9))) [12]]) [12, 12]])
  vSkip)) (vSeq (vMut 2 mApp [.ex (vCall (run__law_clean) io__law_clean [.ex (vN 5) []]) []])
  vSkip))
  vSkip))))))
  (vSeq (vRet (vOp oTup [.ex (vOp (one bLen) [.ex (vN 1) []]) [], .ex (vN 2) []]))
  vSkip))))
def run__law_eliminated : VF := runOf 13 io__law_eliminated m__law_eliminated
/-! def _law_try(door, columns, numbers): 0 door, 1 columns, 2 numbers, 3 e -/
def io__law_try : List Nat := [0, 0, 0]
def m__law_try : VS :=
  (vSeq (vTry 3 [("BadCounts", true)] (vSeq (vIf (vTv trB (vBin oEq [] (vN 0) (vC (.int 0)))) (vSeq (vRet (vTup2 [.ex (vC (.str "got")) [], .ex (vCall (run_dependence) io_dependence [.ex (vN 1) []]) []]))
  vSkip) vSkip)
  (vSeq (vIf (vTv trB (vBin oEq [] (vN 0) (vC (.int 1)))) (vSeq (vRet (vOp oTup [.ex (vC (.str "got")) [], .ex (vCall (run_is_dependence) io_is_dependence [.ex (vN 1) [], .ex (vN 2) []]) []]))
  vSkip) vSkip)
  (vSeq (vRet (vOp oTup [.ex (vC (.str "got")) [], .ex (vCall (run_rank) io_rank [.ex (vN 1) []]) []]))
  vSkip))) (fun a0 x0 => (vSeq (vIf (vTv tru (vCall (run__law_bad_counts a0 x0) io__law_bad_counts [.ex (vN 3) []])) (vSeq (vRet (vOp oTup [.ex (vC (.str "refused")) []]))
  vSkip) vSkip)
  (vSeq (vRet (vOp oTup [.ex (vC (.str "error")) []]))
  vSkip))))
  vSkip)
def run__law_try : VF := runOf 4 io__law_try m__law_try
/-! def _law_lists_of(store, columns, right): 0 store, 1 columns, 2 right, 3 many, 4 rows, 5 one, 6 z, 7 more, 8 both, 9 at, 10 to, 11 k, 12 n -/
def io__law_lists_of : List Nat := [2, 0, 0]
def m__law_lists_of : VS :=
  (vSeq (vSet 3 (vOp (one bLen) [.ex (vN 1) []]))
  (vSeq (vSet 4 (vOp oLst [.ex (vLc [11] (.nm 11) (vRg1 [.ex (vN 3) []]) vYes (vC (.int 0))) [11], .ex (vLc [11] (.nm 11) (vRg1 [.ex (vN 3) []]) vYes (vC (.int 1))) [11], .ex (vOp oLst []) [], .ex (vOp oLst [.ex (vC (.int 1)) []]) []]))
  (vJoin (vIf (vTv tru (vN 2)) (vSeq (vSet 5 (vCall (run__law_pick) io__law_pick [.io 0, .ex (vN 2) []]))
  (vSeq (vSet 6 (vBin oIx [0] (vOp oLst [.ex (vC (.int 2)) [], .ex (vUn oNeg (vC (.int 1))) [], .ex (vC (.int 3)) [], .ex (vC (.int 1)) []]) (vCall (run__law_take) io__law_take [.io 0, .ex (vC (.int 4)) []])))
  (vSeq (vSet 7 (vCall (run__law_pick) io__law_pick [.io 0, .ex (vN 2) []]))
  (vSeq (vSet 8 (vLc [11] (.nm 11) (vRg1 [.ex (vN 3) []]) vYes (vBin oAdd [] (vBin oIx [] (vN 5) (vN 11)) (vBin oMul [] (vN 6) (vBin oIx [] (vN 7) (vN 11))))))
  (vJoin (vIf (vTv trB (vBin oGt [] (vCall (run__law_common) io__law_common [.ex (vN 8) []]) (vC (.int 0)))) (vSeq (vMut 4 mApp [.ex (vCall (run__law_clean) io__law_clean [.ex (vN 8) []]) []])
  (vSeq (vSet 5 (vBin oIx [0] (vOp oLst [.ex (vN 5) [], .ex (vBin oIx [] (vN 4) (vUn oNeg (vC (.int 1)))) []]) (vCall (run__law_take) io__law_take [.io 0, .ex (vC (.int 2)) []])))
  vSkip)) vSkip)
  (vSeq (vSet 9 (vCall (run__law_take) io__law_take [.io 0, .ex (vN 3) []]))
  (vSeq (vSet 10 (vCall (run__law_take) io__law_take [.io 0, .ex (vN 3) []]))
  (vSeq (vSet 4 (vBin oAdd [] (vN 4) (vOp oLst [.ex (vN 5) [], .ex (vCall (run__law_put) io__law_put [.ex (vN 5) [], .ex (vN 9) [], .ex (vBin oAdd [] (vBin oIx [] (vN 5) (vN 9)) (vC (.int 1))) []]) [], .ex (vCall (run__law_put) io__law_put [.ex (vN 5) [], .ex (vN 9) [], .ex (vBin oSub [] (vBin oIx [] (vN 5) (vN 9)) (vC (.int 1))) []]) [], .ex (vCall (run__law_put) io__law_put [.ex (vN 5) [], .ex (vN 9) [], .ex (vC (.int 0)) []]) []])))
  (vSeq (vSet 4 (vBin oAdd [12, 12, 12] (vN 4) (vOp oLst [.ex (vLc [12] (.nm 12) (vItE (vN 5)) vYes (vBin oMul [] (vN 12) (vC (.int 2)))) [12], .ex (vLc [12] (.nm 12) (vItE (vN 5)) vYes (vBin oMul [] (vN 12) (vBin oPow [] (vC (.int 10)) (vC (.int 30))))) [12], .ex (vLc [12] (.nm 12) (vItE (vN 5)) vYes (vBin oSub [] (vC (.int 0)) (vN 12))) [12], .ex (vBin oAdd [] (vN 5) (vOp oLst [.ex (vC (.int 0)) []])) [], .ex (vCl (vOp oSlH [.ex (vN 5) [], .ex (vUn oNeg (vC (.int 1))) []])) []])))
  (vSeq (vMut 4 mApp [.ex (vCall (run__law_put) io__law_put [.ex (vCall (run__law_put) io__law_put [.ex (vN 5) [], .ex (vN 9) [], .ex (vBin oIx [] (vN 5) (vN 10)) []]) [], .ex (vN 10) [], .ex (vBin oIx [] (vN 5) (vN 9)) []]) []])
  (vSeq (vMut 4 mApp [.ex (vBin oAdd [] (vCl (vOp oSlL [.ex (vN 5) [], .ex (vC (.int 1)) []])) (vCl (vOp oSlH [.ex (vN 5) [], .ex (vC (.int 1)) []]))) []])
  vSkip))))))))))) vSkip)
  (vSeq (vRetV 4)
  vSkip))))
def run__law_lists_of : VF := runOf 13 io__law_lists_of m__law_lists_of
/-! def _law_columns_right(store, columns): 0 store, 1 columns, 2 told, 3 right, 4 passed, 5 answer, 6 numbers, 7 spoilt, 8 kept, 9 again, 10 due, 11 row -/
def io__law_columns_right : List Nat := [2, 0]
def m__law_columns_right : VS :=
  (vSeq (vSet 2 (vCall (run__law_eliminated) io__law_eliminated [.ex (vN 1) []]))
  (vSeq (vSet 3 (vCl (vOp (one bList) [.ex (vBin oIx [] (vN 2) (vC (.int 1))) []])))
  (vSeq (vSet 4 (vCl (vOp (one bList) [.ex (vN 1) []])))
  (vSeq (vIf (vNotT (vTv tru (vCall (run__law_same 4) io__law_same [.ex (vCall (run__law_try) io__law_try [.ex (vC (.int 2)) [], .ex (vN 4) [], .ex (vOp oLst []) []]) [], .ex (vOp oTup [.ex (vC (.str "got")) [], .ex (vBin oIx [] (vN 2) (vC (.int 0))) []]) []]))) (vSeq (vRet (vC (.bl false)))
  vSkip) vSkip)
  (vSeq (vSet 5 (vCall (run__law_try) io__law_try [.ex (vC (.int 0)) [], .ex (vN 4) [], .ex (vOp oLst []) []]))
  (vJoin (vIf (vOrT (vNotT (vTv tru (vN 1))) (vTv trB (vBin oLe [] (vOp (one bLen) [.ex (vN 1) []]) (vOp (one bLen) [.ex (vBin oIx [] (vN 1) (vC (.int 0))) []])))) (vSeq (vIf (vTv trB (vBin oNe [] (vN 5) (vOp oTup [.ex (vC (.str "refused")) []]))) (vSeq (vRet (vC (.bl false)))
  vSkip) vSkip)
  vSkip) (vSeq (vIf (vOrT (vTv trB (vBin oNe [] (vBin oIx [] (vN 5) (vC (.int 0))) (vC (.str "got")))) (vNotT (vTv tru (vCall (run__law_depends) io__law_depends [.ex (vN 1) [], .ex (vBin oIx [] (vN 5) (vC (.int 1))) []])))) (vSeq (vRet (vC (.bl false)))
  vSkip) vSkip)
  (vSeq (vSet 7 (vIx2 1 (vMv 5)))
  (vSeq (vSet 8 (vCl (vOp (one bList) [.ex (vN 7) []])))
  (vSeq (vSet 3 (vBin oAdd [] (vOp oLst [.ex (vN 8) []]) (vN 3)))
  (vSeq (vMut 7 mApp [.ex (vC .non) []])
  (vSeq (vSet 9 (vCall (run__law_try) io__law_try [.ex (vC (.int 0)) [], .ex (vN 4) [], .ex (vOp oLst []) []]))
  (vSeq (vIf (vNotT (vTv tru (vCall (run__law_same 4) io__law_same [.ex (vN 9) [], .ex (vOp oTup [.ex (vC (.str "got")) [], .ex (vN 8) []]) []]))) (vSeq (vRet (vC (.bl false)))
  vSkip) vSkip)
  vSkip))))))))
  (vSeq (vFor (.nm 6) (vItE (vBin oAdd [] (vCall (run__law_lists_of) io__law_lists_of [.io 0, .ex (vN 1) [], .ex (vBin oIx [] (vN 2) (vC (.int 1))) []]) (vCl (vOp oSlH [.ex (vN 3) [], .ex (vC (.int 6)) []])))) (vSeq (vSet 10 (vAndV (vBin oGt [] (vOp (one bLen) [.ex (vN 1) []]) (vC (.int 0))) (vCall (run__law_depends) io__law_depends [.ex (vN 1) [], .ex (vN 6) []])))
  (vSeq (vSet 11 (vCl (vOp (one bList) [.ex (vN 6) []])))
  (vSeq (vIf (vOrT (vNotT (vTv tru (vCall (run__law_same 4) io__law_same [.ex (vCall (run__law_try) io__law_try [.ex (vC (.int 1)) [], .ex (vN 4) [], .ex (vN 11) []]) [], .ex (vOp oTup [.ex (vC (.str "got")) [], .ex (vN 10) []]) []]))) (vNotT (vTv tru (vCall (run__law_same 4) io__law_same [.ex (vN 11) [], .ex (vN 6) []])))) (vSeq (vRet (vC (.bl false)))
  vSkip) vSkip)
  vSkip))))
  (vSeq (vRet (vCall (run__law_same 4) io__law_same [.ex (vN 4) [], .ex (vN 1) []]))
  vSkip))))))))
def run__law_columns_right : VF := runOf 12 io__law_columns_right m__law_columns_right
/-! def _law_unlike_right(store, columns): 0 store, 1 columns, 2 at, 3 bent, 4 numbers, 5 k -/
def io__law_unlike_right : List Nat := [2, 0]
def m__law_unlike_right : VS :=
  (vSeq (vSet 2 (vCall (run__law_take) io__law_take [.io 0, .ex (vOp (one bLen) [.ex (vN 1) []]) []]))
  (vSeq (vSet 3 (vCall (run__law_put) io__law_put [.ex (vN 1) [], .ex (vN 2) [], .ex (vBin oAdd [] (vCl (vOp oSlL [.ex (vBin oIx [] (vN 1) (vN 2)) [], .ex (vC (.int 1)) []])) (vBin oMul [] (vOp oTup [.ex (vC (.int 0)) []]) (vBin oMul [] (vC (.int 2)) (vOp (one bInt) [.ex (vBin oLtX [] (vOp (one bLen) [.ex (vBin oIx [] (vN 1) (vN 2)) []]) (vC (.int 2))) []])))) []]))
  (vSeq (vIf (vOrT (vTv trB (vBin oNe [] (vCall (run__law_try) io__law_try [.ex (vC (.int 0)) [], .ex (vCl (vOp (one bList) [.ex (vN 3) []])) [], .ex (vOp oLst []) []]) (vOp oTup [.ex (vC (.str "refused")) []]))) (vTv trB (vBin oNe [] (vCall (run__law_try) io__law_try [.ex (vC (.int 2)) [], .ex (vCl (vOp (one bList) [.ex (vN 3) []])) [], .ex (vOp oLst []) []]) (vOp oTup [.ex (vC (.str "refused")) []])))) (vSeq (vRet (vC (.bl false)))
  vSkip) vSkip)
  (vSeq (vSet 4 (vLc [5] (.nm 5) (vRg1 [.ex (vOp (one bLen) [.ex (vN 1) []]) []]) vYes (vOp (one bInt) [.ex (vBin oEq [] (vN 5) (vN 2)) []])))
  (vSeq (vRet (vCall (run__law_same 4) io__law_same [.ex (vCall (run__law_try) io__law_try [.ex (vC (.int 1)) [], .ex (vCl (vOp (one bList) [.ex (vN 3) []])) [], .ex (vN 4) []]) [], .ex (vOp oTup [.ex (vC (.str "got")) [], .ex (vC (.bl false)) []]) []]))
  vSkip)))))
def run__law_unlike_right : VF := runOf 6 io__law_unlike_right m__law_unlike_right
/-! def law(script): 0 script, 1 store, 2 lists, 3 side, 4 many, 5 columns, 6 column -/
def io_law : List Nat := [0]
def m_law : VS :=
  (vSeq (vSet 1 (vCall (run__law_store) io__law_store [.ex (vN 0) []]))
  (vSeq (vSet 2 (vOp oLst []))
  (vSeq (vFor (.nm 3) (vRg1 [.ex (vC (.int 2)) []]) (vSeq (vSet 4 (vCall (run__law_take) io__law_take [.io 1, .ex (vC (.int 8)) []]))
  (vJoin (vIf (vTv trB (vBin oEq [] (vCall (run__law_take) io__law_take [.io 1, .ex (vC (.int 12)) []]) (vC (.int 1)))) (vSeq (vSet 4 (vCall (run__law_span) io__law_span [.io 1, .ex (vC (.int 8)) [], .ex (vC (.int 45)) []]))
  vSkip) vSkip)
  (vSeq (vSet 5 (vCall (run__law_columns) io__law_columns [.io 1, .ex (vN 4) [], .ex (vBin oAdd [1] (vC (.int 1)) (vCall (run__law_take) io__law_take [.io 1, .ex (vC (.int 4)) []])) [1]]))
  (vJoin (vIf (vTv trB (vBin oEq [] (vCall (run__law_take) io__law_take [.io 1, .ex (vC (.int 4)) []]) (vC (.int 1)))) (vSeq (vSet 5 (vLc [6] (.nm 6) (vItE (vN 5)) vYes (vCall (run__law_multiple) io__law_multiple [.ex (vN 6) [], .ex (vC (.int 9)) []])))
  vSkip) vSkip)
  (vSeq (vMut 2 mApp [.ex (vN 5) []])
  vSkip))))))
  (vSeq (vFor (.nm 3) (vItE (vOp oLst [.ex (vC (.int 0)) [], .ex (vC (.int 1)) [], .ex (vC (.int 0)) []])) (vSeq (vIf (vNotT (vTv tru (vCall (run__law_columns_right) io__law_columns_right [.io 1, .ex (vBin oIx [] (vN 2) (vN 3)) []]))) (vSeq (vRet (vC (.bl false)))
  vSkip) vSkip)
  (vSeq (vIf (vAndT (vTv trB (vBin oGt [] (vOp (one bLen) [.ex (vBin oIx [] (vN 2) (vN 3)) []]) (vC (.int 1)))) (vNotT (vTv tru (vCall (run__law_unlike_right) io__law_unlike_right [.io 1, .ex (vBin oIx [] (vN 2) (vN 3)) []])))) (vSeq (vRet (vC (.bl false)))
  vSkip) vSkip)
  vSkip)))
  (vSeq (vRet (vC (.bl true)))
  vSkip)))))
def run_law : VF := runOf 7 io_law m_law
end Lk

namespace Lk
open PySem PySem.Spec L2 Kv
open PyProof.Rows hiding St
def top (i : Nat) : Stmt := PySem.Challenge.pw_nevertipped_k24_dependences_of_columns.main.body.getD i (.Pass ⟨0, 0, 0, 0⟩)
abbrev FnP (K : PySem.W.Frag) (x : Str) (st : Stmt) (f : Addr) (fd : FuncData) : Prop := FunD K x x (defArgs st) (defBody st) (defScope st) [] [] f fd
abbrev s_common_divisor : Stmt := top 19
abbrev s_divisor_of_two : Stmt := top 20
abbrev s_one_length : Stmt := top 22
abbrev s_first_place : Stmt := top 23
abbrev s_primitive : Stmt := top 24
abbrev s_cancelled : Stmt := top 25
abbrev s_swept : Stmt := top 26
abbrev s_dependence : Stmt := top 27
abbrev s_is_dependence : Stmt := top 28
abbrev s_rank : Stmt := top 29
abbrev s__law_mix : Stmt := top 31
abbrev s__law_store : Stmt := top 32
abbrev s__law_take : Stmt := top 33
abbrev s__law_span : Stmt := top 34
abbrev s__law_pick : Stmt := top 35
abbrev s__law_put : Stmt := top 36
abbrev s__law_whole : Stmt := top 37
abbrev s__law_same : Stmt := top 38
abbrev s__law_nil : Stmt := top 39
abbrev s__law_multiple : Stmt := top 40
abbrev s__law_far : Stmt := top 41
abbrev s__law_columns : Stmt := top 42
abbrev s__law_bad_counts : Stmt := top 43
abbrev s__law_common : Stmt := top 44
abbrev s__law_depends : Stmt := top 45
abbrev s__law_clean : Stmt := top 46
abbrev s__law_eliminated : Stmt := top 47
abbrev s__law_try : Stmt := top 48
abbrev s__law_lists_of : Stmt := top 49
abbrev s__law_columns_right : Stmt := top 50
abbrev s__law_unlike_right : Stmt := top 51
abbrev s_law : Stmt := top 52
structure Cs (K : PySem.W.Frag) (mg : Str → Option Value) where
  f_common_divisor : Addr
  d_common_divisor : FuncData
  F_common_divisor : FnP K "common_divisor" s_common_divisor f_common_divisor d_common_divisor
  g_common_divisor : mg "common_divisor" = some (.ref f_common_divisor)
  f_divisor_of_two : Addr
  d_divisor_of_two : FuncData
  F_divisor_of_two : FnP K "divisor_of_two" s_divisor_of_two f_divisor_of_two d_divisor_of_two
  g_divisor_of_two : mg "divisor_of_two" = some (.ref f_divisor_of_two)
  f_one_length : Addr
  d_one_length : FuncData
  F_one_length : FnP K "one_length" s_one_length f_one_length d_one_length
  g_one_length : mg "one_length" = some (.ref f_one_length)
  f_first_place : Addr
  d_first_place : FuncData
  F_first_place : FnP K "first_place" s_first_place f_first_place d_first_place
  g_first_place : mg "first_place" = some (.ref f_first_place)
  f_primitive : Addr
  d_primitive : FuncData
  F_primitive : FnP K "primitive" s_primitive f_primitive d_primitive
  g_primitive : mg "primitive" = some (.ref f_primitive)
  f_cancelled : Addr
  d_cancelled : FuncData
  F_cancelled : FnP K "cancelled" s_cancelled f_cancelled d_cancelled
  g_cancelled : mg "cancelled" = some (.ref f_cancelled)
  f_swept : Addr
  d_swept : FuncData
  F_swept : FnP K "swept" s_swept f_swept d_swept
  g_swept : mg "swept" = some (.ref f_swept)
  f_dependence : Addr
  d_dependence : FuncData
  F_dependence : FnP K "dependence" s_dependence f_dependence d_dependence
  g_dependence : mg "dependence" = some (.ref f_dependence)
  f_is_dependence : Addr
  d_is_dependence : FuncData
  F_is_dependence : FnP K "is_dependence" s_is_dependence f_is_dependence d_is_dependence
  g_is_dependence : mg "is_dependence" = some (.ref f_is_dependence)
  f_rank : Addr
  d_rank : FuncData
  F_rank : FnP K "rank" s_rank f_rank d_rank
  g_rank : mg "rank" = some (.ref f_rank)
  f__law_mix : Addr
  d__law_mix : FuncData
  F__law_mix : FnP K "_law_mix" s__law_mix f__law_mix d__law_mix
  g__law_mix : mg "_law_mix" = some (.ref f__law_mix)
  f__law_store : Addr
  d__law_store : FuncData
  F__law_store : FnP K "_law_store" s__law_store f__law_store d__law_store
  g__law_store : mg "_law_store" = some (.ref f__law_store)
  f__law_take : Addr
  d__law_take : FuncData
  F__law_take : FnP K "_law_take" s__law_take f__law_take d__law_take
  g__law_take : mg "_law_take" = some (.ref f__law_take)
  f__law_span : Addr
  d__law_span : FuncData
  F__law_span : FnP K "_law_span" s__law_span f__law_span d__law_span
  g__law_span : mg "_law_span" = some (.ref f__law_span)
  f__law_pick : Addr
  d__law_pick : FuncData
  F__law_pick : FnP K "_law_pick" s__law_pick f__law_pick d__law_pick
  g__law_pick : mg "_law_pick" = some (.ref f__law_pick)
  f__law_put : Addr
  d__law_put : FuncData
  F__law_put : FnP K "_law_put" s__law_put f__law_put d__law_put
  g__law_put : mg "_law_put" = some (.ref f__law_put)
  f__law_whole : Addr
  d__law_whole : FuncData
  F__law_whole : FnP K "_law_whole" s__law_whole f__law_whole d__law_whole
  g__law_whole : mg "_law_whole" = some (.ref f__law_whole)
  f__law_same : Addr
  d__law_same : FuncData
  F__law_same : FnP K "_law_same" s__law_same f__law_same d__law_same
  g__law_same : mg "_law_same" = some (.ref f__law_same)
  f__law_nil : Addr
  d__law_nil : FuncData
  F__law_nil : FnP K "_law_nil" s__law_nil f__law_nil d__law_nil
  g__law_nil : mg "_law_nil" = some (.ref f__law_nil)
  f__law_multiple : Addr
  d__law_multiple : FuncData
  F__law_multiple : FnP K "_law_multiple" s__law_multiple f__law_multiple d__law_multiple
  g__law_multiple : mg "_law_multiple" = some (.ref f__law_multiple)
  f__law_far : Addr
  d__law_far : FuncData
  F__law_far : FnP K "_law_far" s__law_far f__law_far d__law_far
  g__law_far : mg "_law_far" = some (.ref f__law_far)
  f__law_columns : Addr
  d__law_columns : FuncData
  F__law_columns : FnP K "_law_columns" s__law_columns f__law_columns d__law_columns
  g__law_columns : mg "_law_columns" = some (.ref f__law_columns)
  f__law_bad_counts : Addr
  d__law_bad_counts : FuncData
  F__law_bad_counts : FnP K "_law_bad_counts" s__law_bad_counts f__law_bad_counts d__law_bad_counts
  g__law_bad_counts : mg "_law_bad_counts" = some (.ref f__law_bad_counts)
  f__law_common : Addr
  d__law_common : FuncData
  F__law_common : FnP K "_law_common" s__law_common f__law_common d__law_common
  g__law_common : mg "_law_common" = some (.ref f__law_common)
  f__law_depends : Addr
  d__law_depends : FuncData
  F__law_depends : FnP K "_law_depends" s__law_depends f__law_depends d__law_depends
  g__law_depends : mg "_law_depends" = some (.ref f__law_depends)
  f__law_clean : Addr
  d__law_clean : FuncData
  F__law_clean : FnP K "_law_clean" s__law_clean f__law_clean d__law_clean
  g__law_clean : mg "_law_clean" = some (.ref f__law_clean)
  f__law_eliminated : Addr
  d__law_eliminated : FuncData
  F__law_eliminated : FnP K "_law_eliminated" s__law_eliminated f__law_eliminated d__law_eliminated
  g__law_eliminated : mg "_law_eliminated" = some (.ref f__law_eliminated)
  f__law_try : Addr
  d__law_try : FuncData
  F__law_try : FnP K "_law_try" s__law_try f__law_try d__law_try
  g__law_try : mg "_law_try" = some (.ref f__law_try)
  f__law_lists_of : Addr
  d__law_lists_of : FuncData
  F__law_lists_of : FnP K "_law_lists_of" s__law_lists_of f__law_lists_of d__law_lists_of
  g__law_lists_of : mg "_law_lists_of" = some (.ref f__law_lists_of)
  f__law_columns_right : Addr
  d__law_columns_right : FuncData
  F__law_columns_right : FnP K "_law_columns_right" s__law_columns_right f__law_columns_right d__law_columns_right
  g__law_columns_right : mg "_law_columns_right" = some (.ref f__law_columns_right)
  f__law_unlike_right : Addr
  d__law_unlike_right : FuncData
  F__law_unlike_right : FnP K "_law_unlike_right" s__law_unlike_right f__law_unlike_right d__law_unlike_right
  g__law_unlike_right : mg "_law_unlike_right" = some (.ref f__law_unlike_right)
  f_law : Addr
  d_law : FuncData
  F_law : FnP K "law" s_law f_law d_law
  g_law : mg "law" = some (.ref f_law)
  gx_BadCounts : mg "BadCounts" = some (.ref (He.ga K "BadCounts"))
  gx_BadEnds : mg "BadEnds" = some (.ref (He.ga K "BadEnds"))
  gx_BadLine : mg "BadLine" = some (.ref (He.ga K "BadLine"))
  gx_BadName : mg "BadName" = some (.ref (He.ga K "BadName"))
  gx_BadPaper : mg "BadPaper" = some (.ref (He.ga K "BadPaper"))
  gx_BadRig : mg "BadRig" = some (.ref (He.ga K "BadRig"))
  gx_BadStep : mg "BadStep" = some (.ref (He.ga K "BadStep"))
  gx_BadWindow : mg "BadWindow" = some (.ref (He.ga K "BadWindow"))
  gx_DayClosed : mg "DayClosed" = some (.ref (He.ga K "DayClosed"))
  gx_NotAllEnds : mg "NotAllEnds" = some (.ref (He.ga K "NotAllEnds"))
  gx_NotAnEnd : mg "NotAnEnd" = some (.ref (He.ga K "NotAnEnd"))
  gx_NotLaid : mg "NotLaid" = some (.ref (He.ga K "NotLaid"))
  gx_NotPlain : mg "NotPlain" = some (.ref (He.ga K "NotPlain"))
  gx_NothingToUndo : mg "NothingToUndo" = some (.ref (He.ga K "NothingToUndo"))
  gx_OffLedger : mg "OffLedger" = some (.ref (He.ga K "OffLedger"))
  gx_QuayError : mg "QuayError" = some (.ref (He.ga K "QuayError"))
  gx_TooLong : mg "TooLong" = some (.ref (He.ga K "TooLong"))
  xx_BadCounts : ExcF K "BadCounts"
  ht_QuayError : ∀ p ∈ ([("BadCounts", true)] : List (Str × Bool)), PySem.W.exmOne K (.ref (He.ga K p.1)) (.ref (He.ga K "QuayError")) = some p.2
  ec : ∀ c ∈ (["BadCounts"] : List Str), ExcC K (He.ga K c)
  kk_BadCounts : ∀ c ∈ (["BadCounts"] : List Str), PySem.W.kitOne K (.ref (He.ga K c)) (.ref (He.ga K "BadCounts")) = some (isaB c "BadCounts")
  kk_BadEnds : ∀ c ∈ (["BadCounts"] : List Str), PySem.W.kitOne K (.ref (He.ga K c)) (.ref (He.ga K "BadEnds")) = some (isaB c "BadEnds")
  kk_BadLine : ∀ c ∈ (["BadCounts"] : List Str), PySem.W.kitOne K (.ref (He.ga K c)) (.ref (He.ga K "BadLine")) = some (isaB c "BadLine")
  kk_BadName : ∀ c ∈ (["BadCounts"] : List Str), PySem.W.kitOne K (.ref (He.ga K c)) (.ref (He.ga K "BadName")) = some (isaB c "BadName")
  kk_BadPaper : ∀ c ∈ (["BadCounts"] : List Str), PySem.W.kitOne K (.ref (He.ga K c)) (.ref (He.ga K "BadPaper")) = some (isaB c "BadPaper")
  kk_BadRig : ∀ c ∈ (["BadCounts"] : List Str), PySem.W.kitOne K (.ref (He.ga K c)) (.ref (He.ga K "BadRig")) = some (isaB c "BadRig")
  kk_BadStep : ∀ c ∈ (["BadCounts"] : List Str), PySem.W.kitOne K (.ref (He.ga K c)) (.ref (He.ga K "BadStep")) = some (isaB c "BadStep")
  kk_BadWindow : ∀ c ∈ (["BadCounts"] : List Str), PySem.W.kitOne K (.ref (He.ga K c)) (.ref (He.ga K "BadWindow")) = some (isaB c "BadWindow")
  kk_DayClosed : ∀ c ∈ (["BadCounts"] : List Str), PySem.W.kitOne K (.ref (He.ga K c)) (.ref (He.ga K "DayClosed")) = some (isaB c "DayClosed")
  kk_NotAllEnds : ∀ c ∈ (["BadCounts"] : List Str), PySem.W.kitOne K (.ref (He.ga K c)) (.ref (He.ga K "NotAllEnds")) = some (isaB c "NotAllEnds")
  kk_NotAnEnd : ∀ c ∈ (["BadCounts"] : List Str), PySem.W.kitOne K (.ref (He.ga K c)) (.ref (He.ga K "NotAnEnd")) = some (isaB c "NotAnEnd")
  kk_NotLaid : ∀ c ∈ (["BadCounts"] : List Str), PySem.W.kitOne K (.ref (He.ga K c)) (.ref (He.ga K "NotLaid")) = some (isaB c "NotLaid")
  kk_NotPlain : ∀ c ∈ (["BadCounts"] : List Str), PySem.W.kitOne K (.ref (He.ga K c)) (.ref (He.ga K "NotPlain")) = some (isaB c "NotPlain")
  kk_NothingToUndo : ∀ c ∈ (["BadCounts"] : List Str), PySem.W.kitOne K (.ref (He.ga K c)) (.ref (He.ga K "NothingToUndo")) = some (isaB c "NothingToUndo")
  kk_OffLedger : ∀ c ∈ (["BadCounts"] : List Str), PySem.W.kitOne K (.ref (He.ga K c)) (.ref (He.ga K "OffLedger")) = some (isaB c "OffLedger")
  kk_TooLong : ∀ c ∈ (["BadCounts"] : List Str), PySem.W.kitOne K (.ref (He.ga K c)) (.ref (He.ga K "TooLong")) = some (isaB c "TooLong")
  kk_ValueError : ∀ c ∈ (["BadCounts"] : List Str), PySem.W.kitOne K (.ref (He.ga K c)) (.type "ValueError") = some (isaB c "ValueError")
  n_ValueError : mg "ValueError" = none
  n_abs : mg "abs" = none
  n_all : mg "all" = none
  n_any : mg "any" = none
  n_bool : mg "bool" = none
  n_enumerate : mg "enumerate" = none
  n_int : mg "int" = none
  n_isinstance : mg "isinstance" = none
  n_len : mg "len" = none
  n_list : mg "list" = none
  n_max : mg "max" = none
  n_min : mg "min" = none
  n_range : mg "range" = none
  n_str : mg "str" = none
  n_sum : mg "sum" = none
  n_tuple : mg "tuple" = none
  n_zip : mg "zip" = none
section
variable {P : Program} {w : World} {K : PySem.W.Frag} {mg : Str → Option Value} {base : Heap}
theorem sc_divisor_of_two : FnScope ["a", "b"] ["a", "b"] (defScope s_divisor_of_two) := ⟨rfl, rfl, rfl, by decide +kernel, rfl, by decide +kernel, by decide +kernel⟩
theorem b_divisor_of_two (C : Cs K mg) : Binds K C.d_divisor_of_two ["a", "b"] [] := C.F_divisor_of_two.bindsN fun _ _ _ _ _ _ us hl => match us, hl with | [_, _], _ => rfl
theorem ok_divisor_of_two (C : Cs K mg) : FnOk P w K mg base (L2N.CX P w) 1 C.f_divisor_of_two C.d_divisor_of_two ["a", "b"] (spOf K io_divisor_of_two run_divisor_of_two) := by
  refine def_ok (N := ["a", "b"]) (U := [0, 1]) (m := m_divisor_of_two) C.F_divisor_of_two sc_divisor_of_two rfl (ioU rfl) fun cdv A outer s H E hr => ?_
  exact (ss_c (ss_while (passes_of rfl) (ET.as ([] ++ []) (et_gt (ee_name (j := 1) rfl (.inl rfl)) ee_int)) (ss_c (SS.as [0, 1] (ss_par (i := 0) (j := 1) rfl sc_divisor_of_two.nd rfl rfl (by decide) rfl rfl (ea_ex (ee_name (j := 1) rfl (.inl rfl)) (ea_ex (EE.as ([] ++ []) (ee_mod (ee_name (j := 0) rfl (.inl rfl)) (ee_name (j := 1) rfl (.inl rfl)))) ea_nil)) rfl rfl))
      ss_n))
      (ss_c (ss_retV (j := 0) rfl (.inl rfl))
      ss_n))
theorem sc_common_divisor : FnScope ["numbers", "found", "number"] ["numbers"] (defScope s_common_divisor) := ⟨rfl, rfl, rfl, by decide +kernel, rfl, by decide +kernel, by decide +kernel⟩
theorem b_common_divisor (C : Cs K mg) : Binds K C.d_common_divisor ["numbers"] [] := C.F_common_divisor.bindsN fun _ _ _ _ _ _ us hl => match us, hl with | [_], _ => rfl
theorem ok_common_divisor (C : Cs K mg) : FnOk P w K mg base (L2N.CX P w) 2 C.f_common_divisor C.d_common_divisor ["numbers"] (spOf K io_common_divisor run_common_divisor) := by
  refine def_ok (N := ["numbers", "found", "number"]) (U := [0, 1, 2]) (m := m_common_divisor) C.F_common_divisor sc_common_divisor rfl (ioU rfl) fun cdv A outer s H E hr => ?_
  exact (ss_c (SS.as [1] (ss_set (i := 1) sc_common_divisor.nd rfl (.inl rfl) ee_int))
      (ss_c (ss_f (passes_of rfl) rfl (ei_seq (ee_name (j := 0) rfl (.inl rfl))) (pg_name (i := 2) sc_common_divisor.nd rfl (.inl rfl)) (ss_c (SS.as [1] (ss_set (i := 1) sc_common_divisor.nd rfl (.inl rfl) (EE.as _ (ee_call (io := io_divisor_of_two) ((ok_divisor_of_two C).mono (by decide)) hr rfl C.g_divisor_of_two C.F_divisor_of_two.kp (b_divisor_of_two C) (L2N.passAt (L2N.takes_of rfl rfl rfl rfl)) (ea_ex (ee_name (j := 1) rfl (.inl rfl)) (ea_ex (EE.as _ (ee_abs rfl C.n_abs (ea_ex (ee_name (j := 2) rfl (.inl rfl)) ea_nil))) ea_nil))))))
      ss_n) (by decide))
      (ss_c (ss_retV (j := 1) rfl (.inl rfl))
      ss_n)))
theorem sc_one_length : FnScope ["columns", "column"] ["columns"] (defScope s_one_length) := ⟨rfl, rfl, rfl, by decide +kernel, rfl, by decide +kernel, by decide +kernel⟩
theorem b_one_length (C : Cs K mg) : Binds K C.d_one_length ["columns"] [] := C.F_one_length.bindsN fun _ _ _ _ _ _ us hl => match us, hl with | [_], _ => rfl
theorem ok_one_length (C : Cs K mg) : FnOk P w K mg base (L2N.CX P w) 1 C.f_one_length C.d_one_length ["columns"] (spOf K io_one_length run_one_length) := by
  refine def_ok (N := ["columns", "column"]) (U := [0, 1]) (m := m_one_length) C.F_one_length sc_one_length rfl (ioU rfl) fun cdv A outer s H E hr => ?_
  have hu := Room.units hr
  exact (ss_c (ss_ret (EE.as _ (ee_all rfl rfl C.n_all (ea_ex (EE.as ([] ++ ([] ++ List.map (·.2) [("column", 1)])) (ee_lc (own := [("column", 1)]) (Mb := []) rfl sc_one_length.nd (ei_seq (ee_name (j := 0) rfl (.inr (.inl rfl)))) (BlkOk.of (by kernel_rfl)) (by decide) (fun _ _ _ _ _ => (pg_name (i := 1) sc_one_length.nd rfl (.inl rfl))) (fun _ _ _ _ _ => ets_nil) (fun _ _ _ _ _ => EE.mono (EE.as ([] ++ []) (ee_eq hu (EE.as _ (ee_len rfl C.n_len (ea_ex (ee_name (j := 1) rfl (.inl rfl)) ea_nil))) (EE.as _ (ee_len rfl C.n_len (ea_ex (EE.as ([] ++ []) (ee_idx (ee_name (j := 0) rfl (.inr (.inl rfl))) ee_int)) ea_nil))))) (by decide)))) ea_nil))))
      ss_n)
theorem sc_first_place : FnScope ["numbers", "i", "number"] ["numbers"] (defScope s_first_place) := ⟨rfl, rfl, rfl, by decide +kernel, rfl, by decide +kernel, by decide +kernel⟩
theorem b_first_place (C : Cs K mg) : Binds K C.d_first_place ["numbers"] [] := C.F_first_place.bindsN fun _ _ _ _ _ _ us hl => match us, hl with | [_], _ => rfl
theorem ok_first_place (C : Cs K mg) : FnOk P w K mg base (L2N.CX P w) 1 C.f_first_place C.d_first_place ["numbers"] (spOf K io_first_place run_first_place) := by
  refine def_ok (N := ["numbers", "i", "number"]) (U := [0, 1, 2]) (m := m_first_place) C.F_first_place sc_first_place rfl (ioU rfl) fun cdv A outer s H E hr => ?_
  have hu := Room.units hr
  exact (ss_c (ss_f (passes_of rfl) rfl (EI.as _ (ei_enum rfl C.n_enumerate (ea_ex (ee_name (j := 0) rfl (.inl rfl)) ea_nil))) (pg_tup rfl (pgs_cons (pg_name (i := 1) sc_first_place.nd rfl (.inl rfl)) (pgs_cons (pg_name (i := 2) sc_first_place.nd rfl (.inl rfl)) pgs_nil))) (ss_c (ss_i (ET.as ([] ++ []) (et_ne hu (ee_name (j := 2) rfl (.inl rfl)) ee_int)) (ss_c (ss_retV (j := 1) rfl (.inl rfl))
      ss_n) ss_n)
      ss_n) (by decide))
      (ss_c (ss_ret (EE.as [] (ee_neg ee_int)))
      ss_n))
theorem sc_primitive : FnScope ["numbers", "common", "number"] ["numbers"] (defScope s_primitive) := ⟨rfl, rfl, rfl, by decide +kernel, rfl, by decide +kernel, by decide +kernel⟩
theorem b_primitive (C : Cs K mg) : Binds K C.d_primitive ["numbers"] [] := C.F_primitive.bindsN fun _ _ _ _ _ _ us hl => match us, hl with | [_], _ => rfl
theorem ok_primitive (C : Cs K mg) : FnOk P w K mg base (L2N.CX P w) 3 C.f_primitive C.d_primitive ["numbers"] (spOf K io_primitive run_primitive) := by
  refine def_ok (N := ["numbers", "common", "number"]) (U := [0, 1, 2]) (m := m_primitive) C.F_primitive sc_primitive rfl (ioU rfl) fun cdv A outer s H E hr => ?_
  have hu := Room.units hr
  exact (ss_c (SS.as [1] (ss_set (i := 1) sc_primitive.nd rfl (.inr rfl) (EE.as _ (ee_call (io := io_common_divisor) ((ok_common_divisor C).mono (by decide)) hr rfl C.g_common_divisor C.F_common_divisor.kp (b_common_divisor C) (L2N.passAt (L2N.takes_of rfl rfl rfl rfl)) (ea_ex (ee_name (j := 0) rfl (.inl rfl)) ea_nil)))))
      (ss_c (ss_i (ET.as ([] ++ []) (et_ltX hu (EE.as ([] ++ []) (ee_idx (ee_name (j := 0) rfl (.inl rfl)) (EE.as _ (ee_call (io := io_first_place) ((ok_first_place C).mono (by decide)) hr rfl C.g_first_place C.F_first_place.kp (b_first_place C) (L2N.passAt (L2N.takes_of rfl rfl rfl rfl)) (ea_ex (ee_name (j := 0) rfl (.inl rfl)) ea_nil))))) ee_int)) (ss_c (SS.as [1] (ss_set (i := 1) sc_primitive.nd rfl (.inr rfl) (EE.as [] (ee_neg (ee_name (j := 1) rfl (.inr (.inl rfl)))))))
      ss_n) ss_n)
      (ss_c (ss_ret (EE.as ([] ++ ([] ++ List.map (·.2) [("number", 2)])) (ee_lc (own := [("number", 2)]) (Mb := []) rfl sc_primitive.nd (ei_seq (ee_name (j := 0) rfl (.inl rfl))) (BlkOk.of (by kernel_rfl)) (by decide) (fun _ _ _ _ _ => (pg_name (i := 2) sc_primitive.nd rfl (.inl rfl))) (fun _ _ _ _ _ => ets_nil) (fun _ _ _ _ _ => EE.mono (EE.as ([] ++ []) (ee_divX (ee_name (j := 2) rfl (.inl rfl)) (ee_name (j := 1) rfl (.inr (.inl rfl))))) (by decide)))))
      ss_n)))
theorem sc_cancelled : FnScope ["vector", "mix", "basis", "place", "row", "row_mix", "by", "off", "x", "y"] ["vector", "mix", "basis"] (defScope s_cancelled) := ⟨rfl, rfl, rfl, by decide +kernel, rfl, by decide +kernel, by decide +kernel⟩
theorem b_cancelled (C : Cs K mg) : Binds K C.d_cancelled ["vector", "mix", "basis"] [] := C.F_cancelled.bindsN fun _ _ _ _ _ _ us hl => match us, hl with | [_, _, _], _ => rfl
theorem ok_cancelled (C : Cs K mg) : FnOk P w K mg base (L2N.CX P w) 1 C.f_cancelled C.d_cancelled ["vector", "mix", "basis"] (spOf K io_cancelled run_cancelled) := by
  refine def_ok (N := ["vector", "mix", "basis", "place", "row", "row_mix", "by", "off", "x", "y"]) (U := [0, 1, 3, 4, 5, 6, 7, 8, 9]) (m := m_cancelled) C.F_cancelled sc_cancelled rfl (ioU rfl) fun cdv A outer s H E hr => ?_
  have hu := Room.units hr
  exact (ss_c (SS.as [0, 1, 3, 4, 5, 6, 7, 8, 9] (ss_forO (j := 2) (U := [0, 1, 3, 4, 5, 6, 7, 8, 9]) (passes_of rfl) rfl rfl (.inl rfl) (pg_tup rfl (pgs_cons (pg_name (i := 3) sc_cancelled.nd rfl (.inl rfl)) (pgs_cons (pg_name (i := 4) sc_cancelled.nd rfl (.inl rfl)) (pgs_cons (pg_name (i := 5) sc_cancelled.nd rfl (.inl rfl)) pgs_nil)))) (ss_c (SS.as [6, 7] (ss_asg (EE.as _ (ee_tup (ea_ex (EE.as ([] ++ []) (ee_idx (ee_name (j := 4) rfl (.inl rfl)) (ee_name (j := 3) rfl (.inl rfl)))) (ea_ex (EE.as ([] ++ []) (ee_idx (ee_name (j := 0) rfl (.inl rfl)) (ee_name (j := 3) rfl (.inl rfl)))) ea_nil)))) (pg_tup rfl (pgs_cons (pg_name (i := 6) sc_cancelled.nd rfl (.inr rfl)) (pgs_cons (pg_name (i := 7) sc_cancelled.nd rfl (.inr rfl)) pgs_nil)))))
      (ss_c (ss_i (ET.as ([] ++ []) (et_ne hu (ee_name (j := 7) rfl (.inr (.inl rfl))) ee_int)) (ss_c (SS.as [0] (ss_setLc (U := []) (own := [("x", 8), ("y", 9)]) (Mb := []) rfl sc_cancelled.nd rfl rfl rfl (EI.as _ (ei_zip rfl C.n_zip (ea_ex (ee_name (j := 0) rfl (.inl rfl)) (ea_ex (ee_name (j := 4) rfl (.inl rfl)) ea_nil)))) (BlkOk.of (by kernel_rfl)) (by decide) (fun _ _ _ _ _ => (pg_tup rfl (pgs_cons (pg_name (i := 8) sc_cancelled.nd rfl (.inl rfl)) (pgs_cons (pg_name (i := 9) sc_cancelled.nd rfl (.inl rfl)) pgs_nil)))) (fun _ _ _ _ _ => ets_nil) (fun _ _ _ _ _ => EE.mono (EE.as ([] ++ []) (ee_sub (EE.as ([] ++ []) (ee_mul (ee_name (j := 6) rfl (.inr (.inl rfl))) (ee_name (j := 8) rfl (.inl rfl)))) (EE.as ([] ++ []) (ee_mul (ee_name (j := 7) rfl (.inr (.inl rfl))) (ee_name (j := 9) rfl (.inl rfl)))))) (by decide))))
      (ss_c (SS.as [1] (ss_setLc (U := []) (own := [("x", 8), ("y", 9)]) (Mb := []) rfl sc_cancelled.nd rfl rfl rfl (EI.as _ (ei_zip rfl C.n_zip (ea_ex (ee_name (j := 1) rfl (.inl rfl)) (ea_ex (ee_name (j := 5) rfl (.inl rfl)) ea_nil)))) (BlkOk.of (by kernel_rfl)) (by decide) (fun _ _ _ _ _ => (pg_tup rfl (pgs_cons (pg_name (i := 8) sc_cancelled.nd rfl (.inl rfl)) (pgs_cons (pg_name (i := 9) sc_cancelled.nd rfl (.inl rfl)) pgs_nil)))) (fun _ _ _ _ _ => ets_nil) (fun _ _ _ _ _ => EE.mono (EE.as ([] ++ []) (ee_sub (EE.as ([] ++ []) (ee_mul (ee_name (j := 6) rfl (.inr (.inl rfl))) (ee_name (j := 8) rfl (.inl rfl)))) (EE.as ([] ++ []) (ee_mul (ee_name (j := 7) rfl (.inr (.inl rfl))) (ee_name (j := 9) rfl (.inl rfl)))))) (by decide))))
      ss_n)) ss_n)
      ss_n)) (by decide) (by decide)))
      (ss_c (ss_ret (EE.as _ (ee_tup (ea_ex (ee_name (j := 0) rfl (.inl rfl)) (ea_ex (ee_name (j := 1) rfl (.inl rfl)) ea_nil)))))
      ss_n))
theorem sc_swept : FnScope ["columns", "basis", "found", "i", "column", "unit", "vector", "mix", "place", "j"] ["columns"] (defScope s_swept) := ⟨rfl, rfl, rfl, by decide +kernel, rfl, by decide +kernel, by decide +kernel⟩
theorem b_swept (C : Cs K mg) : Binds K C.d_swept ["columns"] [] := C.F_swept.bindsN fun _ _ _ _ _ _ us hl => match us, hl with | [_], _ => rfl
theorem ok_swept (C : Cs K mg) : FnOk P w K mg base (L2N.CX P w) 4 C.f_swept C.d_swept ["columns"] (spOf K io_swept run_swept) := by
  refine def_ok (N := ["columns", "basis", "found", "i", "column", "unit", "vector", "mix", "place", "j"]) (U := [0, 1, 2, 3, 4, 5, 6, 7, 8, 9]) (m := m_swept) C.F_swept sc_swept rfl (ioU rfl) fun cdv A outer s H E hr => ?_
  have hu := Room.units hr
  exact (ss_c (SS.as [1] (ss_set (i := 1) sc_swept.nd rfl (.inl rfl) (EE.as _ (ee_lst ea_nil))))
      (ss_c (SS.as [2] (ss_set (i := 2) sc_swept.nd rfl (.inl rfl) ee_non))
      (ss_c (ss_f (passes_of rfl) rfl (EI.as _ (ei_enum rfl C.n_enumerate (ea_ex (ee_name (j := 0) rfl (.inl rfl)) ea_nil))) (pg_tup rfl (pgs_cons (pg_name (i := 3) sc_swept.nd rfl (.inr rfl)) (pgs_cons (pg_name (i := 4) sc_swept.nd rfl (.inl rfl)) pgs_nil))) (ss_c (SS.as [5] (ss_setLc (U := []) (own := [("j", 9)]) (Mb := []) rfl sc_swept.nd rfl rfl rfl (EI.as _ (ei_rg1 rfl C.n_range (ea_ex (EE.as _ (ee_len rfl C.n_len (ea_ex (ee_name (j := 0) rfl (.inl rfl)) ea_nil))) ea_nil))) (BlkOk.of (by kernel_rfl)) (by decide) (fun _ _ _ _ _ => (pg_name (i := 9) sc_swept.nd rfl (.inl rfl))) (fun _ _ _ _ _ => ets_nil) (fun _ _ _ _ _ => EE.mono (EE.as ([] ++ []) (ee_if (ET.as ([] ++ []) (et_eq hu (ee_name (j := 9) rfl (.inl rfl)) (ee_name (j := 3) rfl (.inr (.inl rfl))))) (EE.mono ee_int (by decide)) (EE.mono ee_int (by decide)))) (by decide))))
      (ss_c (SS.as [6, 7] (ss_asg (EE.as _ (ee_call (io := io_cancelled) ((ok_cancelled C).mono (by decide)) hr rfl C.g_cancelled C.F_cancelled.kp (b_cancelled C) (L2N.passAt (L2N.takes_of rfl rfl rfl rfl)) (ea_ex (ee_cl (EE.as _ (ee_list rfl C.n_list (ea_ex (ee_name (j := 4) rfl (.inl rfl)) ea_nil)))) (ea_ex (ee_mv (j := 5) rfl (.inl rfl)) (ea_io (j := 1) rfl (.inl rfl) ea_nil))))) (pg_tup rfl (pgs_cons (pg_name (i := 6) sc_swept.nd rfl (.inl rfl)) (pgs_cons (pg_name (i := 7) sc_swept.nd rfl (.inl rfl)) pgs_nil)))))
      (ss_c (SS.as [8] (ss_set (i := 8) sc_swept.nd rfl (.inl rfl) (EE.as _ (ee_call (io := io_first_place) ((ok_first_place C).mono (by decide)) hr rfl C.g_first_place C.F_first_place.kp (b_first_place C) (L2N.passAt (L2N.takes_of rfl rfl rfl rfl)) (ea_ex (ee_name (j := 6) rfl (.inl rfl)) ea_nil)))))
      (ss_c (ss_i (ET.as ([] ++ []) (et_ge (ee_name (j := 8) rfl (.inl rfl)) ee_int)) (ss_c (ss_app (j := 1) rfl (.inl rfl) (ea_ex (EE.as _ (ee_tup (ea_ex (ee_name (j := 8) rfl (.inl rfl)) (ea_ex (ee_name (j := 6) rfl (.inl rfl)) (ea_ex (ee_name (j := 7) rfl (.inl rfl)) ea_nil))))) ea_nil))
      ss_n) (ss_c (ss_i (ET.as [] (et_isN (ee_name (j := 2) rfl (.inl rfl)))) (ss_c (SS.as [2] (ss_set (i := 2) sc_swept.nd rfl (.inl rfl) (EE.as _ (ee_call (io := io_primitive) ((ok_primitive C).mono (by decide)) hr rfl C.g_primitive C.F_primitive.kp (b_primitive C) (L2N.passAt (L2N.takes_of rfl rfl rfl rfl)) (ea_ex (ee_name (j := 7) rfl (.inl rfl)) ea_nil)))))
      ss_n) ss_n)
      ss_n))
      ss_n)))) (by decide))
      (ss_c (ss_ret (EE.as _ (ee_tup2 (ea_ex (EE.as _ (ee_len rfl C.n_len (ea_ex (ee_name (j := 1) rfl (.inl rfl)) ea_nil))) (ea_ex (ee_mv (j := 2) rfl (.inl rfl)) ea_nil)))))
      ss_n))))
theorem sc_dependence : FnScope ["columns", "found"] ["columns"] (defScope s_dependence) := ⟨rfl, rfl, rfl, by decide +kernel, rfl, by decide +kernel, by decide +kernel⟩
theorem b_dependence (C : Cs K mg) : Binds K C.d_dependence ["columns"] [] := C.F_dependence.bindsN fun _ _ _ _ _ _ us hl => match us, hl with | [_], _ => rfl
theorem ok_dependence (C : Cs K mg) : FnOk P w K mg base (L2N.CX P w) 5 C.f_dependence C.d_dependence ["columns"] (spOf K io_dependence run_dependence) := by
  refine def_ok (N := ["columns", "found"]) (U := [0, 1]) (m := m_dependence) C.F_dependence sc_dependence rfl (ioU rfl) fun cdv A outer s H E hr => ?_
  have hu := Room.units hr
  exact (ss_c (ss_i (ew_pt (EW.as ([] ++ []) (ew_or (ET.as ([] ++ []) (et_eq hu (EE.as _ (ee_len rfl C.n_len (ea_ex (ee_name (j := 0) rfl (.inl rfl)) ea_nil))) ee_int)) (EW.as ([] ++ []) (ew_or (ET.as [] (et_not (et_tru (fun _ => rfl) (EE.as _ (ee_call (io := io_one_length) ((ok_one_length C).mono (by decide)) hr rfl C.g_one_length C.F_one_length.kp (b_one_length C) (L2N.passAt (L2N.takes_of rfl rfl rfl rfl)) (ea_ex (ee_name (j := 0) rfl (.inl rfl)) ea_nil)))))) (ew_or1 (ET.as ([] ++ []) (et_le (EE.as _ (ee_len rfl C.n_len (ea_ex (ee_name (j := 0) rfl (.inl rfl)) ea_nil))) (EE.as _ (ee_len rfl C.n_len (ea_ex (EE.as ([] ++ []) (ee_idx (ee_name (j := 0) rfl (.inl rfl)) ee_int)) ea_nil))))))))))) (ss_c (ss_raise0 rfl (L2N.takes_of rfl rfl rfl rfl) C.xx_BadCounts C.gx_BadCounts rfl)
      ss_n) ss_n)
      (ss_c (SS.as [1] (ss_set (i := 1) sc_dependence.nd rfl (.inl rfl) (EE.as [] (ee_ix2 (k := 1) rfl (EE.as _ (ee_call (io := io_swept) ((ok_swept C).mono (by decide)) hr rfl C.g_swept C.F_swept.kp (b_swept C) (L2N.passAt (L2N.takes_of rfl rfl rfl rfl)) (ea_ex (ee_name (j := 0) rfl (.inl rfl)) ea_nil)))))))
      (ss_c (ss_retV (j := 1) rfl (.inl rfl))
      ss_n)))
theorem sc_is_dependence : FnScope ["columns", "numbers", "place", "i", "number", "column"] ["columns", "numbers"] (defScope s_is_dependence) := ⟨rfl, rfl, rfl, by decide +kernel, rfl, by decide +kernel, by decide +kernel⟩
theorem b_is_dependence (C : Cs K mg) : Binds K C.d_is_dependence ["columns", "numbers"] [] := C.F_is_dependence.bindsN fun _ _ _ _ _ _ us hl => match us, hl with | [_, _], _ => rfl
theorem ok_is_dependence (C : Cs K mg) : FnOk P w K mg base (L2N.CX P w) 3 C.f_is_dependence C.d_is_dependence ["columns", "numbers"] (spOf K io_is_dependence run_is_dependence) := by
  refine def_ok (N := ["columns", "numbers", "place", "i", "number", "column"]) (U := [0, 1, 2, 3, 4, 5]) (m := m_is_dependence) C.F_is_dependence sc_is_dependence rfl (ioU rfl) fun cdv A outer s H E hr => ?_
  have hu := Room.units hr
  exact (ss_c (ss_i (ew_pt (EW.as ([] ++ []) (ew_or (ET.as ([] ++ []) (et_ne hu (EE.as _ (ee_len rfl C.n_len (ea_ex (ee_name (j := 1) rfl (.inl rfl)) ea_nil))) (EE.as _ (ee_len rfl C.n_len (ea_ex (ee_name (j := 0) rfl (.inl rfl)) ea_nil))))) (ew_or1 (ET.as [] (et_not (et_tru (fun _ => rfl) (EE.as _ (ee_call (io := io_one_length) ((ok_one_length C).mono (by decide)) hr rfl C.g_one_length C.F_one_length.kp (b_one_length C) (L2N.passAt (L2N.takes_of rfl rfl rfl rfl)) (ea_ex (ee_name (j := 0) rfl (.inl rfl)) ea_nil)))))))))) (ss_c (ss_ret ee_bl)
      ss_n) ss_n)
      (ss_c (SS.as [2] (ss_set (i := 2) sc_is_dependence.nd rfl (.inl rfl) (EE.as _ (ee_call (io := io_first_place) ((ok_first_place C).mono (by decide)) hr rfl C.g_first_place C.F_first_place.kp (b_first_place C) (L2N.passAt (L2N.takes_of rfl rfl rfl rfl)) (ea_ex (ee_name (j := 1) rfl (.inl rfl)) ea_nil)))))
      (ss_c (ss_i (ew_pt (EW.as ([] ++ []) (ew_or (ET.as ([] ++ []) (et_ltX hu (ee_name (j := 2) rfl (.inl rfl)) ee_int)) (EW.as ([] ++ []) (ew_or (ET.as ([] ++ []) (et_ltX hu (EE.as ([] ++ []) (ee_idx (ee_name (j := 1) rfl (.inl rfl)) (ee_name (j := 2) rfl (.inl rfl)))) ee_int)) (ew_or1 (ET.as ([] ++ []) (et_ne hu (EE.as _ (ee_call (io := io_common_divisor) ((ok_common_divisor C).mono (by decide)) hr rfl C.g_common_divisor C.F_common_divisor.kp (b_common_divisor C) (L2N.passAt (L2N.takes_of rfl rfl rfl rfl)) (ea_ex (ee_name (j := 1) rfl (.inl rfl)) ea_nil))) ee_int)))))))) (ss_c (ss_ret ee_bl)
      ss_n) ss_n)
      (ss_c (ss_f (passes_of rfl) rfl (EI.as _ (ei_rg1 rfl C.n_range (ea_ex (EE.as _ (ee_len rfl C.n_len (ea_ex (EE.as ([] ++ []) (ee_idx (ee_name (j := 0) rfl (.inl rfl)) ee_int)) ea_nil))) ea_nil))) (pg_name (i := 3) sc_is_dependence.nd rfl (.inr rfl)) (ss_c (ss_i (ET.as ([4, 5] ++ []) (et_ne hu (EE.as _ (ee_sum rfl rfl C.n_sum (ea_ex (EE.as ([] ++ ([] ++ List.map (·.2) [("number", 4), ("column", 5)])) (ee_lc (own := [("number", 4), ("column", 5)]) (Mb := []) rfl sc_is_dependence.nd (EI.as _ (ei_zip rfl C.n_zip (ea_ex (ee_name (j := 1) rfl (.inl rfl)) (ea_ex (ee_name (j := 0) rfl (.inl rfl)) ea_nil)))) (BlkOk.of (by kernel_rfl)) (by decide) (fun _ _ _ _ _ => (pg_tup rfl (pgs_cons (pg_name (i := 4) sc_is_dependence.nd rfl (.inl rfl)) (pgs_cons (pg_name (i := 5) sc_is_dependence.nd rfl (.inl rfl)) pgs_nil)))) (fun _ _ _ _ _ => ets_nil) (fun _ _ _ _ _ => EE.mono (EE.as ([] ++ []) (ee_mul (ee_name (j := 4) rfl (.inl rfl)) (EE.as ([] ++ []) (ee_idx (ee_name (j := 5) rfl (.inl rfl)) (ee_name (j := 3) rfl (.inr (.inl rfl))))))) (by decide)))) ea_nil))) ee_int)) (ss_c (ss_ret ee_bl)
      ss_n) ss_n)
      ss_n) (by decide))
      (ss_c (ss_ret ee_bl)
      ss_n)))))
theorem sc_rank : FnScope ["columns"] ["columns"] (defScope s_rank) := ⟨rfl, rfl, rfl, by decide +kernel, rfl, by decide +kernel, by decide +kernel⟩
theorem b_rank (C : Cs K mg) : Binds K C.d_rank ["columns"] [] := C.F_rank.bindsN fun _ _ _ _ _ _ us hl => match us, hl with | [_], _ => rfl
theorem ok_rank (C : Cs K mg) : FnOk P w K mg base (L2N.CX P w) 5 C.f_rank C.d_rank ["columns"] (spOf K io_rank run_rank) := by
  refine def_ok (N := ["columns"]) (U := [0]) (m := m_rank) C.F_rank sc_rank rfl (ioU rfl) fun cdv A outer s H E hr => ?_
  exact (ss_c (ss_i (ET.as [] (et_not (et_tru (fun _ => rfl) (EE.as _ (ee_call (io := io_one_length) ((ok_one_length C).mono (by decide)) hr rfl C.g_one_length C.F_one_length.kp (b_one_length C) (L2N.passAt (L2N.takes_of rfl rfl rfl rfl)) (ea_ex (ee_name (j := 0) rfl (.inl rfl)) ea_nil)))))) (ss_c (ss_raise0 rfl (L2N.takes_of rfl rfl rfl rfl) C.xx_BadCounts C.gx_BadCounts rfl)
      ss_n) ss_n)
      (ss_c (ss_ret (EE.as ([] ++ []) (ee_idx (EE.as _ (ee_call (io := io_swept) ((ok_swept C).mono (by decide)) hr rfl C.g_swept C.F_swept.kp (b_swept C) (L2N.passAt (L2N.takes_of rfl rfl rfl rfl)) (ea_ex (ee_name (j := 0) rfl (.inl rfl)) ea_nil))) ee_int)))
      ss_n))
theorem sc__law_mix : FnScope ["a", "b", "x", "y", "z"] ["a", "b"] (defScope s__law_mix) := ⟨rfl, rfl, rfl, by decide +kernel, rfl, by decide +kernel, by decide +kernel⟩
theorem b__law_mix (C : Cs K mg) : Binds K C.d__law_mix ["a", "b"] [] := C.F__law_mix.bindsN fun _ _ _ _ _ _ us hl => match us, hl with | [_, _], _ => rfl
theorem ok__law_mix (C : Cs K mg) : FnOk P w K mg base (L2N.CX P w) 1 C.f__law_mix C.d__law_mix ["a", "b"] (spOf K io__law_mix run__law_mix) := by
  refine def_ok (N := ["a", "b", "x", "y", "z"]) (U := [0, 1, 2, 3, 4]) (m := m__law_mix) C.F__law_mix sc__law_mix rfl (ioU rfl) fun cdv A outer s H E hr => ?_
  exact (ss_c (SS.as [2] (ss_set (i := 2) sc__law_mix.nd rfl (.inl rfl) (EE.as ([] ++ []) (ee_mod (EE.as ([] ++ []) (ee_add (EE.as ([] ++ []) (ee_add (EE.as ([] ++ []) (ee_mul (EE.as ([] ++ []) (ee_mod (EE.as _ (ee_int1 rfl C.n_int (ea_ex (ee_name (j := 0) rfl (.inl rfl)) ea_nil))) ee_int)) ee_int)) (EE.as ([] ++ []) (ee_mul (EE.as ([] ++ []) (ee_mod (EE.as _ (ee_int1 rfl C.n_int (ea_ex (ee_name (j := 1) rfl (.inl rfl)) ea_nil))) ee_int)) ee_int)))) ee_int)) ee_int))))
      (ss_c (SS.as [3] (ss_set (i := 3) sc__law_mix.nd rfl (.inl rfl) (EE.as ([] ++ []) (ee_mod (EE.as ([] ++ []) (ee_add (EE.as ([] ++ []) (ee_add (EE.as ([] ++ []) (ee_mul (ee_name (j := 2) rfl (.inl rfl)) (ee_name (j := 2) rfl (.inl rfl)))) (EE.as ([] ++ []) (ee_div (ee_name (j := 2) rfl (.inl rfl)) ee_int)))) ee_int)) ee_int))))
      (ss_c (SS.as [4] (ss_set (i := 4) sc__law_mix.nd rfl (.inl rfl) (EE.as ([] ++ []) (ee_mod (EE.as ([] ++ []) (ee_add (EE.as ([] ++ []) (ee_add (EE.as ([] ++ []) (ee_div (ee_name (j := 3) rfl (.inl rfl)) ee_int)) (EE.as ([] ++ []) (ee_mul (EE.as ([] ++ []) (ee_mod (ee_name (j := 3) rfl (.inl rfl)) ee_int)) ee_int)))) (EE.as ([] ++ []) (ee_mul (EE.as ([] ++ []) (ee_mod (EE.as ([] ++ []) (ee_div (ee_name (j := 2) rfl (.inl rfl)) ee_int)) ee_int)) ee_int)))) ee_int))))
      (ss_c (ss_ret (EE.as ([] ++ []) (ee_mod (EE.as ([] ++ []) (ee_add (EE.as ([] ++ []) (ee_add (EE.as ([] ++ []) (ee_mul (ee_name (j := 4) rfl (.inl rfl)) (ee_name (j := 4) rfl (.inl rfl)))) (EE.as ([] ++ []) (ee_mul ee_int (ee_name (j := 3) rfl (.inl rfl)))))) (ee_name (j := 2) rfl (.inl rfl)))) ee_int)))
      ss_n))))
theorem sc__law_store : FnScope ["script", "cell"] ["script"] (defScope s__law_store) := ⟨rfl, rfl, rfl, by decide +kernel, rfl, by decide +kernel, by decide +kernel⟩
theorem b__law_store (C : Cs K mg) : Binds K C.d__law_store ["script"] [] := C.F__law_store.bindsN fun _ _ _ _ _ _ us hl => match us, hl with | [_], _ => rfl
theorem ok__law_store (C : Cs K mg) : FnOk P w K mg base (L2N.CX P w) 1 C.f__law_store C.d__law_store ["script"] (spOf K io__law_store run__law_store) := by
  refine def_ok (N := ["script", "cell"]) (U := [0, 1]) (m := m__law_store) C.F__law_store sc__law_store rfl (ioU rfl) fun cdv A outer s H E hr => ?_
  exact (ss_c (ss_ret (EE.as _ (ee_lst2 (ea_ex (EE.as ([] ++ ([] ++ List.map (·.2) [("cell", 1)])) (ee_lc (own := [("cell", 1)]) (Mb := []) rfl sc__law_store.nd (ei_seq (ee_name (j := 0) rfl (.inl rfl))) (BlkOk.of (by kernel_rfl)) (by decide) (fun _ _ _ _ _ => (pg_name (i := 1) sc__law_store.nd rfl (.inl rfl))) (fun _ _ _ _ _ => ets_nil) (fun _ _ _ _ _ => EE.mono (EE.as _ (ee_int1 rfl C.n_int (ea_ex (ee_name (j := 1) rfl (.inl rfl)) ea_nil))) (by decide)))) (ea_ex ee_int (ea_ex ee_int (ea_ex ee_int (ea_ex ee_int ea_nil))))))))
      ss_n)
theorem sc__law_take : FnScope ["store", "many", "cell", "great"] ["store", "many"] (defScope s__law_take) := ⟨rfl, rfl, rfl, by decide +kernel, rfl, by decide +kernel, by decide +kernel⟩
theorem b__law_take (C : Cs K mg) : Binds K C.d__law_take ["store", "many"] [] := C.F__law_take.bindsN fun _ _ _ _ _ _ us hl => match us, hl with | [_, _], _ => rfl
theorem ok__law_take (C : Cs K mg) : FnOk P w K mg base (L2N.CX P w) 2 C.f__law_take C.d__law_take ["store", "many"] (spOf K io__law_take run__law_take) := by
  refine def_ok (N := ["store", "many", "cell", "great"]) (U := [1, 2, 3]) (m := m__law_take) C.F__law_take sc__law_take rfl (ioU rfl) fun cdv A outer s H E hr => ?_
  have hu := Room.units hr
  exact (ss_c (ss_i (ET.as ([] ++ []) (et_ltX hu (ee_name (j := 1) rfl (.inl rfl)) ee_int)) (ss_c (ss_ret ee_int)
      ss_n) ss_n)
      (ss_c (ss_setX (j := 0) (EE.as ([] ++ []) (ee_add (EE.as ([] ++ []) (ee_idx (ee_name (j := 0) rfl (.inl rfl)) ee_int)) ee_int)) rfl (.inl rfl) ee_int)
      (ss_c (ss_i (ew_pt (EW.as ([] ++ []) (ew_and (ET.as ([] ++ []) (et_eq hu (EE.as ([] ++ []) (ee_idx (ee_name (j := 0) rfl (.inl rfl)) ee_int)) ee_int)) (ew_and1 (ET.as ([] ++ []) (et_ltX hu (EE.as ([] ++ []) (ee_idx (ee_name (j := 0) rfl (.inl rfl)) ee_int)) (EE.as _ (ee_len rfl C.n_len (ea_ex (EE.as ([] ++ []) (ee_idx (ee_name (j := 0) rfl (.inl rfl)) ee_int)) ea_nil))))))))) (ss_c (SS.as [2] (ss_set (i := 2) sc__law_take.nd rfl (.inl rfl) (EE.as _ (ee_int1 rfl C.n_int (ea_ex (EE.as ([] ++ []) (ee_idx (EE.as ([] ++ []) (ee_idx (ee_name (j := 0) rfl (.inl rfl)) ee_int)) (EE.as ([] ++ []) (ee_idx (ee_name (j := 0) rfl (.inl rfl)) ee_int)))) ea_nil)))))
      (ss_c (ss_setX (j := 0) (EE.as ([] ++ []) (ee_add (EE.as ([] ++ []) (ee_idx (ee_name (j := 0) rfl (.inl rfl)) ee_int)) ee_int)) rfl (.inl rfl) ee_int)
      (ss_c (ss_setX (j := 0) (EE.as _ (ee_call (io := io__law_mix) ((ok__law_mix C).mono (by decide)) hr rfl C.g__law_mix C.F__law_mix.kp (b__law_mix C) (L2N.passAt (L2N.takes_of rfl rfl rfl rfl)) (ea_ex (EE.as ([] ++ []) (ee_add (EE.as ([] ++ []) (ee_idx (ee_name (j := 0) rfl (.inl rfl)) ee_int)) (EE.as ([] ++ []) (ee_mod (ee_name (j := 2) rfl (.inl rfl)) ee_int)))) (ea_ex (EE.as ([] ++ []) (ee_idx (ee_name (j := 0) rfl (.inl rfl)) ee_int)) ea_nil)))) rfl (.inl rfl) ee_int)
      (ss_c (ss_i (ET.as ([] ++ []) (et_ge (EE.as _ (ee_abs rfl C.n_abs (ea_ex (ee_name (j := 2) rfl (.inl rfl)) ea_nil))) (EE.as ([] ++ []) (ee_pow ee_int ee_int)))) (ss_c (ss_setX (j := 0) (EE.as ([] ++ []) (ee_mod (EE.as _ (ee_abs rfl C.n_abs (ea_ex (ee_name (j := 2) rfl (.inl rfl)) ea_nil))) (EE.as ([] ++ []) (ee_mul (EE.as ([] ++ []) (ee_mul (EE.as ([] ++ []) (ee_mul (EE.as ([] ++ []) (ee_mul (EE.as ([] ++ []) (ee_mul (EE.as ([] ++ []) (ee_pow ee_int ee_int)) (EE.as ([] ++ []) (ee_pow ee_int ee_int)))) (EE.as ([] ++ []) (ee_pow ee_int ee_int)))) (EE.as ([] ++ []) (ee_pow ee_int ee_int)))) (EE.as ([] ++ []) (ee_pow ee_int ee_int)))) (EE.as ([] ++ []) (ee_pow ee_int ee_int)))))) rfl (.inl rfl) ee_int)
      ss_n) ss_n)
      ss_n)))) ss_n)
      (ss_c (ss_i (ET.as ([] ++ []) (et_gt (EE.as ([] ++ []) (ee_idx (ee_name (j := 0) rfl (.inl rfl)) ee_int)) ee_int)) (ss_c (SS.as [3] (ss_set (i := 3) sc__law_take.nd rfl (.inl rfl) (EE.as _ (ee_int1 rfl C.n_int (ea_ex (EE.as ([] ++ []) (ee_idx (ee_name (j := 0) rfl (.inl rfl)) ee_int)) ea_nil)))))
      (ss_c (ss_setX (j := 0) (EE.as ([] ++ []) (ee_div (ee_name (j := 3) rfl (.inl rfl)) (ee_name (j := 1) rfl (.inl rfl)))) rfl (.inl rfl) ee_int)
      (ss_c (ss_ret (EE.as ([] ++ []) (ee_mod (ee_name (j := 3) rfl (.inl rfl)) (ee_name (j := 1) rfl (.inl rfl)))))
      ss_n))) ss_n)
      (ss_c (ss_setX (j := 0) (EE.as _ (ee_call (io := io__law_mix) ((ok__law_mix C).mono (by decide)) hr rfl C.g__law_mix C.F__law_mix.kp (b__law_mix C) (L2N.passAt (L2N.takes_of rfl rfl rfl rfl)) (ea_ex (EE.as ([] ++ []) (ee_idx (ee_name (j := 0) rfl (.inl rfl)) ee_int)) (ea_ex (EE.as ([] ++ []) (ee_idx (ee_name (j := 0) rfl (.inl rfl)) ee_int)) ea_nil)))) rfl (.inl rfl) ee_int)
      (ss_c (ss_ret (EE.as ([] ++ []) (ee_mod (EE.as _ (ee_int1 rfl C.n_int (ea_ex (EE.as ([] ++ []) (ee_idx (ee_name (j := 0) rfl (.inl rfl)) ee_int)) ea_nil))) (ee_name (j := 1) rfl (.inl rfl)))))
      ss_n))))))
theorem sc__law_span : FnScope ["store", "low", "high", "form"] ["store", "low", "high"] (defScope s__law_span) := ⟨rfl, rfl, rfl, by decide +kernel, rfl, by decide +kernel, by decide +kernel⟩
theorem b__law_span (C : Cs K mg) : Binds K C.d__law_span ["store", "low", "high"] [] := C.F__law_span.bindsN fun _ _ _ _ _ _ us hl => match us, hl with | [_, _, _], _ => rfl
theorem ok__law_span (C : Cs K mg) : FnOk P w K mg base (L2N.CX P w) 3 C.f__law_span C.d__law_span ["store", "low", "high"] (spOf K io__law_span run__law_span) := by
  refine def_ok (N := ["store", "low", "high", "form"]) (U := [1, 2, 3]) (m := m__law_span) C.F__law_span sc__law_span rfl (ioU rfl) fun cdv A outer s H E hr => ?_
  have hu := Room.units hr
  exact (ss_c (ss_i (ET.as ([] ++ []) (et_le (ee_name (j := 2) rfl (.inl rfl)) (ee_name (j := 1) rfl (.inl rfl)))) (ss_c (ss_retV (j := 1) rfl (.inl rfl))
      ss_n) ss_n)
      (ss_c (SS.as [3] (ss_set (i := 3) sc__law_span.nd rfl (.inl rfl) (EE.as _ (ee_call (io := io__law_take) ((ok__law_take C).mono (by decide)) hr rfl C.g__law_take C.F__law_take.kp (b__law_take C) (L2N.passAt (L2N.takes_of rfl rfl rfl rfl)) (ea_io (j := 0) rfl (.inl rfl) (ea_ex ee_int ea_nil))))))
      (ss_c (ss_i (ET.as ([] ++ []) (et_eq hu (ee_name (j := 3) rfl (.inl rfl)) ee_int)) (ss_c (ss_retV (j := 1) rfl (.inl rfl))
      ss_n) ss_n)
      (ss_c (ss_i (ET.as ([] ++ []) (et_eq hu (ee_name (j := 3) rfl (.inl rfl)) ee_int)) (ss_c (ss_retV (j := 2) rfl (.inl rfl))
      ss_n) ss_n)
      (ss_c (ss_i (ET.as ([] ++ []) (et_eq hu (ee_name (j := 3) rfl (.inl rfl)) ee_int)) (ss_c (ss_ret (EE.as ([] ++ []) (ee_add (ee_name (j := 1) rfl (.inl rfl)) ee_int)))
      ss_n) ss_n)
      (ss_c (ss_i (ET.as ([] ++ []) (et_eq hu (ee_name (j := 3) rfl (.inl rfl)) ee_int)) (ss_c (ss_ret (EE.as _ (ee_min2 rfl rfl C.n_min (ea_ex (EE.as _ (ee_max2 rfl rfl C.n_max (ea_ex (ee_name (j := 1) rfl (.inl rfl)) (ea_ex ee_int ea_nil)))) (ea_ex (ee_name (j := 2) rfl (.inl rfl)) ea_nil)))))
      ss_n) ss_n)
      (ss_c (ss_ret (EE.as ([] ++ [0]) (ee_add (ee_name (j := 1) rfl (.inl rfl)) (EE.as _ (ee_call (io := io__law_take) ((ok__law_take C).mono (by decide)) hr rfl C.g__law_take C.F__law_take.kp (b__law_take C) (L2N.passAt (L2N.takes_of rfl rfl rfl rfl)) (ea_io (j := 0) rfl (.inl rfl) (ea_ex (EE.as ([] ++ []) (ee_add (EE.as ([] ++ []) (ee_sub (ee_name (j := 2) rfl (.inl rfl)) (ee_name (j := 1) rfl (.inl rfl)))) ee_int)) ea_nil)))))))
      ss_n)))))))
theorem sc__law_pick : FnScope ["store", "rows"] ["store", "rows"] (defScope s__law_pick) := ⟨rfl, rfl, rfl, by decide +kernel, rfl, by decide +kernel, by decide +kernel⟩
theorem b__law_pick (C : Cs K mg) : Binds K C.d__law_pick ["store", "rows"] [] := C.F__law_pick.bindsN fun _ _ _ _ _ _ us hl => match us, hl with | [_, _], _ => rfl
theorem ok__law_pick (C : Cs K mg) : FnOk P w K mg base (L2N.CX P w) 3 C.f__law_pick C.d__law_pick ["store", "rows"] (spOf K io__law_pick run__law_pick) := by
  refine def_ok (N := ["store", "rows"]) (U := [1]) (m := m__law_pick) C.F__law_pick sc__law_pick rfl (ioU rfl) fun cdv A outer s H E hr => ?_
  exact (ss_c (ss_ret (EE.as ([] ++ [0]) (ee_idx (ee_name (j := 1) rfl (.inl rfl)) (EE.as _ (ee_call (io := io__law_take) ((ok__law_take C).mono (by decide)) hr rfl C.g__law_take C.F__law_take.kp (b__law_take C) (L2N.passAt (L2N.takes_of rfl rfl rfl rfl)) (ea_io (j := 0) rfl (.inl rfl) (ea_ex (EE.as _ (ee_len rfl C.n_len (ea_ex (ee_name (j := 1) rfl (.inl rfl)) ea_nil))) ea_nil)))))))
      ss_n)
theorem sc__law_put : FnScope ["rows", "at", "row"] ["rows", "at", "row"] (defScope s__law_put) := ⟨rfl, rfl, rfl, by decide +kernel, rfl, by decide +kernel, by decide +kernel⟩
theorem b__law_put (C : Cs K mg) : Binds K C.d__law_put ["rows", "at", "row"] [] := C.F__law_put.bindsN fun _ _ _ _ _ _ us hl => match us, hl with | [_, _, _], _ => rfl
theorem ok__law_put (C : Cs K mg) : FnOk P w K mg base (L2N.CX P w) 1 C.f__law_put C.d__law_put ["rows", "at", "row"] (spOf K io__law_put run__law_put) := by
  refine def_ok (N := ["rows", "at", "row"]) (U := [0, 1, 2]) (m := m__law_put) C.F__law_put sc__law_put rfl (ioU rfl) fun cdv A outer s H E hr => ?_
  exact (ss_c (ss_ret (EE.as ([] ++ []) (ee_add (EE.as ([] ++ []) (ee_add (ee_cl (EE.as _ (ee_slH (ee_name (j := 0) rfl (.inl rfl)) (ee_name (j := 1) rfl (.inl rfl))))) (EE.as _ (ee_lst (ea_ex (ee_name (j := 2) rfl (.inl rfl)) ea_nil))))) (ee_cl (EE.as _ (ee_slL (ee_name (j := 0) rfl (.inl rfl)) (EE.as ([] ++ []) (ee_add (ee_name (j := 1) rfl (.inl rfl)) ee_int))))))))
      ss_n)
theorem sc__law_whole : FnScope ["x"] ["x"] (defScope s__law_whole) := ⟨rfl, rfl, rfl, by decide +kernel, rfl, by decide +kernel, by decide +kernel⟩
theorem b__law_whole (C : Cs K mg) : Binds K C.d__law_whole ["x"] [] := C.F__law_whole.bindsN fun _ _ _ _ _ _ us hl => match us, hl with | [_], _ => rfl
theorem ok__law_whole (C : Cs K mg) : FnOk P w K mg base (L2N.CX P w) 1 C.f__law_whole C.d__law_whole ["x"] (spOf K io__law_whole run__law_whole) := by
  refine def_ok (N := ["x"]) (U := [0]) (m := m__law_whole) C.F__law_whole sc__law_whole rfl (ioU rfl) fun cdv A outer s H E hr => ?_
  exact (ss_c (ss_ret (EE.as ([] ++ []) (ee_and (EE.as [] (ee_isi (t := .int) rfl rfl C.n_isinstance rfl C.n_int (by decide +kernel) (ee_name (j := 0) rfl (.inl rfl)))) (ee_one (EE.as [] (ee_not (EE.as [] (ee_isi (t := .bool) rfl rfl C.n_isinstance rfl C.n_bool (by decide +kernel) (ee_name (j := 0) rfl (.inl rfl))))))))))
      ss_n)
theorem sc__law_same : FnScope ["a", "b", "k"] ["a", "b"] (defScope s__law_same) := ⟨rfl, rfl, rfl, by decide +kernel, rfl, by decide +kernel, by decide +kernel⟩
theorem b__law_same (C : Cs K mg) : Binds K C.d__law_same ["a", "b"] [] := C.F__law_same.bindsN fun _ _ _ _ _ _ us hl => match us, hl with | [_, _], _ => rfl
theorem ok__law_same (C : Cs K mg) : ∀ n : Nat, FnOk P w K mg base (L2N.CX P w) (2 + n) C.f__law_same C.d__law_same ["a", "b"] (spOf K io__law_same (run__law_same n))
  | 0 => ⟨fun vs H Q E ⟨_, _, _, _, _, _, _, _, _, q, _⟩ => q.elim, fun _ _ _ _ _ _ _ _ _ _ _ _ _ ⟨_, _, _, _, _, _, _, _, _, q, _⟩ => q.elim⟩
  | n + 1 => by
    refine def_ok (k := 2 + n) (N := ["a", "b", "k"]) (U := [0, 1, 2]) (m := m__law_same (run__law_same n)) C.F__law_same sc__law_same rfl (ioU rfl) fun cdv A outer s H E hr => ?_
    have ih := ok__law_same C n
    have hu := Room.units hr
    exact (ss_c (ss_i (ew_pt (EW.as ([] ++ []) (ew_or (ET.as [] (et_isN (ee_name (j := 0) rfl (.inl rfl)))) (ew_or1 (ET.as [] (et_isN (ee_name (j := 1) rfl (.inl rfl)))))))) (ss_c (ss_ret (EE.as ([] ++ []) (ee_and (EE.as [] (ee_isN (ee_name (j := 0) rfl (.inl rfl)))) (ee_one (EE.as [] (ee_isN (ee_name (j := 1) rfl (.inl rfl))))))))
      ss_n) ss_n)
      (ss_c (ss_i (et_tru (fun _ => rfl) (EE.as [] (ee_isi (t := .bool) rfl rfl C.n_isinstance rfl C.n_bool (by decide +kernel) (ee_name (j := 1) rfl (.inl rfl))))) (ss_c (ss_ret (EE.as ([] ++ []) (ee_and (EE.as [] (ee_isi (t := .bool) rfl rfl C.n_isinstance rfl C.n_bool (by decide +kernel) (ee_name (j := 0) rfl (.inl rfl)))) (ee_one (EE.as ([] ++ []) (ee_eq hu (ee_name (j := 0) rfl (.inl rfl)) (ee_name (j := 1) rfl (.inl rfl))))))))
      ss_n) ss_n)
      (ss_c (ss_i (et_tru (fun _ => rfl) (EE.as [] (ee_isi (t := .int) rfl rfl C.n_isinstance rfl C.n_int (by decide +kernel) (ee_name (j := 1) rfl (.inl rfl))))) (ss_c (ss_ret (EE.as ([] ++ []) (ee_and (EE.as _ (ee_call (io := io__law_whole) ((ok__law_whole C).mono (by omega)) hr rfl C.g__law_whole C.F__law_whole.kp (b__law_whole C) (L2N.passAt (L2N.takes_of rfl rfl rfl rfl)) (ea_ex (ee_name (j := 0) rfl (.inl rfl)) ea_nil))) (ee_one (EE.as ([] ++ []) (ee_eq hu (ee_name (j := 0) rfl (.inl rfl)) (ee_name (j := 1) rfl (.inl rfl))))))))
      ss_n) ss_n)
      (ss_c (ss_i (et_tru (fun _ => rfl) (EE.as [] (ee_isi (t := .str) rfl rfl C.n_isinstance rfl C.n_str (by decide +kernel) (ee_name (j := 1) rfl (.inl rfl))))) (ss_c (ss_ret (EE.as ([] ++ []) (ee_and (EE.as [] (ee_isi (t := .str) rfl rfl C.n_isinstance rfl C.n_str (by decide +kernel) (ee_name (j := 0) rfl (.inl rfl)))) (ee_one (EE.as ([] ++ []) (ee_eq hu (ee_name (j := 0) rfl (.inl rfl)) (ee_name (j := 1) rfl (.inl rfl))))))))
      ss_n) ss_n)
      (ss_c (ss_i (ew_pt (EW.as ([] ++ []) (ew_and (et_tru (fun _ => rfl) (EE.as [] (ee_isi (t := .list) rfl rfl C.n_isinstance rfl C.n_list (by decide +kernel) (ee_name (j := 1) rfl (.inl rfl))))) (ew_and1 (ET.as [] (et_not (et_tru (fun _ => rfl) (EE.as [] (ee_isi (t := .list) rfl rfl C.n_isinstance rfl C.n_list (by decide +kernel) (ee_name (j := 0) rfl (.inl rfl))))))))))) (ss_c (ss_ret ee_bl)
      ss_n) ss_n)
      (ss_c (ss_i (ew_pt (EW.as ([] ++ []) (ew_and (et_tru (fun _ => rfl) (EE.as [] (ee_isi (t := .tuple) rfl rfl C.n_isinstance rfl C.n_tuple (by decide +kernel) (ee_name (j := 1) rfl (.inl rfl))))) (ew_and1 (ET.as [] (et_not (et_tru (fun _ => rfl) (EE.as [] (ee_isi (t := .tuple) rfl rfl C.n_isinstance rfl C.n_tuple (by decide +kernel) (ee_name (j := 0) rfl (.inl rfl))))))))))) (ss_c (ss_ret ee_bl)
      ss_n) ss_n)
      (ss_c (ss_i (ET.as ([] ++ []) (et_ne hu (EE.as _ (ee_len rfl C.n_len (ea_ex (ee_name (j := 0) rfl (.inl rfl)) ea_nil))) (EE.as _ (ee_len rfl C.n_len (ea_ex (ee_name (j := 1) rfl (.inl rfl)) ea_nil))))) (ss_c (ss_ret ee_bl)
      ss_n) ss_n)
      (ss_c (ss_f (passes_of rfl) rfl (EI.as _ (ei_rg1 rfl C.n_range (ea_ex (EE.as _ (ee_len rfl C.n_len (ea_ex (ee_name (j := 1) rfl (.inl rfl)) ea_nil))) ea_nil))) (pg_name (i := 2) sc__law_same.nd rfl (.inl rfl)) (ss_c (ss_i (ET.as [] (et_not (et_tru (fun _ => rfl) (EE.as _ (ee_call (io := io__law_same) (ih) hr rfl C.g__law_same C.F__law_same.kp (b__law_same C) (L2N.passAt (L2N.takes_of rfl rfl rfl rfl)) (ea_ex (EE.as ([] ++ []) (ee_idx (ee_name (j := 0) rfl (.inl rfl)) (ee_name (j := 2) rfl (.inl rfl)))) (ea_ex (EE.as ([] ++ []) (ee_idx (ee_name (j := 1) rfl (.inl rfl)) (ee_name (j := 2) rfl (.inl rfl)))) ea_nil))))))) (ss_c (ss_ret ee_bl)
      ss_n) ss_n)
      ss_n) (by decide))
      (ss_c (ss_ret ee_bl)
      ss_n)))))))))
theorem sc__law_nil : FnScope ["d", "k"] ["d"] (defScope s__law_nil) := ⟨rfl, rfl, rfl, by decide +kernel, rfl, by decide +kernel, by decide +kernel⟩
theorem b__law_nil (C : Cs K mg) : Binds K C.d__law_nil ["d"] [] := C.F__law_nil.bindsN fun _ _ _ _ _ _ us hl => match us, hl with | [_], _ => rfl
theorem ok__law_nil (C : Cs K mg) : FnOk P w K mg base (L2N.CX P w) 1 C.f__law_nil C.d__law_nil ["d"] (spOf K io__law_nil run__law_nil) := by
  refine def_ok (N := ["d", "k"]) (U := [0, 1]) (m := m__law_nil) C.F__law_nil sc__law_nil rfl (ioU rfl) fun cdv A outer s H E hr => ?_
  exact (ss_c (ss_ret (EE.as _ (ee_tuple rfl C.n_tuple (ea_ex (EE.as ([] ++ ([] ++ List.map (·.2) [("k", 1)])) (ee_lc (own := [("k", 1)]) (Mb := []) rfl sc__law_nil.nd (EI.as _ (ei_rg1 rfl C.n_range (ea_ex (ee_name (j := 0) rfl (.inl rfl)) ea_nil))) (BlkOk.of (by kernel_rfl)) (by decide) (fun _ _ _ _ _ => (pg_name (i := 1) sc__law_nil.nd rfl (.inl rfl))) (fun _ _ _ _ _ => ets_nil) (fun _ _ _ _ _ => EE.mono ee_int (by decide)))) ea_nil))))
      ss_n)
theorem sc__law_multiple : FnScope ["p", "z", "n"] ["p", "z"] (defScope s__law_multiple) := ⟨rfl, rfl, rfl, by decide +kernel, rfl, by decide +kernel, by decide +kernel⟩
theorem b__law_multiple (C : Cs K mg) : Binds K C.d__law_multiple ["p", "z"] [] := C.F__law_multiple.bindsN fun _ _ _ _ _ _ us hl => match us, hl with | [_, _], _ => rfl
theorem ok__law_multiple (C : Cs K mg) : FnOk P w K mg base (L2N.CX P w) 1 C.f__law_multiple C.d__law_multiple ["p", "z"] (spOf K io__law_multiple run__law_multiple) := by
  refine def_ok (N := ["p", "z", "n"]) (U := [0, 1, 2]) (m := m__law_multiple) C.F__law_multiple sc__law_multiple rfl (ioU rfl) fun cdv A outer s H E hr => ?_
  exact (ss_c (ss_ret (EE.as _ (ee_tuple rfl C.n_tuple (ea_ex (EE.as ([] ++ ([] ++ List.map (·.2) [("n", 2)])) (ee_lc (own := [("n", 2)]) (Mb := []) rfl sc__law_multiple.nd (ei_seq (ee_name (j := 0) rfl (.inl rfl))) (BlkOk.of (by kernel_rfl)) (by decide) (fun _ _ _ _ _ => (pg_name (i := 2) sc__law_multiple.nd rfl (.inl rfl))) (fun _ _ _ _ _ => ets_nil) (fun _ _ _ _ _ => EE.mono (EE.as ([] ++ []) (ee_mul (ee_name (j := 2) rfl (.inl rfl)) (ee_name (j := 1) rfl (.inr (.inl rfl))))) (by decide)))) ea_nil))))
      ss_n)
theorem sc__law_far : FnScope ["p", "n"] ["p"] (defScope s__law_far) := ⟨rfl, rfl, rfl, by decide +kernel, rfl, by decide +kernel, by decide +kernel⟩
theorem b__law_far (C : Cs K mg) : Binds K C.d__law_far ["p"] [] := C.F__law_far.bindsN fun _ _ _ _ _ _ us hl => match us, hl with | [_], _ => rfl
theorem ok__law_far (C : Cs K mg) : FnOk P w K mg base (L2N.CX P w) 1 C.f__law_far C.d__law_far ["p"] (spOf K io__law_far run__law_far) := by
  refine def_ok (N := ["p", "n"]) (U := [0, 1]) (m := m__law_far) C.F__law_far sc__law_far rfl (ioU rfl) fun cdv A outer s H E hr => ?_
  exact (ss_c (ss_ret (EE.as _ (ee_max rfl rfl C.n_max (ea_ex (EE.as ([] ++ ([] ++ List.map (·.2) [("n", 1)])) (ee_lc (own := [("n", 1)]) (Mb := []) rfl sc__law_far.nd (ei_seq (ee_name (j := 0) rfl (.inl rfl))) (BlkOk.of (by kernel_rfl)) (by decide) (fun _ _ _ _ _ => (pg_name (i := 1) sc__law_far.nd rfl (.inl rfl))) (fun _ _ _ _ _ => ets_nil) (fun _ _ _ _ _ => EE.mono (EE.as _ (ee_abs rfl C.n_abs (ea_ex (ee_name (j := 1) rfl (.inl rfl)) ea_nil))) (by decide)))) ea_nil))))
      ss_n)
theorem sc__law_columns : FnScope ["store", "many", "rows", "out", "far", "k", "form", "column", "j"] ["store", "many", "rows"] (defScope s__law_columns) := ⟨rfl, rfl, rfl, by decide +kernel, rfl, by decide +kernel, by decide +kernel⟩
theorem b__law_columns (C : Cs K mg) : Binds K C.d__law_columns ["store", "many", "rows"] [] := C.F__law_columns.bindsN fun _ _ _ _ _ _ us hl => match us, hl with | [_, _, _], _ => rfl
theorem ok__law_columns (C : Cs K mg) : FnOk P w K mg base (L2N.CX P w) 4 C.f__law_columns C.d__law_columns ["store", "many", "rows"] (spOf K io__law_columns run__law_columns) := by
  refine def_ok (N := ["store", "many", "rows", "out", "far", "k", "form", "column", "j"]) (U := [1, 2, 3, 4, 5, 6, 7, 8]) (m := m__law_columns) C.F__law_columns sc__law_columns rfl (ioU rfl) fun cdv A outer s H E hr => ?_
  have hu := Room.units hr
  exact (ss_c (SS.as [3] (ss_set (i := 3) sc__law_columns.nd rfl (.inl rfl) (EE.as _ (ee_lst ea_nil))))
      (ss_c (SS.as [4] (ss_set (i := 4) sc__law_columns.nd rfl (.inr rfl) (EE.as ([] ++ [0]) (ee_idx (EE.as _ (ee_lst (ea_ex ee_int (ea_ex ee_int (ea_ex ee_int (ea_ex ee_int ea_nil)))))) (EE.as _ (ee_call (io := io__law_take) ((ok__law_take C).mono (by decide)) hr rfl C.g__law_take C.F__law_take.kp (b__law_take C) (L2N.passAt (L2N.takes_of rfl rfl rfl rfl)) (ea_io (j := 0) rfl (.inr (.inl rfl)) (ea_ex ee_int ea_nil))))))))
      (ss_c (ss_f (passes_of rfl) rfl (EI.as _ (ei_rg1 rfl C.n_range (ea_ex (ee_name (j := 1) rfl (.inl rfl)) ea_nil))) (pg_name (i := 5) sc__law_columns.nd rfl (.inl rfl)) (ss_c (SS.as [6] (ss_set (i := 6) sc__law_columns.nd rfl (.inl rfl) (EE.as _ (ee_call (io := io__law_take) ((ok__law_take C).mono (by decide)) hr rfl C.g__law_take C.F__law_take.kp (b__law_take C) (L2N.passAt (L2N.takes_of rfl rfl rfl rfl)) (ea_io (j := 0) rfl (.inr (.inl rfl)) (ea_ex ee_int ea_nil))))))
      (ss_c (SS.as [7] (ss_set (i := 7) sc__law_columns.nd rfl (.inl rfl) (EE.as _ (ee_tuple rfl C.n_tuple (ea_ex (EE.as ([] ++ ([0] ++ List.map (·.2) [("j", 8)])) (ee_lc (own := [("j", 8)]) (Mb := [0]) rfl sc__law_columns.nd (EI.as _ (ei_rg1 rfl C.n_range (ea_ex (ee_name (j := 2) rfl (.inl rfl)) ea_nil))) (BlkOk.of (by kernel_rfl)) (by decide) (fun _ _ _ _ _ => (pg_name (i := 8) sc__law_columns.nd rfl (.inl rfl))) (fun _ _ _ _ _ => ets_nil) (fun _ _ _ _ _ => EE.mono (EE.as _ (ee_call (io := io__law_span) ((ok__law_span C).mono (by decide)) hr rfl C.g__law_span C.F__law_span.kp (b__law_span C) passW0 (ea_io (j := 0) rfl (.inr (.inl rfl)) (ea_ex (EE.as ([] ++ []) (ee_sub ee_int (ee_name (j := 4) rfl (.inr (.inl rfl))))) (ea_ex (ee_name (j := 4) rfl (.inr (.inl rfl))) ea_nil))))) (by decide)))) ea_nil)))))
      (ss_c (ss_i (ET.as ([] ++ []) (et_eq hu (ee_name (j := 6) rfl (.inl rfl)) ee_int)) (ss_c (SS.as [7] (ss_set (i := 7) sc__law_columns.nd rfl (.inl rfl) (EE.as _ (ee_call (io := io__law_nil) ((ok__law_nil C).mono (by decide)) hr rfl C.g__law_nil C.F__law_nil.kp (b__law_nil C) (L2N.passAt (L2N.takes_of rfl rfl rfl rfl)) (ea_ex (ee_name (j := 2) rfl (.inl rfl)) ea_nil)))))
      ss_n) ss_n)
      (ss_c (ss_i (ew_pt (EW.as ([] ++ []) (ew_and (et_tru (fun _ => rfl) (ee_name (j := 3) rfl (.inl rfl))) (ew_and1 (ET.as ([] ++ []) (et_eq hu (ee_name (j := 6) rfl (.inl rfl)) ee_int)))))) (ss_c (SS.as [7] (ss_set (i := 7) sc__law_columns.nd rfl (.inl rfl) (EE.as _ (ee_call (io := io__law_pick) ((ok__law_pick C).mono (by decide)) hr rfl C.g__law_pick C.F__law_pick.kp (b__law_pick C) (L2N.passAt (L2N.takes_of rfl rfl rfl rfl)) (ea_io (j := 0) rfl (.inr (.inl rfl)) (ea_ex (ee_name (j := 3) rfl (.inl rfl)) ea_nil))))))
      ss_n) ss_n)
      (ss_c (ss_i (ew_pt (EW.as ([] ++ []) (ew_and (et_tru (fun _ => rfl) (ee_name (j := 3) rfl (.inl rfl))) (ew_and1 (ET.as ([] ++ []) (et_eq hu (ee_name (j := 6) rfl (.inl rfl)) ee_int)))))) (ss_c (SS.as [7] (ss_set (i := 7) sc__law_columns.nd rfl (.inl rfl) (EE.as _ (ee_call (io := io__law_multiple) ((ok__law_multiple C).mono (by decide)) hr rfl C.g__law_multiple C.F__law_multiple.kp (b__law_multiple C) (L2N.passAt (L2N.takes_of rfl rfl rfl rfl)) (ea_ex (EE.as _ (ee_call (io := io__law_pick) ((ok__law_pick C).mono (by decide)) hr rfl C.g__law_pick C.F__law_pick.kp (b__law_pick C) (L2N.passAt (L2N.takes_of rfl rfl rfl rfl)) (ea_io (j := 0) rfl (.inr (.inl rfl)) (ea_ex (ee_name (j := 3) rfl (.inl rfl)) ea_nil)))) (ea_ex (EE.as [] (ee_neg ee_int)) ea_nil))))))
      (ss_c (ss_i (ET.as ([] ++ []) (et_gt (EE.as _ (ee_call (io := io__law_far) ((ok__law_far C).mono (by decide)) hr rfl C.g__law_far C.F__law_far.kp (b__law_far C) (L2N.passAt (L2N.takes_of rfl rfl rfl rfl)) (ea_ex (ee_name (j := 7) rfl (.inl rfl)) ea_nil))) ee_int)) (ss_c (SS.as [7] (ss_set (i := 7) sc__law_columns.nd rfl (.inl rfl) (EE.as _ (ee_call (io := io__law_nil) ((ok__law_nil C).mono (by decide)) hr rfl C.g__law_nil C.F__law_nil.kp (b__law_nil C) (L2N.passAt (L2N.takes_of rfl rfl rfl rfl)) (ea_ex (ee_name (j := 2) rfl (.inl rfl)) ea_nil)))))
      ss_n) ss_n)
      ss_n)) ss_n)
      (ss_c (ss_app (j := 3) rfl (.inl rfl) (ea_ex (ee_name (j := 7) rfl (.inl rfl)) ea_nil))
      ss_n)))))) (by decide))
      (ss_c (ss_retV (j := 3) rfl (.inl rfl))
      ss_n))))
theorem sc__law_bad_counts : FnScope ["e", "odd"] ["e"] (defScope s__law_bad_counts) := ⟨rfl, rfl, rfl, by decide +kernel, rfl, by decide +kernel, by decide +kernel⟩
theorem b__law_bad_counts (C : Cs K mg) : Binds K C.d__law_bad_counts ["e"] [] := C.F__law_bad_counts.bindsN fun _ _ _ _ _ _ us hl => match us, hl with | [_], _ => rfl
theorem ok__law_bad_counts (C : Cs K mg) : FnX P w K mg base 1 C.f__law_bad_counts C.d__law_bad_counts ["e"] (fun a0 x0 => spOf K io__law_bad_counts (run__law_bad_counts a0 x0)) := by
  refine def_okX (N := ["e", "odd"]) (U := [0, 1]) (m := m__law_bad_counts) C.F__law_bad_counts sc__law_bad_counts rfl (ioU rfl) fun cdv A outer s H E a oe y d hh eok hr => ?_
  exact (ss_c (SS.as [1] (ss_set (i := 1) sc__law_bad_counts.nd rfl (.inl rfl) (EE.as _ (ee_lst (ea_ex (EE.as [] (ee_isX (cV := .ref (He.ga K "BadLine")) (k := "BadLine") (rs := ["BadCounts"]) List.mem_cons_self eok C.ec C.kk_BadLine (fun _ r => r) (pe_glob (v := .ref (He.ga K "BadLine")) rfl C.gx_BadLine rfl) rfl C.n_isinstance (ee_name (j := 0) rfl (.inl rfl)))) (ea_ex (EE.as [] (ee_isX (cV := .ref (He.ga K "DayClosed")) (k := "DayClosed") (rs := ["BadCounts"]) List.mem_cons_self eok C.ec C.kk_DayClosed (fun _ r => r) (pe_glob (v := .ref (He.ga K "DayClosed")) rfl C.gx_DayClosed rfl) rfl C.n_isinstance (ee_name (j := 0) rfl (.inl rfl)))) (ea_ex (EE.as [] (ee_isX (cV := .ref (He.ga K "NothingToUndo")) (k := "NothingToUndo") (rs := ["BadCounts"]) List.mem_cons_self eok C.ec C.kk_NothingToUndo (fun _ r => r) (pe_glob (v := .ref (He.ga K "NothingToUndo")) rfl C.gx_NothingToUndo rfl) rfl C.n_isinstance (ee_name (j := 0) rfl (.inl rfl)))) (ea_ex (EE.as [] (ee_isX (cV := .ref (He.ga K "NotPlain")) (k := "NotPlain") (rs := ["BadCounts"]) List.mem_cons_self eok C.ec C.kk_NotPlain (fun _ r => r) (pe_glob (v := .ref (He.ga K "NotPlain")) rfl C.gx_NotPlain rfl) rfl C.n_isinstance (ee_name (j := 0) rfl (.inl rfl)))) ea_nil))))))))
      (ss_c (SS.as [1] (ss_set (i := 1) sc__law_bad_counts.nd rfl (.inl rfl) (EE.as ([] ++ []) (ee_add (ee_name (j := 1) rfl (.inl rfl)) (EE.as _ (ee_lst (ea_ex (EE.as [] (ee_isX (cV := .ref (He.ga K "NotAllEnds")) (k := "NotAllEnds") (rs := ["BadCounts"]) List.mem_cons_self eok C.ec C.kk_NotAllEnds (fun _ r => r) (pe_glob (v := .ref (He.ga K "NotAllEnds")) rfl C.gx_NotAllEnds rfl) rfl C.n_isinstance (ee_name (j := 0) rfl (.inl rfl)))) (ea_ex (EE.as [] (ee_isX (cV := .ref (He.ga K "NotAnEnd")) (k := "NotAnEnd") (rs := ["BadCounts"]) List.mem_cons_self eok C.ec C.kk_NotAnEnd (fun _ r => r) (pe_glob (v := .ref (He.ga K "NotAnEnd")) rfl C.gx_NotAnEnd rfl) rfl C.n_isinstance (ee_name (j := 0) rfl (.inl rfl)))) (ea_ex (EE.as [] (ee_isX (cV := .ref (He.ga K "BadName")) (k := "BadName") (rs := ["BadCounts"]) List.mem_cons_self eok C.ec C.kk_BadName (fun _ r => r) (pe_glob (v := .ref (He.ga K "BadName")) rfl C.gx_BadName rfl) rfl C.n_isinstance (ee_name (j := 0) rfl (.inl rfl)))) (ea_ex (EE.as [] (ee_isX (cV := .ref (He.ga K "BadStep")) (k := "BadStep") (rs := ["BadCounts"]) List.mem_cons_self eok C.ec C.kk_BadStep (fun _ r => r) (pe_glob (v := .ref (He.ga K "BadStep")) rfl C.gx_BadStep rfl) rfl C.n_isinstance (ee_name (j := 0) rfl (.inl rfl)))) ea_nil))))))))))
      (ss_c (SS.as [1] (ss_set (i := 1) sc__law_bad_counts.nd rfl (.inl rfl) (EE.as ([] ++ []) (ee_add (ee_name (j := 1) rfl (.inl rfl)) (EE.as _ (ee_lst (ea_ex (EE.as [] (ee_isX (cV := .ref (He.ga K "BadWindow")) (k := "BadWindow") (rs := ["BadCounts"]) List.mem_cons_self eok C.ec C.kk_BadWindow (fun _ r => r) (pe_glob (v := .ref (He.ga K "BadWindow")) rfl C.gx_BadWindow rfl) rfl C.n_isinstance (ee_name (j := 0) rfl (.inl rfl)))) (ea_ex (EE.as [] (ee_isX (cV := .ref (He.ga K "BadRig")) (k := "BadRig") (rs := ["BadCounts"]) List.mem_cons_self eok C.ec C.kk_BadRig (fun _ r => r) (pe_glob (v := .ref (He.ga K "BadRig")) rfl C.gx_BadRig rfl) rfl C.n_isinstance (ee_name (j := 0) rfl (.inl rfl)))) (ea_ex (EE.as [] (ee_isX (cV := .ref (He.ga K "BadEnds")) (k := "BadEnds") (rs := ["BadCounts"]) List.mem_cons_self eok C.ec C.kk_BadEnds (fun _ r => r) (pe_glob (v := .ref (He.ga K "BadEnds")) rfl C.gx_BadEnds rfl) rfl C.n_isinstance (ee_name (j := 0) rfl (.inl rfl)))) (ea_ex (EE.as [] (ee_isX (cV := .ref (He.ga K "OffLedger")) (k := "OffLedger") (rs := ["BadCounts"]) List.mem_cons_self eok C.ec C.kk_OffLedger (fun _ r => r) (pe_glob (v := .ref (He.ga K "OffLedger")) rfl C.gx_OffLedger rfl) rfl C.n_isinstance (ee_name (j := 0) rfl (.inl rfl)))) ea_nil))))))))))
      (ss_c (SS.as [1] (ss_set (i := 1) sc__law_bad_counts.nd rfl (.inl rfl) (EE.as ([] ++ []) (ee_add (ee_name (j := 1) rfl (.inl rfl)) (EE.as _ (ee_lst (ea_ex (EE.as [] (ee_isX (cV := .ref (He.ga K "TooLong")) (k := "TooLong") (rs := ["BadCounts"]) List.mem_cons_self eok C.ec C.kk_TooLong (fun _ r => r) (pe_glob (v := .ref (He.ga K "TooLong")) rfl C.gx_TooLong rfl) rfl C.n_isinstance (ee_name (j := 0) rfl (.inl rfl)))) (ea_ex (EE.as [] (ee_isX (cV := .ref (He.ga K "NotLaid")) (k := "NotLaid") (rs := ["BadCounts"]) List.mem_cons_self eok C.ec C.kk_NotLaid (fun _ r => r) (pe_glob (v := .ref (He.ga K "NotLaid")) rfl C.gx_NotLaid rfl) rfl C.n_isinstance (ee_name (j := 0) rfl (.inl rfl)))) (ea_ex (EE.as [] (ee_isX (cV := .ref (He.ga K "BadPaper")) (k := "BadPaper") (rs := ["BadCounts"]) List.mem_cons_self eok C.ec C.kk_BadPaper (fun _ r => r) (pe_glob (v := .ref (He.ga K "BadPaper")) rfl C.gx_BadPaper rfl) rfl C.n_isinstance (ee_name (j := 0) rfl (.inl rfl)))) ea_nil)))))))))
      (ss_c (ss_ret (EE.as ([] ++ []) (ee_and (EE.as [] (ee_isX (cV := .ref (He.ga K "BadCounts")) (k := "BadCounts") (rs := ["BadCounts"]) List.mem_cons_self eok C.ec C.kk_BadCounts (fun _ r => r) (pe_glob (v := .ref (He.ga K "BadCounts")) rfl C.gx_BadCounts rfl) rfl C.n_isinstance (ee_name (j := 0) rfl (.inl rfl)))) (EE.as ([] ++ []) (ee_and (EE.as [] (ee_isX (cV := .ty "ValueError") (k := "ValueError") (rs := ["BadCounts"]) List.mem_cons_self eok C.ec C.kk_ValueError (fun _ r => r) (pe_bltn (v := .ty "ValueError") rfl C.n_ValueError rfl rfl) rfl C.n_isinstance (ee_name (j := 0) rfl (.inl rfl)))) (ee_one (EE.as [] (ee_not (EE.as _ (ee_anyH ⟨(_, _), EOk.hot eok hh, List.mem_cons_self⟩ rfl C.n_any (ea_ex (ee_name (j := 1) rfl (.inl rfl)) ea_nil)))))))))))
      ss_n)))))
theorem sc__law_common : FnScope ["numbers", "g", "n", "b", "k", "rest"] ["numbers"] (defScope s__law_common) := ⟨rfl, rfl, rfl, by decide +kernel, rfl, by decide +kernel, by decide +kernel⟩
theorem b__law_common (C : Cs K mg) : Binds K C.d__law_common ["numbers"] [] := C.F__law_common.bindsN fun _ _ _ _ _ _ us hl => match us, hl with | [_], _ => rfl
theorem ok__law_common (C : Cs K mg) : FnOk P w K mg base (L2N.CX P w) 1 C.f__law_common C.d__law_common ["numbers"] (spOf K io__law_common run__law_common) := by
  refine def_ok (N := ["numbers", "g", "n", "b", "k", "rest"]) (U := [0, 1, 2, 3, 4, 5]) (m := m__law_common) C.F__law_common sc__law_common rfl (ioU rfl) fun cdv A outer s H E hr => ?_
  have hu := Room.units hr
  exact (ss_c (SS.as [1] (ss_set (i := 1) sc__law_common.nd rfl (.inl rfl) ee_int))
      (ss_c (ss_f (passes_of rfl) rfl (ei_seq (ee_name (j := 0) rfl (.inl rfl))) (pg_name (i := 2) sc__law_common.nd rfl (.inl rfl)) (ss_c (SS.as [3] (ss_set (i := 3) sc__law_common.nd rfl (.inl rfl) (EE.as _ (ee_abs rfl C.n_abs (ea_ex (ee_name (j := 2) rfl (.inl rfl)) ea_nil)))))
      (ss_c (ss_f (passes_of rfl) rfl (EI.as _ (ei_rg1 rfl C.n_range (ea_ex ee_int ea_nil))) (pg_name (i := 4) sc__law_common.nd rfl (.inl rfl)) (ss_c (ss_i (ET.as ([] ++ []) (et_eq hu (ee_name (j := 3) rfl (.inl rfl)) ee_int)) (ss_c ss_break
      ss_n) ss_n)
      (ss_c (SS.as [5] (ss_set (i := 5) sc__law_common.nd rfl (.inl rfl) (EE.as ([] ++ []) (ee_mod (EE.as _ (ee_int1 rfl C.n_int (ea_ex (ee_name (j := 1) rfl (.inl rfl)) ea_nil))) (ee_name (j := 3) rfl (.inl rfl))))))
      (ss_c (SS.as [1] (ss_set (i := 1) sc__law_common.nd rfl (.inl rfl) (ee_name (j := 3) rfl (.inl rfl))))
      (ss_c (SS.as [3] (ss_set (i := 3) sc__law_common.nd rfl (.inl rfl) (ee_name (j := 5) rfl (.inl rfl))))
      ss_n)))) (by decide))
      ss_n)) (by decide))
      (ss_c (ss_retV (j := 1) rfl (.inl rfl))
      ss_n)))
theorem sc__law_depends : FnScope ["columns", "numbers", "first", "k", "n", "j"] ["columns", "numbers"] (defScope s__law_depends) := ⟨rfl, rfl, rfl, by decide +kernel, rfl, by decide +kernel, by decide +kernel⟩
theorem b__law_depends (C : Cs K mg) : Binds K C.d__law_depends ["columns", "numbers"] [] := C.F__law_depends.bindsN fun _ _ _ _ _ _ us hl => match us, hl with | [_, _], _ => rfl
theorem ok__law_depends (C : Cs K mg) : FnOk P w K mg base (L2N.CX P w) 2 C.f__law_depends C.d__law_depends ["columns", "numbers"] (spOf K io__law_depends run__law_depends) := by
  refine def_ok (N := ["columns", "numbers", "first", "k", "n", "j"]) (U := [0, 1, 2, 3, 4, 5]) (m := m__law_depends) C.F__law_depends sc__law_depends rfl (ioU rfl) fun cdv A outer s H E hr => ?_
  have hu := Room.units hr
  exact (ss_c (ss_i (ew_pt (EW.as ([] ++ []) (ew_or (ET.as [] (et_not (et_tru (fun _ => rfl) (EE.as [] (ee_isi (t := .list) rfl rfl C.n_isinstance rfl C.n_list (by decide +kernel) (ee_name (j := 1) rfl (.inr (.inl rfl)))))))) (ew_or1 (ET.as ([] ++ []) (et_ne hu (EE.as _ (ee_len rfl C.n_len (ea_ex (ee_name (j := 1) rfl (.inr (.inl rfl))) ea_nil))) (EE.as _ (ee_len rfl C.n_len (ea_ex (ee_name (j := 0) rfl (.inr (.inl rfl))) ea_nil))))))))) (ss_c (ss_ret ee_bl)
      ss_n) ss_n)
      (ss_c (ss_i (et_tru (fun _ => rfl) (EE.as ([] ++ ([] ++ List.map (·.2) [("n", 4)])) (ee_lc (own := [("n", 4)]) (Mb := []) rfl sc__law_depends.nd (ei_seq (ee_name (j := 1) rfl (.inr (.inl rfl)))) (BlkOk.of (by kernel_rfl)) (by decide) (fun _ _ _ _ _ => (pg_name (i := 4) sc__law_depends.nd rfl (.inl rfl))) (fun _ _ _ _ _ => (ets_one (ET.mono (ET.as [] (et_not (et_tru (fun _ => rfl) (EE.as _ (ee_call (io := io__law_whole) ((ok__law_whole C).mono (by decide)) hr rfl C.g__law_whole C.F__law_whole.kp (b__law_whole C) passW0 (ea_ex (ee_name (j := 4) rfl (.inl rfl)) ea_nil)))))) (by decide)))) (fun _ _ _ _ _ => EE.mono (ee_name (j := 4) rfl (.inl rfl)) (by decide))))) (ss_c (ss_ret ee_bl)
      ss_n) ss_n)
      (ss_c (SS.as [2] (ss_set (i := 2) sc__law_depends.nd rfl (.inl rfl) (ee_cl (EE.as _ (ee_slH (EE.as ([] ++ ([] ++ List.map (·.2) [("n", 4)])) (ee_lc (own := [("n", 4)]) (Mb := []) rfl sc__law_depends.nd (ei_seq (ee_name (j := 1) rfl (.inr (.inl rfl)))) (BlkOk.of (by kernel_rfl)) (by decide) (fun _ _ _ _ _ => (pg_name (i := 4) sc__law_depends.nd rfl (.inl rfl))) (fun _ _ _ _ _ => (ets_one (ET.mono (ET.as ([] ++ []) (et_ne hu (ee_name (j := 4) rfl (.inl rfl)) ee_int)) (by decide)))) (fun _ _ _ _ _ => EE.mono (ee_name (j := 4) rfl (.inl rfl)) (by decide)))) ee_int)))))
      (ss_c (ss_i (ew_pt (EW.as ([] ++ []) (ew_or (ET.as [] (et_not (et_tru (fun _ => rfl) (ee_name (j := 2) rfl (.inl rfl))))) (EW.as ([] ++ []) (ew_or (ET.as ([] ++ []) (et_ltX hu (EE.as ([] ++ []) (ee_idx (ee_name (j := 2) rfl (.inl rfl)) ee_int)) ee_int)) (ew_or1 (ET.as ([] ++ []) (et_ne hu (EE.as _ (ee_call (io := io__law_common) ((ok__law_common C).mono (by decide)) hr rfl C.g__law_common C.F__law_common.kp (b__law_common C) (L2N.passAt (L2N.takes_of rfl rfl rfl rfl)) (ea_ex (ee_name (j := 1) rfl (.inr (.inl rfl))) ea_nil))) ee_int)))))))) (ss_c (ss_ret ee_bl)
      ss_n) ss_n)
      (ss_c (ss_f (passes_of rfl) rfl (EI.as _ (ei_rg1 rfl C.n_range (ea_ex (EE.as _ (ee_len rfl C.n_len (ea_ex (EE.as ([] ++ []) (ee_idx (ee_name (j := 0) rfl (.inr (.inl rfl))) ee_int)) ea_nil))) ea_nil))) (pg_name (i := 3) sc__law_depends.nd rfl (.inr rfl)) (ss_c (ss_i (ET.as ([5] ++ []) (et_ne hu (EE.as _ (ee_sum rfl rfl C.n_sum (ea_ex (EE.as ([] ++ ([] ++ List.map (·.2) [("j", 5)])) (ee_lc (own := [("j", 5)]) (Mb := []) rfl sc__law_depends.nd (EI.as _ (ei_rg1 rfl C.n_range (ea_ex (EE.as _ (ee_len rfl C.n_len (ea_ex (ee_name (j := 0) rfl (.inr (.inl rfl))) ea_nil))) ea_nil))) (BlkOk.of (by kernel_rfl)) (by decide) (fun _ _ _ _ _ => (pg_name (i := 5) sc__law_depends.nd rfl (.inl rfl))) (fun _ _ _ _ _ => ets_nil) (fun _ _ _ _ _ => EE.mono (EE.as ([] ++ []) (ee_mul (EE.as ([] ++ []) (ee_idx (ee_name (j := 1) rfl (.inr (.inl rfl))) (ee_name (j := 5) rfl (.inl rfl)))) (EE.as ([] ++ []) (ee_idx (EE.as ([] ++ []) (ee_idx (ee_name (j := 0) rfl (.inr (.inl rfl))) (ee_name (j := 5) rfl (.inl rfl)))) (ee_name (j := 3) rfl (.inr (.inl rfl))))))) (by decide)))) ea_nil))) ee_int)) (ss_c (ss_ret ee_bl)
      ss_n) ss_n)
      ss_n) (by decide))
      (ss_c (ss_ret ee_bl)
      ss_n))))))
theorem sc__law_clean : FnScope ["numbers", "first", "g", "n"] ["numbers"] (defScope s__law_clean) := ⟨rfl, rfl, rfl, by decide +kernel, rfl, by decide +kernel, by decide +kernel⟩
theorem b__law_clean (C : Cs K mg) : Binds K C.d__law_clean ["numbers"] [] := C.F__law_clean.bindsN fun _ _ _ _ _ _ us hl => match us, hl with | [_], _ => rfl
theorem ok__law_clean (C : Cs K mg) : FnOk P w K mg base (L2N.CX P w) 2 C.f__law_clean C.d__law_clean ["numbers"] (spOf K io__law_clean run__law_clean) := by
  refine def_ok (N := ["numbers", "first", "g", "n"]) (U := [0, 1, 2, 3]) (m := m__law_clean) C.F__law_clean sc__law_clean rfl (ioU rfl) fun cdv A outer s H E hr => ?_
  have hu := Room.units hr
  exact (ss_c (SS.as [1] (ss_set (i := 1) sc__law_clean.nd rfl (.inl rfl) (EE.as ([3] ++ []) (ee_idx (EE.as ([] ++ ([] ++ List.map (·.2) [("n", 3)])) (ee_lc (own := [("n", 3)]) (Mb := []) rfl sc__law_clean.nd (ei_seq (ee_name (j := 0) rfl (.inl rfl))) (BlkOk.of (by kernel_rfl)) (by decide) (fun _ _ _ _ _ => (pg_name (i := 3) sc__law_clean.nd rfl (.inl rfl))) (fun _ _ _ _ _ => (ets_one (ET.mono (ET.as ([] ++ []) (et_ne hu (ee_name (j := 3) rfl (.inl rfl)) ee_int)) (by decide)))) (fun _ _ _ _ _ => EE.mono (ee_name (j := 3) rfl (.inl rfl)) (by decide)))) ee_int))))
      (ss_c (SS.as [2] (ss_set (i := 2) sc__law_clean.nd rfl (.inr rfl) (EE.as _ (ee_call (io := io__law_common) ((ok__law_common C).mono (by decide)) hr rfl C.g__law_common C.F__law_common.kp (b__law_common C) (L2N.passAt (L2N.takes_of rfl rfl rfl rfl)) (ea_ex (ee_name (j := 0) rfl (.inl rfl)) ea_nil)))))
      (ss_c (ss_i (ET.as ([] ++ []) (et_ltX hu (ee_name (j := 1) rfl (.inl rfl)) ee_int)) (ss_c (SS.as [2] (ss_set (i := 2) sc__law_clean.nd rfl (.inr rfl) (EE.as ([] ++ []) (ee_sub ee_int (ee_name (j := 2) rfl (.inr (.inl rfl)))))))
      ss_n) ss_n)
      (ss_c (ss_ret (EE.as ([] ++ ([] ++ List.map (·.2) [("n", 3)])) (ee_lc (own := [("n", 3)]) (Mb := []) rfl sc__law_clean.nd (ei_seq (ee_name (j := 0) rfl (.inl rfl))) (BlkOk.of (by kernel_rfl)) (by decide) (fun _ _ _ _ _ => (pg_name (i := 3) sc__law_clean.nd rfl (.inl rfl))) (fun _ _ _ _ _ => ets_nil) (fun _ _ _ _ _ => EE.mono (EE.as ([] ++ []) (ee_divX (ee_name (j := 3) rfl (.inl rfl)) (ee_name (j := 2) rfl (.inr (.inl rfl))))) (by decide)))))
      ss_n))))
theorem sc__law_eliminated : FnScope ["columns", "base", "found", "j", "v", "made", "row", "places", "f", "g", "top", "k", "n"] ["columns"] (defScope s__law_eliminated) := ⟨rfl, rfl, rfl, by decide +kernel, rfl, by decide +kernel, by decide +kernel⟩
theorem b__law_eliminated (C : Cs K mg) : Binds K C.d__law_eliminated ["columns"] [] := C.F__law_eliminated.bindsN fun _ _ _ _ _ _ us hl => match us, hl with | [_], _ => rfl
theorem ok__law_eliminated (C : Cs K mg) : FnOk P w K mg base (L2N.CX P w) 3 C.f__law_eliminated C.d__law_eliminated ["columns"] (spOf K io__law_eliminated run__law_eliminated) := by
  refine def_ok (N := ["columns", "base", "found", "j", "v", "made", "row", "places", "f", "g", "top", "k", "n"]) (U := [0, 1, 2, 3, 4, 5, 6, 7, 8, 9, 10, 11, 12]) (m := m__law_eliminated) C.F__law_eliminated sc__law_eliminated rfl (ioU rfl) fun cdv A outer s H E hr => ?_
  have hu := Room.units hr
  exact (ss_c (SS.as [1] (ss_set (i := 1) sc__law_eliminated.nd rfl (.inl rfl) (EE.as _ (ee_lst ea_nil))))
      (ss_c (SS.as [2] (ss_set (i := 2) sc__law_eliminated.nd rfl (.inl rfl) (EE.as _ (ee_lst ea_nil))))
      (ss_c (ss_f (passes_of rfl) rfl (EI.as _ (ei_rg1 rfl C.n_range (ea_ex (EE.as _ (ee_len rfl C.n_len (ea_ex (ee_name (j := 0) rfl (.inl rfl)) ea_nil))) ea_nil))) (pg_name (i := 3) sc__law_eliminated.nd rfl (.inr rfl)) (ss_c (SS.as [4] (ss_set (i := 4) sc__law_eliminated.nd rfl (.inr rfl) (ee_cl (EE.as _ (ee_list rfl C.n_list (ea_ex (EE.as ([] ++ []) (ee_idx (ee_name (j := 0) rfl (.inl rfl)) (ee_name (j := 3) rfl (.inr (.inl rfl))))) ea_nil))))))
      (ss_c (SS.as [5] (ss_set (i := 5) sc__law_eliminated.nd rfl (.inr rfl) (EE.as ([] ++ ([] ++ List.map (·.2) [("k", 11)])) (ee_lc (own := [("k", 11)]) (Mb := []) rfl sc__law_eliminated.nd (EI.as _ (ei_rg1 rfl C.n_range (ea_ex (EE.as _ (ee_len rfl C.n_len (ea_ex (ee_name (j := 0) rfl (.inl rfl)) ea_nil))) ea_nil))) (BlkOk.of (by kernel_rfl)) (by decide) (fun _ _ _ _ _ => (pg_name (i := 11) sc__law_eliminated.nd rfl (.inl rfl))) (fun _ _ _ _ _ => ets_nil) (fun _ _ _ _ _ => EE.mono (EE.as _ (ee_int1 rfl C.n_int (ea_ex (EE.as ([] ++ []) (ee_eq hu (ee_name (j := 11) rfl (.inl rfl)) (ee_name (j := 3) rfl (.inr (.inl rfl))))) ea_nil))) (by decide))))))
      (ss_c (SS.as [0, 2, 3, 4, 5, 6, 7, 8, 9, 10, 11, 12] (ss_forO (j := 1) (U := [0, 2, 3, 4, 5, 6, 7, 8, 9, 10, 11, 12]) (passes_of rfl) rfl rfl (.inl rfl) (pg_name (i := 6) sc__law_eliminated.nd rfl (.inr rfl)) (ss_c (SS.as [8] (ss_set (i := 8) sc__law_eliminated.nd rfl (.inr rfl) (EE.as ([] ++ []) (ee_idx (ee_name (j := 4) rfl (.inr (.inl rfl))) (EE.as ([] ++ []) (ee_idx (ee_name (j := 6) rfl (.inr (.inl rfl))) ee_int))))))
      (ss_c (ss_i (ET.as ([] ++ []) (et_ne hu (ee_name (j := 8) rfl (.inr (.inl rfl))) ee_int)) (ss_c (SS.as [10] (ss_set (i := 10) sc__law_eliminated.nd rfl (.inr rfl) (EE.as ([] ++ []) (ee_idx (EE.as ([] ++ []) (ee_idx (ee_name (j := 6) rfl (.inr (.inl rfl))) ee_int)) (EE.as ([] ++ []) (ee_idx (ee_name (j := 6) rfl (.inr (.inl rfl))) ee_int))))))
      (ss_c (SS.as [4] (ss_set (i := 4) sc__law_eliminated.nd rfl (.inr rfl) (EE.as ([] ++ ([] ++ List.map (·.2) [("k", 11)])) (ee_lc (own := [("k", 11)]) (Mb := []) rfl sc__law_eliminated.nd (EI.as _ (ei_rg1 rfl C.n_range (ea_ex (EE.as _ (ee_len rfl C.n_len (ea_ex (ee_name (j := 4) rfl (.inr (.inl rfl))) ea_nil))) ea_nil))) (BlkOk.of (by kernel_rfl)) (by decide) (fun _ _ _ _ _ => (pg_name (i := 11) sc__law_eliminated.nd rfl (.inl rfl))) (fun _ _ _ _ _ => ets_nil) (fun _ _ _ _ _ => EE.mono (EE.as ([] ++ []) (ee_sub (EE.as ([] ++ []) (ee_mul (EE.as ([] ++ []) (ee_idx (ee_name (j := 4) rfl (.inr (.inl rfl))) (ee_name (j := 11) rfl (.inl rfl)))) (ee_name (j := 10) rfl (.inr (.inl rfl))))) (EE.as ([] ++ []) (ee_mul (EE.as ([] ++ []) (ee_idx (EE.as ([] ++ []) (ee_idx (ee_name (j := 6) rfl (.inr (.inl rfl))) ee_int)) (ee_name (j := 11) rfl (.inl rfl)))) (ee_name (j := 8) rfl (.inr (.inl rfl))))))) (by decide))))))
      (ss_c (SS.as [5] (ss_set (i := 5) sc__law_eliminated.nd rfl (.inr rfl) (EE.as ([] ++ ([] ++ List.map (·.2) [("k", 11)])) (ee_lc (own := [("k", 11)]) (Mb := []) rfl sc__law_eliminated.nd (EI.as _ (ei_rg1 rfl C.n_range (ea_ex (EE.as _ (ee_len rfl C.n_len (ea_ex (ee_name (j := 5) rfl (.inr (.inl rfl))) ea_nil))) ea_nil))) (BlkOk.of (by kernel_rfl)) (by decide) (fun _ _ _ _ _ => (pg_name (i := 11) sc__law_eliminated.nd rfl (.inl rfl))) (fun _ _ _ _ _ => ets_nil) (fun _ _ _ _ _ => EE.mono (EE.as ([] ++ []) (ee_sub (EE.as ([] ++ []) (ee_mul (EE.as ([] ++ []) (ee_idx (ee_name (j := 5) rfl (.inr (.inl rfl))) (ee_name (j := 11) rfl (.inl rfl)))) (ee_name (j := 10) rfl (.inr (.inl rfl))))) (EE.as ([] ++ []) (ee_mul (EE.as ([] ++ []) (ee_idx (EE.as ([] ++ []) (ee_idx (ee_name (j := 6) rfl (.inr (.inl rfl))) ee_int)) (ee_name (j := 11) rfl (.inl rfl)))) (ee_name (j := 8) rfl (.inr (.inl rfl))))))) (by decide))))))
      ss_n))) ss_n)
      ss_n)) (by decide) (by decide)))
      (ss_c (SS.as [7] (ss_setLc (U := []) (own := [("k", 11)]) (Mb := []) rfl sc__law_eliminated.nd rfl rfl rfl (EI.as _ (ei_rg1 rfl C.n_range (ea_ex (EE.as _ (ee_len rfl C.n_len (ea_ex (ee_name (j := 4) rfl (.inr (.inl rfl))) ea_nil))) ea_nil))) (BlkOk.of (by kernel_rfl)) (by decide) (fun _ _ _ _ _ => (pg_name (i := 11) sc__law_eliminated.nd rfl (.inl rfl))) (fun _ _ _ _ _ => (ets_one (ET.mono (ET.as ([] ++ []) (et_ne hu (EE.as ([] ++ []) (ee_idx (ee_name (j := 4) rfl (.inr (.inl rfl))) (ee_name (j := 11) rfl (.inl rfl)))) ee_int)) (by decide)))) (fun _ _ _ _ _ => EE.mono (ee_name (j := 11) rfl (.inl rfl)) (by decide))))
      (ss_c (ss_i (et_tru (fun _ => rfl) (ee_name (j := 7) rfl (.inl rfl))) (ss_c (SS.as [9] (ss_set (i := 9) sc__law_eliminated.nd rfl (.inr rfl) (EE.as _ (ee_call (io := io__law_common) ((ok__law_common C).mono (by decide)) hr rfl C.g__law_common C.F__law_common.kp (b__law_common C) (L2N.passAt (L2N.takes_of rfl rfl rfl rfl)) (ea_ex (EE.as ([] ++ []) (ee_add (ee_name (j := 4) rfl (.inr (.inl rfl))) (ee_name (j := 5) rfl (.inr (.inl rfl))))) ea_nil)))))
      (ss_c (ss_app (j := 1) rfl (.inl rfl) (ea_ex (EE.as _ (ee_tup (ea_ex (EE.as ([] ++ ([] ++ List.map (·.2) [("n", 12)])) (ee_lc (own := [("n", 12)]) (Mb := []) rfl sc__law_eliminated.nd (ei_seq (ee_name (j := 4) rfl (.inr (.inl rfl)))) (BlkOk.of (by kernel_rfl)) (by decide) (fun _ _ _ _ _ => (pg_name (i := 12) sc__law_eliminated.nd rfl (.inl rfl))) (fun _ _ _ _ _ => ets_nil) (fun _ _ _ _ _ => EE.mono (EE.as ([] ++ []) (ee_div (ee_name (j := 12) rfl (.inl rfl)) (ee_name (j := 9) rfl (.inr (.inl rfl))))) (by decide)))) (ea_ex (EE.as ([] ++ []) (ee_idx (ee_name (j := 7) rfl (.inl rfl)) ee_int)) (ea_ex (EE.as ([] ++ ([] ++ List.map (·.2) [("n", 12)])) (ee_lc (own := [("n", 12)]) (Mb := []) rfl sc__law_eliminated.nd (ei_seq (ee_name (j := 5) rfl (.inr (.inl rfl)))) (BlkOk.of (by kernel_rfl)) (by decide) (fun _ _ _ _ _ => (pg_name (i := 12) sc__law_eliminated.nd rfl (.inl rfl))) (fun _ _ _ _ _ => ets_nil) (fun _ _ _ _ _ => EE.mono (EE.as ([] ++ []) (ee_div (ee_name (j := 12) rfl (.inl rfl)) (ee_name (j := 9) rfl (.inr (.inl rfl))))) (by decide)))) ea_nil))))) ea_nil))
      ss_n)) (ss_c (ss_app (j := 2) rfl (.inl rfl) (ea_ex (EE.as _ (ee_call (io := io__law_clean) ((ok__law_clean C).mono (by decide)) hr rfl C.g__law_clean C.F__law_clean.kp (b__law_clean C) (L2N.passAt (L2N.takes_of rfl rfl rfl rfl)) (ea_ex (ee_name (j := 5) rfl (.inr (.inl rfl))) ea_nil))) ea_nil))
      ss_n))
      ss_n))))) (by decide))
      (ss_c (ss_ret (EE.as _ (ee_tup (ea_ex (EE.as _ (ee_len rfl C.n_len (ea_ex (ee_name (j := 1) rfl (.inl rfl)) ea_nil))) (ea_ex (ee_name (j := 2) rfl (.inl rfl)) ea_nil)))))
      ss_n))))
theorem sc__law_try : FnScope ["door", "columns", "numbers", "e"] ["door", "columns", "numbers"] (defScope s__law_try) := ⟨rfl, rfl, rfl, by decide +kernel, rfl, by decide +kernel, by decide +kernel⟩
theorem b__law_try (C : Cs K mg) : Binds K C.d__law_try ["door", "columns", "numbers"] [] := C.F__law_try.bindsN fun _ _ _ _ _ _ us hl => match us, hl with | [_, _, _], _ => rfl
theorem ok__law_try (C : Cs K mg) : FnOk P w K mg base (L2N.CX P w) 6 C.f__law_try C.d__law_try ["door", "columns", "numbers"] (spOf K io__law_try run__law_try) := by
  refine def_ok (N := ["door", "columns", "numbers", "e"]) (U := [0, 1, 2, 3]) (m := m__law_try) C.F__law_try sc__law_try rfl (ioU rfl) fun cdv A outer s H E hr => ?_
  have hu := Room.units hr
  exact (ss_c (SS.as (3 :: [0, 1, 2, 3]) (ss_try (i := 3) rfl rfl sc__law_try.nd rfl rfl rfl (by decide) C.gx_QuayError (L2N.takes_of rfl rfl rfl rfl) C.ht_QuayError (fun W pn xe tk po => (ss_c (ss_i (ET.as ([] ++ []) (et_eq hu (ee_name (j := 0) rfl (.inl rfl)) ee_int)) (ss_c (ss_ret (EE.as _ (ee_tup2 (ea_ex ee_str (ea_ex (EE.as _ (ee_call (io := io_dependence) ((ok_dependence C).mono (by decide)) hr rfl C.g_dependence C.F_dependence.kp (b_dependence C) (L2N.passAt tk) (ea_ex (ee_name (j := 1) rfl (.inl rfl)) ea_nil))) ea_nil)))))
      ss_n) ss_n)
      (ss_c (ss_i (ET.as ([] ++ []) (et_eq hu (ee_name (j := 0) rfl (.inl rfl)) ee_int)) (ss_c (ss_ret (EE.as _ (ee_tup (ea_ex ee_str (ea_ex (EE.as _ (ee_call (io := io_is_dependence) ((ok_is_dependence C).mono (by decide)) hr rfl C.g_is_dependence C.F_is_dependence.kp (b_is_dependence C) (L2N.passAt tk) (ea_ex (ee_name (j := 1) rfl (.inl rfl)) (ea_ex (ee_name (j := 2) rfl (.inl rfl)) ea_nil)))) ea_nil)))))
      ss_n) ss_n)
      (ss_c (ss_ret (EE.as _ (ee_tup (ea_ex ee_str (ea_ex (EE.as _ (ee_call (io := io_rank) ((ok_rank C).mono (by decide)) hr rfl C.g_rank C.F_rank.kp (b_rank C) (L2N.passAt tk) (ea_ex (ee_name (j := 1) rfl (.inl rfl)) ea_nil))) ea_nil)))))
      ss_n)))) (fun a oe x d pn hz hd hv => (ss_c (ss_i (et_tru (fun _ => rfl) (EE.as _ (ee_callX (io := io__law_bad_counts) (ok__law_bad_counts C) (L2H.RoomH.mono (roomHM hr) (by decide)) rfl List.mem_cons_self ⟨hz, hd, hv⟩ rfl C.g__law_bad_counts C.F__law_bad_counts.kp (b__law_bad_counts C) passW0 (ea_ex (ee_name (j := 3) rfl (.inl rfl)) ea_nil)))) (ss_c (ss_ret (EE.as _ (ee_tup (ea_ex ee_str ea_nil))))
      ss_n) ss_n)
      (ss_c (ss_ret (EE.as _ (ee_tup (ea_ex ee_str ea_nil))))
      ss_n)))))
      ss_n)
theorem sc__law_lists_of : FnScope ["store", "columns", "right", "many", "rows", "one", "z", "more", "both", "at", "to", "k", "n"] ["store", "columns", "right"] (defScope s__law_lists_of) := ⟨rfl, rfl, rfl, by decide +kernel, rfl, by decide +kernel, by decide +kernel⟩
theorem b__law_lists_of (C : Cs K mg) : Binds K C.d__law_lists_of ["store", "columns", "right"] [] := C.F__law_lists_of.bindsN fun _ _ _ _ _ _ us hl => match us, hl with | [_, _, _], _ => rfl
theorem ok__law_lists_of (C : Cs K mg) : FnOk P w K mg base (L2N.CX P w) 4 C.f__law_lists_of C.d__law_lists_of ["store", "columns", "right"] (spOf K io__law_lists_of run__law_lists_of) := by
  refine def_ok (N := ["store", "columns", "right", "many", "rows", "one", "z", "more", "both", "at", "to", "k", "n"]) (U := [1, 2, 3, 4, 5, 6, 7, 8, 9, 10, 11, 12]) (m := m__law_lists_of) C.F__law_lists_of sc__law_lists_of rfl (ioU rfl) fun cdv A outer s H E hr => ?_
  exact (ss_c (SS.as [3] (ss_set (i := 3) sc__law_lists_of.nd rfl (.inl rfl) (EE.as _ (ee_len rfl C.n_len (ea_ex (ee_name (j := 1) rfl (.inl rfl)) ea_nil)))))
      (ss_c (SS.as [4] (ss_set (i := 4) sc__law_lists_of.nd rfl (.inl rfl) (EE.as _ (ee_lst (ea_ex (EE.as ([] ++ ([] ++ List.map (·.2) [("k", 11)])) (ee_lc (own := [("k", 11)]) (Mb := []) rfl sc__law_lists_of.nd (EI.as _ (ei_rg1 rfl C.n_range (ea_ex (ee_name (j := 3) rfl (.inl rfl)) ea_nil))) (BlkOk.of (by kernel_rfl)) (by decide) (fun _ _ _ _ _ => (pg_name (i := 11) sc__law_lists_of.nd rfl (.inl rfl))) (fun _ _ _ _ _ => ets_nil) (fun _ _ _ _ _ => EE.mono ee_int (by decide)))) (ea_ex (EE.as ([] ++ ([] ++ List.map (·.2) [("k", 11)])) (ee_lc (own := [("k", 11)]) (Mb := []) rfl sc__law_lists_of.nd (EI.as _ (ei_rg1 rfl C.n_range (ea_ex (ee_name (j := 3) rfl (.inl rfl)) ea_nil))) (BlkOk.of (by kernel_rfl)) (by decide) (fun _ _ _ _ _ => (pg_name (i := 11) sc__law_lists_of.nd rfl (.inl rfl))) (fun _ _ _ _ _ => ets_nil) (fun _ _ _ _ _ => EE.mono ee_int (by decide)))) (ea_ex (EE.as _ (ee_lst ea_nil)) (ea_ex (EE.as _ (ee_lst (ea_ex ee_int ea_nil))) ea_nil))))))))
      (ss_c (ss_i (et_tru (fun _ => rfl) (ee_name (j := 2) rfl (.inl rfl))) (ss_c (SS.as [5] (ss_set (i := 5) sc__law_lists_of.nd rfl (.inr rfl) (EE.as _ (ee_call (io := io__law_pick) ((ok__law_pick C).mono (by decide)) hr rfl C.g__law_pick C.F__law_pick.kp (b__law_pick C) (L2N.passAt (L2N.takes_of rfl rfl rfl rfl)) (ea_io (j := 0) rfl (.inl rfl) (ea_ex (ee_name (j := 2) rfl (.inl rfl)) ea_nil))))))
      (ss_c (SS.as [6] (ss_set (i := 6) sc__law_lists_of.nd rfl (.inr rfl) (EE.as ([] ++ [0]) (ee_idx (EE.as _ (ee_lst (ea_ex ee_int (ea_ex (EE.as [] (ee_neg ee_int)) (ea_ex ee_int (ea_ex ee_int ea_nil)))))) (EE.as _ (ee_call (io := io__law_take) ((ok__law_take C).mono (by decide)) hr rfl C.g__law_take C.F__law_take.kp (b__law_take C) (L2N.passAt (L2N.takes_of rfl rfl rfl rfl)) (ea_io (j := 0) rfl (.inl rfl) (ea_ex ee_int ea_nil))))))))
      (ss_c (SS.as [7] (ss_set (i := 7) sc__law_lists_of.nd rfl (.inr rfl) (EE.as _ (ee_call (io := io__law_pick) ((ok__law_pick C).mono (by decide)) hr rfl C.g__law_pick C.F__law_pick.kp (b__law_pick C) (L2N.passAt (L2N.takes_of rfl rfl rfl rfl)) (ea_io (j := 0) rfl (.inl rfl) (ea_ex (ee_name (j := 2) rfl (.inl rfl)) ea_nil))))))
      (ss_c (SS.as [8] (ss_setLc (U := []) (own := [("k", 11)]) (Mb := []) rfl sc__law_lists_of.nd rfl rfl rfl (EI.as _ (ei_rg1 rfl C.n_range (ea_ex (ee_name (j := 3) rfl (.inl rfl)) ea_nil))) (BlkOk.of (by kernel_rfl)) (by decide) (fun _ _ _ _ _ => (pg_name (i := 11) sc__law_lists_of.nd rfl (.inl rfl))) (fun _ _ _ _ _ => ets_nil) (fun _ _ _ _ _ => EE.mono (EE.as ([] ++ []) (ee_add (EE.as ([] ++ []) (ee_idx (ee_name (j := 5) rfl (.inr (.inl rfl))) (ee_name (j := 11) rfl (.inl rfl)))) (EE.as ([] ++ []) (ee_mul (ee_name (j := 6) rfl (.inr (.inl rfl))) (EE.as ([] ++ []) (ee_idx (ee_name (j := 7) rfl (.inr (.inl rfl))) (ee_name (j := 11) rfl (.inl rfl)))))))) (by decide))))
      (ss_c (ss_i (ET.as ([] ++ []) (et_gt (EE.as _ (ee_call (io := io__law_common) ((ok__law_common C).mono (by decide)) hr rfl C.g__law_common C.F__law_common.kp (b__law_common C) (L2N.passAt (L2N.takes_of rfl rfl rfl rfl)) (ea_ex (ee_name (j := 8) rfl (.inl rfl)) ea_nil))) ee_int)) (ss_c (ss_app (j := 4) rfl (.inl rfl) (ea_ex (EE.as _ (ee_call (io := io__law_clean) ((ok__law_clean C).mono (by decide)) hr rfl C.g__law_clean C.F__law_clean.kp (b__law_clean C) (L2N.passAt (L2N.takes_of rfl rfl rfl rfl)) (ea_ex (ee_name (j := 8) rfl (.inl rfl)) ea_nil))) ea_nil))
      (ss_c (SS.as [5] (ss_set (i := 5) sc__law_lists_of.nd rfl (.inr rfl) (EE.as ([] ++ [0]) (ee_idx (EE.as _ (ee_lst (ea_ex (ee_name (j := 5) rfl (.inr (.inl rfl))) (ea_ex (EE.as ([] ++ []) (ee_idx (ee_name (j := 4) rfl (.inl rfl)) (EE.as [] (ee_neg ee_int)))) ea_nil)))) (EE.as _ (ee_call (io := io__law_take) ((ok__law_take C).mono (by decide)) hr rfl C.g__law_take C.F__law_take.kp (b__law_take C) (L2N.passAt (L2N.takes_of rfl rfl rfl rfl)) (ea_io (j := 0) rfl (.inl rfl) (ea_ex ee_int ea_nil))))))))
      ss_n)) ss_n)
      (ss_c (SS.as [9] (ss_set (i := 9) sc__law_lists_of.nd rfl (.inl rfl) (EE.as _ (ee_call (io := io__law_take) ((ok__law_take C).mono (by decide)) hr rfl C.g__law_take C.F__law_take.kp (b__law_take C) (L2N.passAt (L2N.takes_of rfl rfl rfl rfl)) (ea_io (j := 0) rfl (.inl rfl) (ea_ex (ee_name (j := 3) rfl (.inl rfl)) ea_nil))))))
      (ss_c (SS.as [10] (ss_set (i := 10) sc__law_lists_of.nd rfl (.inl rfl) (EE.as _ (ee_call (io := io__law_take) ((ok__law_take C).mono (by decide)) hr rfl C.g__law_take C.F__law_take.kp (b__law_take C) (L2N.passAt (L2N.takes_of rfl rfl rfl rfl)) (ea_io (j := 0) rfl (.inl rfl) (ea_ex (ee_name (j := 3) rfl (.inl rfl)) ea_nil))))))
      (ss_c (SS.as [4] (ss_set (i := 4) sc__law_lists_of.nd rfl (.inl rfl) (EE.as ([] ++ []) (ee_add (ee_name (j := 4) rfl (.inl rfl)) (EE.as _ (ee_lst (ea_ex (ee_name (j := 5) rfl (.inr (.inl rfl))) (ea_ex (EE.as _ (ee_call (io := io__law_put) ((ok__law_put C).mono (by decide)) hr rfl C.g__law_put C.F__law_put.kp (b__law_put C) (L2N.passAt (L2N.takes_of rfl rfl rfl rfl)) (ea_ex (ee_name (j := 5) rfl (.inr (.inl rfl))) (ea_ex (ee_name (j := 9) rfl (.inl rfl)) (ea_ex (EE.as ([] ++ []) (ee_add (EE.as ([] ++ []) (ee_idx (ee_name (j := 5) rfl (.inr (.inl rfl))) (ee_name (j := 9) rfl (.inl rfl)))) ee_int)) ea_nil))))) (ea_ex (EE.as _ (ee_call (io := io__law_put) ((ok__law_put C).mono (by decide)) hr rfl C.g__law_put C.F__law_put.kp (b__law_put C) (L2N.passAt (L2N.takes_of rfl rfl rfl rfl)) (ea_ex (ee_name (j := 5) rfl (.inr (.inl rfl))) (ea_ex (ee_name (j := 9) rfl (.inl rfl)) (ea_ex (EE.as ([] ++ []) (ee_sub (EE.as ([] ++ []) (ee_idx (ee_name (j := 5) rfl (.inr (.inl rfl))) (ee_name (j := 9) rfl (.inl rfl)))) ee_int)) ea_nil))))) (ea_ex (EE.as _ (ee_call (io := io__law_put) ((ok__law_put C).mono (by decide)) hr rfl C.g__law_put C.F__law_put.kp (b__law_put C) (L2N.passAt (L2N.takes_of rfl rfl rfl rfl)) (ea_ex (ee_name (j := 5) rfl (.inr (.inl rfl))) (ea_ex (ee_name (j := 9) rfl (.inl rfl)) (ea_ex ee_int ea_nil))))) ea_nil))))))))))
      (ss_c (SS.as [4] (ss_set (i := 4) sc__law_lists_of.nd rfl (.inl rfl) (EE.as ([] ++ [12, 12, 12]) (ee_add (ee_name (j := 4) rfl (.inl rfl)) (EE.as _ (ee_lst (ea_ex (EE.as ([] ++ ([] ++ List.map (·.2) [("n", 12)])) (ee_lc (own := [("n", 12)]) (Mb := []) rfl sc__law_lists_of.nd (ei_seq (ee_name (j := 5) rfl (.inr (.inl rfl)))) (BlkOk.of (by kernel_rfl)) (by decide) (fun _ _ _ _ _ => (pg_name (i := 12) sc__law_lists_of.nd rfl (.inl rfl))) (fun _ _ _ _ _ => ets_nil) (fun _ _ _ _ _ => EE.mono (EE.as ([] ++ []) (ee_mul (ee_name (j := 12) rfl (.inl rfl)) ee_int)) (by decide)))) (ea_ex (EE.as ([] ++ ([] ++ List.map (·.2) [("n", 12)])) (ee_lc (own := [("n", 12)]) (Mb := []) rfl sc__law_lists_of.nd (ei_seq (ee_name (j := 5) rfl (.inr (.inl rfl)))) (BlkOk.of (by kernel_rfl)) (by decide) (fun _ _ _ _ _ => (pg_name (i := 12) sc__law_lists_of.nd rfl (.inl rfl))) (fun _ _ _ _ _ => ets_nil) (fun _ _ _ _ _ => EE.mono (EE.as ([] ++ []) (ee_mul (ee_name (j := 12) rfl (.inl rfl)) (EE.as ([] ++ []) (ee_pow ee_int ee_int)))) (by decide)))) (ea_ex (EE.as ([] ++ ([] ++ List.map (·.2) [("n", 12)])) (ee_lc (own := [("n", 12)]) (Mb := []) rfl sc__law_lists_of.nd (ei_seq (ee_name (j := 5) rfl (.inr (.inl rfl)))) (BlkOk.of (by kernel_rfl)) (by decide) (fun _ _ _ _ _ => (pg_name (i := 12) sc__law_lists_of.nd rfl (.inl rfl))) (fun _ _ _ _ _ => ets_nil) (fun _ _ _ _ _ => EE.mono (EE.as ([] ++ []) (ee_sub ee_int (ee_name (j := 12) rfl (.inl rfl)))) (by decide)))) (ea_ex (EE.as ([] ++ []) (ee_add (ee_name (j := 5) rfl (.inr (.inl rfl))) (EE.as _ (ee_lst (ea_ex ee_int ea_nil))))) (ea_ex (ee_cl (EE.as _ (ee_slH (ee_name (j := 5) rfl (.inr (.inl rfl))) (EE.as [] (ee_neg ee_int))))) ea_nil)))))))))))
      (ss_c (ss_app (j := 4) rfl (.inl rfl) (ea_ex (EE.as _ (ee_call (io := io__law_put) ((ok__law_put C).mono (by decide)) hr rfl C.g__law_put C.F__law_put.kp (b__law_put C) (L2N.passAt (L2N.takes_of rfl rfl rfl rfl)) (ea_ex (EE.as _ (ee_call (io := io__law_put) ((ok__law_put C).mono (by decide)) hr rfl C.g__law_put C.F__law_put.kp (b__law_put C) (L2N.passAt (L2N.takes_of rfl rfl rfl rfl)) (ea_ex (ee_name (j := 5) rfl (.inr (.inl rfl))) (ea_ex (ee_name (j := 9) rfl (.inl rfl)) (ea_ex (EE.as ([] ++ []) (ee_idx (ee_name (j := 5) rfl (.inr (.inl rfl))) (ee_name (j := 10) rfl (.inl rfl)))) ea_nil))))) (ea_ex (ee_name (j := 10) rfl (.inl rfl)) (ea_ex (EE.as ([] ++ []) (ee_idx (ee_name (j := 5) rfl (.inr (.inl rfl))) (ee_name (j := 9) rfl (.inl rfl)))) ea_nil))))) ea_nil))
      (ss_c (ss_app (j := 4) rfl (.inl rfl) (ea_ex (EE.as ([] ++ []) (ee_add (ee_cl (EE.as _ (ee_slL (ee_name (j := 5) rfl (.inr (.inl rfl))) ee_int))) (ee_cl (EE.as _ (ee_slH (ee_name (j := 5) rfl (.inr (.inl rfl))) ee_int))))) ea_nil))
      ss_n))))))))))) ss_n)
      (ss_c (ss_retV (j := 4) rfl (.inl rfl))
      ss_n))))
theorem sc__law_columns_right : FnScope ["store", "columns", "told", "right", "passed", "answer", "numbers", "spoilt", "kept", "again", "due", "row"] ["store", "columns"] (defScope s__law_columns_right) := ⟨rfl, rfl, rfl, by decide +kernel, rfl, by decide +kernel, by decide +kernel⟩
theorem b__law_columns_right (C : Cs K mg) : Binds K C.d__law_columns_right ["store", "columns"] [] := C.F__law_columns_right.bindsN fun _ _ _ _ _ _ us hl => match us, hl with | [_, _], _ => rfl
theorem ok__law_columns_right (C : Cs K mg) : FnOk P w K mg base (L2N.CX P w) 7 C.f__law_columns_right C.d__law_columns_right ["store", "columns"] (spOf K io__law_columns_right run__law_columns_right) := by
  refine def_ok (N := ["store", "columns", "told", "right", "passed", "answer", "numbers", "spoilt", "kept", "again", "due", "row"]) (U := [1, 2, 3, 4, 5, 6, 7, 8, 9, 10, 11]) (m := m__law_columns_right) C.F__law_columns_right sc__law_columns_right rfl (ioU rfl) fun cdv A outer s H E hr => ?_
  have hu := Room.units hr
  exact (ss_c (SS.as [2] (ss_set (i := 2) sc__law_columns_right.nd rfl (.inl rfl) (EE.as _ (ee_call (io := io__law_eliminated) ((ok__law_eliminated C).mono (by decide)) hr rfl C.g__law_eliminated C.F__law_eliminated.kp (b__law_eliminated C) (L2N.passAt (L2N.takes_of rfl rfl rfl rfl)) (ea_ex (ee_name (j := 1) rfl (.inl rfl)) ea_nil)))))
      (ss_c (SS.as [3] (ss_set (i := 3) sc__law_columns_right.nd rfl (.inl rfl) (ee_cl (EE.as _ (ee_list rfl C.n_list (ea_ex (EE.as ([] ++ []) (ee_idx (ee_name (j := 2) rfl (.inl rfl)) ee_int)) ea_nil))))))
      (ss_c (SS.as [4] (ss_set (i := 4) sc__law_columns_right.nd rfl (.inl rfl) (ee_cl (EE.as _ (ee_list rfl C.n_list (ea_ex (ee_name (j := 1) rfl (.inl rfl)) ea_nil))))))
      (ss_c (ss_i (ET.as [] (et_not (et_tru (fun _ => rfl) (EE.as _ (ee_call (io := io__law_same) ((ok__law_same C 4).mono (by decide)) hr rfl C.g__law_same C.F__law_same.kp (b__law_same C) (L2N.passAt (L2N.takes_of rfl rfl rfl rfl)) (ea_ex (EE.as _ (ee_call (io := io__law_try) ((ok__law_try C).mono (by decide)) hr rfl C.g__law_try C.F__law_try.kp (b__law_try C) (L2N.passAt (L2N.takes_of rfl rfl rfl rfl)) (ea_ex ee_int (ea_ex (ee_name (j := 4) rfl (.inl rfl)) (ea_ex (EE.as _ (ee_lst ea_nil)) ea_nil))))) (ea_ex (EE.as _ (ee_tup (ea_ex ee_str (ea_ex (EE.as ([] ++ []) (ee_idx (ee_name (j := 2) rfl (.inl rfl)) ee_int)) ea_nil)))) ea_nil))))))) (ss_c (ss_ret ee_bl)
      ss_n) ss_n)
      (ss_c (SS.as [5] (ss_set (i := 5) sc__law_columns_right.nd rfl (.inl rfl) (EE.as _ (ee_call (io := io__law_try) ((ok__law_try C).mono (by decide)) hr rfl C.g__law_try C.F__law_try.kp (b__law_try C) (L2N.passAt (L2N.takes_of rfl rfl rfl rfl)) (ea_ex ee_int (ea_ex (ee_name (j := 4) rfl (.inl rfl)) (ea_ex (EE.as _ (ee_lst ea_nil)) ea_nil)))))))
      (ss_c (ss_i (ew_pt (EW.as ([] ++ []) (ew_or (ET.as [] (et_not (et_tru (fun _ => rfl) (ee_name (j := 1) rfl (.inl rfl))))) (ew_or1 (ET.as ([] ++ []) (et_le (EE.as _ (ee_len rfl C.n_len (ea_ex (ee_name (j := 1) rfl (.inl rfl)) ea_nil))) (EE.as _ (ee_len rfl C.n_len (ea_ex (EE.as ([] ++ []) (ee_idx (ee_name (j := 1) rfl (.inl rfl)) ee_int)) ea_nil))))))))) (ss_c (ss_i (ET.as ([] ++ []) (et_ne hu (ee_name (j := 5) rfl (.inl rfl)) (EE.as _ (ee_tup (ea_ex ee_str ea_nil))))) (ss_c (ss_ret ee_bl)
      ss_n) ss_n)
      ss_n) (ss_c (ss_i (ew_pt (EW.as ([] ++ []) (ew_or (ET.as ([] ++ []) (et_ne hu (EE.as ([] ++ []) (ee_idx (ee_name (j := 5) rfl (.inl rfl)) ee_int)) ee_str)) (ew_or1 (ET.as [] (et_not (et_tru (fun _ => rfl) (EE.as _ (ee_call (io := io__law_depends) ((ok__law_depends C).mono (by decide)) hr rfl C.g__law_depends C.F__law_depends.kp (b__law_depends C) (L2N.passAt (L2N.takes_of rfl rfl rfl rfl)) (ea_ex (ee_name (j := 1) rfl (.inl rfl)) (ea_ex (EE.as ([] ++ []) (ee_idx (ee_name (j := 5) rfl (.inl rfl)) ee_int)) ea_nil))))))))))) (ss_c (ss_ret ee_bl)
      ss_n) ss_n)
      (ss_c (SS.as [7] (ss_set (i := 7) sc__law_columns_right.nd rfl (.inl rfl) (EE.as [5] (ee_ix2 (k := 1) rfl (ee_mv (j := 5) rfl (.inl rfl))))))
      (ss_c (SS.as [8] (ss_set (i := 8) sc__law_columns_right.nd rfl (.inl rfl) (ee_cl (EE.as _ (ee_list rfl C.n_list (ea_ex (ee_name (j := 7) rfl (.inl rfl)) ea_nil))))))
      (ss_c (SS.as [3] (ss_set (i := 3) sc__law_columns_right.nd rfl (.inl rfl) (EE.as ([] ++ []) (ee_add (EE.as _ (ee_lst (ea_ex (ee_name (j := 8) rfl (.inl rfl)) ea_nil))) (ee_name (j := 3) rfl (.inl rfl))))))
      (ss_c (ss_app (j := 7) rfl (.inl rfl) (ea_ex ee_non ea_nil))
      (ss_c (SS.as [9] (ss_set (i := 9) sc__law_columns_right.nd rfl (.inl rfl) (EE.as _ (ee_call (io := io__law_try) ((ok__law_try C).mono (by decide)) hr rfl C.g__law_try C.F__law_try.kp (b__law_try C) (L2N.passAt (L2N.takes_of rfl rfl rfl rfl)) (ea_ex ee_int (ea_ex (ee_name (j := 4) rfl (.inl rfl)) (ea_ex (EE.as _ (ee_lst ea_nil)) ea_nil)))))))
      (ss_c (ss_i (ET.as [] (et_not (et_tru (fun _ => rfl) (EE.as _ (ee_call (io := io__law_same) ((ok__law_same C 4).mono (by decide)) hr rfl C.g__law_same C.F__law_same.kp (b__law_same C) (L2N.passAt (L2N.takes_of rfl rfl rfl rfl)) (ea_ex (ee_name (j := 9) rfl (.inl rfl)) (ea_ex (EE.as _ (ee_tup (ea_ex ee_str (ea_ex (ee_name (j := 8) rfl (.inl rfl)) ea_nil)))) ea_nil))))))) (ss_c (ss_ret ee_bl)
      ss_n) ss_n)
      ss_n))))))))
      (ss_c (ss_f (passes_of rfl) rfl (ei_seq (EE.as ([0] ++ []) (ee_add (EE.as _ (ee_call (io := io__law_lists_of) ((ok__law_lists_of C).mono (by decide)) hr rfl C.g__law_lists_of C.F__law_lists_of.kp (b__law_lists_of C) (L2N.passAt (L2N.takes_of rfl rfl rfl rfl)) (ea_io (j := 0) rfl (.inl rfl) (ea_ex (ee_name (j := 1) rfl (.inl rfl)) (ea_ex (EE.as ([] ++ []) (ee_idx (ee_name (j := 2) rfl (.inl rfl)) ee_int)) ea_nil))))) (ee_cl (EE.as _ (ee_slH (ee_name (j := 3) rfl (.inl rfl)) ee_int)))))) (pg_name (i := 6) sc__law_columns_right.nd rfl (.inl rfl)) (ss_c (SS.as [10] (ss_set (i := 10) sc__law_columns_right.nd rfl (.inl rfl) (EE.as ([] ++ []) (ee_and (EE.as ([] ++ []) (ee_gt (EE.as _ (ee_len rfl C.n_len (ea_ex (ee_name (j := 1) rfl (.inl rfl)) ea_nil))) ee_int)) (ee_one (EE.as _ (ee_call (io := io__law_depends) ((ok__law_depends C).mono (by decide)) hr rfl C.g__law_depends C.F__law_depends.kp (b__law_depends C) (L2N.passAt (L2N.takes_of rfl rfl rfl rfl)) (ea_ex (ee_name (j := 1) rfl (.inl rfl)) (ea_ex (ee_name (j := 6) rfl (.inl rfl)) ea_nil)))))))))
      (ss_c (SS.as [11] (ss_set (i := 11) sc__law_columns_right.nd rfl (.inl rfl) (ee_cl (EE.as _ (ee_list rfl C.n_list (ea_ex (ee_name (j := 6) rfl (.inl rfl)) ea_nil))))))
      (ss_c (ss_i (ew_pt (EW.as ([] ++ []) (ew_or (ET.as [] (et_not (et_tru (fun _ => rfl) (EE.as _ (ee_call (io := io__law_same) ((ok__law_same C 4).mono (by decide)) hr rfl C.g__law_same C.F__law_same.kp (b__law_same C) (L2N.passAt (L2N.takes_of rfl rfl rfl rfl)) (ea_ex (EE.as _ (ee_call (io := io__law_try) ((ok__law_try C).mono (by decide)) hr rfl C.g__law_try C.F__law_try.kp (b__law_try C) (L2N.passAt (L2N.takes_of rfl rfl rfl rfl)) (ea_ex ee_int (ea_ex (ee_name (j := 4) rfl (.inl rfl)) (ea_ex (ee_name (j := 11) rfl (.inl rfl)) ea_nil))))) (ea_ex (EE.as _ (ee_tup (ea_ex ee_str (ea_ex (ee_name (j := 10) rfl (.inl rfl)) ea_nil)))) ea_nil))))))) (ew_or1 (ET.as [] (et_not (et_tru (fun _ => rfl) (EE.as _ (ee_call (io := io__law_same) ((ok__law_same C 4).mono (by decide)) hr rfl C.g__law_same C.F__law_same.kp (b__law_same C) (L2N.passAt (L2N.takes_of rfl rfl rfl rfl)) (ea_ex (ee_name (j := 11) rfl (.inl rfl)) (ea_ex (ee_name (j := 6) rfl (.inl rfl)) ea_nil))))))))))) (ss_c (ss_ret ee_bl)
      ss_n) ss_n)
      ss_n))) (by decide))
      (ss_c (ss_ret (EE.as _ (ee_call (io := io__law_same) ((ok__law_same C 4).mono (by decide)) hr rfl C.g__law_same C.F__law_same.kp (b__law_same C) (L2N.passAt (L2N.takes_of rfl rfl rfl rfl)) (ea_ex (ee_name (j := 4) rfl (.inl rfl)) (ea_ex (ee_name (j := 1) rfl (.inl rfl)) ea_nil)))))
      ss_n))))))))
theorem sc__law_unlike_right : FnScope ["store", "columns", "at", "bent", "numbers", "k"] ["store", "columns"] (defScope s__law_unlike_right) := ⟨rfl, rfl, rfl, by decide +kernel, rfl, by decide +kernel, by decide +kernel⟩
theorem b__law_unlike_right (C : Cs K mg) : Binds K C.d__law_unlike_right ["store", "columns"] [] := C.F__law_unlike_right.bindsN fun _ _ _ _ _ _ us hl => match us, hl with | [_, _], _ => rfl
theorem ok__law_unlike_right (C : Cs K mg) : FnOk P w K mg base (L2N.CX P w) 7 C.f__law_unlike_right C.d__law_unlike_right ["store", "columns"] (spOf K io__law_unlike_right run__law_unlike_right) := by
  refine def_ok (N := ["store", "columns", "at", "bent", "numbers", "k"]) (U := [1, 2, 3, 4, 5]) (m := m__law_unlike_right) C.F__law_unlike_right sc__law_unlike_right rfl (ioU rfl) fun cdv A outer s H E hr => ?_
  have hu := Room.units hr
  exact (ss_c (SS.as [2] (ss_set (i := 2) sc__law_unlike_right.nd rfl (.inr rfl) (EE.as _ (ee_call (io := io__law_take) ((ok__law_take C).mono (by decide)) hr rfl C.g__law_take C.F__law_take.kp (b__law_take C) (L2N.passAt (L2N.takes_of rfl rfl rfl rfl)) (ea_io (j := 0) rfl (.inl rfl) (ea_ex (EE.as _ (ee_len rfl C.n_len (ea_ex (ee_name (j := 1) rfl (.inl rfl)) ea_nil))) ea_nil))))))
      (ss_c (SS.as [3] (ss_set (i := 3) sc__law_unlike_right.nd rfl (.inl rfl) (EE.as _ (ee_call (io := io__law_put) ((ok__law_put C).mono (by decide)) hr rfl C.g__law_put C.F__law_put.kp (b__law_put C) (L2N.passAt (L2N.takes_of rfl rfl rfl rfl)) (ea_ex (ee_name (j := 1) rfl (.inl rfl)) (ea_ex (ee_name (j := 2) rfl (.inr (.inl rfl))) (ea_ex (EE.as ([] ++ []) (ee_add (ee_cl (EE.as _ (ee_slL (EE.as ([] ++ []) (ee_idx (ee_name (j := 1) rfl (.inl rfl)) (ee_name (j := 2) rfl (.inr (.inl rfl))))) ee_int))) (EE.as ([] ++ []) (ee_mul (EE.as _ (ee_tup (ea_ex ee_int ea_nil))) (EE.as ([] ++ []) (ee_mul ee_int (EE.as _ (ee_int1 rfl C.n_int (ea_ex (EE.as ([] ++ []) (ee_ltX hu (EE.as _ (ee_len rfl C.n_len (ea_ex (EE.as ([] ++ []) (ee_idx (ee_name (j := 1) rfl (.inl rfl)) (ee_name (j := 2) rfl (.inr (.inl rfl))))) ea_nil))) ee_int)) ea_nil))))))))) ea_nil)))))))
      (ss_c (ss_i (ew_pt (EW.as ([] ++ []) (ew_or (ET.as ([] ++ []) (et_ne hu (EE.as _ (ee_call (io := io__law_try) ((ok__law_try C).mono (by decide)) hr rfl C.g__law_try C.F__law_try.kp (b__law_try C) (L2N.passAt (L2N.takes_of rfl rfl rfl rfl)) (ea_ex ee_int (ea_ex (ee_cl (EE.as _ (ee_list rfl C.n_list (ea_ex (ee_name (j := 3) rfl (.inl rfl)) ea_nil)))) (ea_ex (EE.as _ (ee_lst ea_nil)) ea_nil))))) (EE.as _ (ee_tup (ea_ex ee_str ea_nil))))) (ew_or1 (ET.as ([] ++ []) (et_ne hu (EE.as _ (ee_call (io := io__law_try) ((ok__law_try C).mono (by decide)) hr rfl C.g__law_try C.F__law_try.kp (b__law_try C) (L2N.passAt (L2N.takes_of rfl rfl rfl rfl)) (ea_ex ee_int (ea_ex (ee_cl (EE.as _ (ee_list rfl C.n_list (ea_ex (ee_name (j := 3) rfl (.inl rfl)) ea_nil)))) (ea_ex (EE.as _ (ee_lst ea_nil)) ea_nil))))) (EE.as _ (ee_tup (ea_ex ee_str ea_nil))))))))) (ss_c (ss_ret ee_bl)
      ss_n) ss_n)
      (ss_c (SS.as [4] (ss_setLc (U := []) (own := [("k", 5)]) (Mb := []) rfl sc__law_unlike_right.nd rfl rfl rfl (EI.as _ (ei_rg1 rfl C.n_range (ea_ex (EE.as _ (ee_len rfl C.n_len (ea_ex (ee_name (j := 1) rfl (.inl rfl)) ea_nil))) ea_nil))) (BlkOk.of (by kernel_rfl)) (by decide) (fun _ _ _ _ _ => (pg_name (i := 5) sc__law_unlike_right.nd rfl (.inl rfl))) (fun _ _ _ _ _ => ets_nil) (fun _ _ _ _ _ => EE.mono (EE.as _ (ee_int1 rfl C.n_int (ea_ex (EE.as ([] ++ []) (ee_eq hu (ee_name (j := 5) rfl (.inl rfl)) (ee_name (j := 2) rfl (.inr (.inl rfl))))) ea_nil))) (by decide))))
      (ss_c (ss_ret (EE.as _ (ee_call (io := io__law_same) ((ok__law_same C 4).mono (by decide)) hr rfl C.g__law_same C.F__law_same.kp (b__law_same C) (L2N.passAt (L2N.takes_of rfl rfl rfl rfl)) (ea_ex (EE.as _ (ee_call (io := io__law_try) ((ok__law_try C).mono (by decide)) hr rfl C.g__law_try C.F__law_try.kp (b__law_try C) (L2N.passAt (L2N.takes_of rfl rfl rfl rfl)) (ea_ex ee_int (ea_ex (ee_cl (EE.as _ (ee_list rfl C.n_list (ea_ex (ee_name (j := 3) rfl (.inl rfl)) ea_nil)))) (ea_ex (ee_name (j := 4) rfl (.inl rfl)) ea_nil))))) (ea_ex (EE.as _ (ee_tup (ea_ex ee_str (ea_ex ee_bl ea_nil)))) ea_nil)))))
      ss_n)))))
theorem sc_law : FnScope ["script", "store", "lists", "side", "many", "columns", "column"] ["script"] (defScope s_law) := ⟨rfl, rfl, rfl, by decide +kernel, rfl, by decide +kernel, by decide +kernel⟩
theorem b_law (C : Cs K mg) : Binds K C.d_law ["script"] [] := C.F_law.bindsN fun _ _ _ _ _ _ us hl => match us, hl with | [_], _ => rfl
theorem ok_law (C : Cs K mg) : FnOk P w K mg base (L2N.CX P w) 8 C.f_law C.d_law ["script"] (spOf K io_law run_law) := by
  refine def_ok (N := ["script", "store", "lists", "side", "many", "columns", "column"]) (U := [0, 1, 2, 3, 4, 5, 6]) (m := m_law) C.F_law sc_law rfl (ioU rfl) fun cdv A outer s H E hr => ?_
  have hu := Room.units hr
  exact (ss_c (SS.as [1] (ss_set (i := 1) sc_law.nd rfl (.inl rfl) (EE.as _ (ee_call (io := io__law_store) ((ok__law_store C).mono (by decide)) hr rfl C.g__law_store C.F__law_store.kp (b__law_store C) (L2N.passAt (L2N.takes_of rfl rfl rfl rfl)) (ea_ex (ee_name (j := 0) rfl (.inl rfl)) ea_nil)))))
      (ss_c (SS.as [2] (ss_set (i := 2) sc_law.nd rfl (.inl rfl) (EE.as _ (ee_lst ea_nil))))
      (ss_c (ss_f (passes_of rfl) rfl (EI.as _ (ei_rg1 rfl C.n_range (ea_ex ee_int ea_nil))) (pg_name (i := 3) sc_law.nd rfl (.inl rfl)) (ss_c (SS.as [4] (ss_set (i := 4) sc_law.nd rfl (.inl rfl) (EE.as _ (ee_call (io := io__law_take) ((ok__law_take C).mono (by decide)) hr rfl C.g__law_take C.F__law_take.kp (b__law_take C) (L2N.passAt (L2N.takes_of rfl rfl rfl rfl)) (ea_io (j := 1) rfl (.inl rfl) (ea_ex ee_int ea_nil))))))
      (ss_c (ss_i (ET.as ([1] ++ []) (et_eq hu (EE.as _ (ee_call (io := io__law_take) ((ok__law_take C).mono (by decide)) hr rfl C.g__law_take C.F__law_take.kp (b__law_take C) (L2N.passAt (L2N.takes_of rfl rfl rfl rfl)) (ea_io (j := 1) rfl (.inl rfl) (ea_ex ee_int ea_nil)))) ee_int)) (ss_c (SS.as [4] (ss_set (i := 4) sc_law.nd rfl (.inl rfl) (EE.as _ (ee_call (io := io__law_span) ((ok__law_span C).mono (by decide)) hr rfl C.g__law_span C.F__law_span.kp (b__law_span C) (L2N.passAt (L2N.takes_of rfl rfl rfl rfl)) (ea_io (j := 1) rfl (.inl rfl) (ea_ex ee_int (ea_ex ee_int ea_nil)))))))
      ss_n) ss_n)
      (ss_c (SS.as [5] (ss_set (i := 5) sc_law.nd rfl (.inl rfl) (EE.as _ (ee_call (io := io__law_columns) ((ok__law_columns C).mono (by decide)) hr rfl C.g__law_columns C.F__law_columns.kp (b__law_columns C) (L2N.passAt (L2N.takes_of rfl rfl rfl rfl)) (ea_io (j := 1) rfl (.inl rfl) (ea_ex (ee_name (j := 4) rfl (.inl rfl)) (ea_ex (EE.as ([] ++ [1]) (ee_add ee_int (EE.as _ (ee_call (io := io__law_take) ((ok__law_take C).mono (by decide)) hr rfl C.g__law_take C.F__law_take.kp (b__law_take C) (L2N.passAt (L2N.takes_of rfl rfl rfl rfl)) (ea_io (j := 1) rfl (.inl rfl) (ea_ex ee_int ea_nil)))))) ea_nil)))))))
      (ss_c (ss_i (ET.as ([1] ++ []) (et_eq hu (EE.as _ (ee_call (io := io__law_take) ((ok__law_take C).mono (by decide)) hr rfl C.g__law_take C.F__law_take.kp (b__law_take C) (L2N.passAt (L2N.takes_of rfl rfl rfl rfl)) (ea_io (j := 1) rfl (.inl rfl) (ea_ex ee_int ea_nil)))) ee_int)) (ss_c (SS.as [5] (ss_setLc (U := []) (own := [("column", 6)]) (Mb := []) rfl sc_law.nd rfl rfl rfl (ei_seq (ee_name (j := 5) rfl (.inl rfl))) (BlkOk.of (by kernel_rfl)) (by decide) (fun _ _ _ _ _ => (pg_name (i := 6) sc_law.nd rfl (.inl rfl))) (fun _ _ _ _ _ => ets_nil) (fun _ _ _ _ _ => EE.mono (EE.as _ (ee_call (io := io__law_multiple) ((ok__law_multiple C).mono (by decide)) hr rfl C.g__law_multiple C.F__law_multiple.kp (b__law_multiple C) passW0 (ea_ex (ee_name (j := 6) rfl (.inl rfl)) (ea_ex ee_int ea_nil)))) (by decide))))
      ss_n) ss_n)
      (ss_c (ss_app (j := 2) rfl (.inl rfl) (ea_ex (ee_name (j := 5) rfl (.inl rfl)) ea_nil))
      ss_n))))) (by decide))
      (ss_c (ss_f (passes_of rfl) rfl (ei_seq (EE.as _ (ee_lst (ea_ex ee_int (ea_ex ee_int (ea_ex ee_int ea_nil)))))) (pg_name (i := 3) sc_law.nd rfl (.inl rfl)) (ss_c (ss_i (ET.as [1] (et_not (et_tru (fun _ => rfl) (EE.as _ (ee_call (io := io__law_columns_right) ((ok__law_columns_right C).mono (by decide)) hr rfl C.g__law_columns_right C.F__law_columns_right.kp (b__law_columns_right C) (L2N.passAt (L2N.takes_of rfl rfl rfl rfl)) (ea_io (j := 1) rfl (.inl rfl) (ea_ex (EE.as ([] ++ []) (ee_idx (ee_name (j := 2) rfl (.inl rfl)) (ee_name (j := 3) rfl (.inl rfl)))) ea_nil))))))) (ss_c (ss_ret ee_bl)
      ss_n) ss_n)
      (ss_c (ss_i (ew_pt (EW.as ([] ++ [1]) (ew_and (ET.as ([] ++ []) (et_gt (EE.as _ (ee_len rfl C.n_len (ea_ex (EE.as ([] ++ []) (ee_idx (ee_name (j := 2) rfl (.inl rfl)) (ee_name (j := 3) rfl (.inl rfl)))) ea_nil))) ee_int)) (ew_and1 (ET.as [1] (et_not (et_tru (fun _ => rfl) (EE.as _ (ee_call (io := io__law_unlike_right) ((ok__law_unlike_right C).mono (by decide)) hr rfl C.g__law_unlike_right C.F__law_unlike_right.kp (b__law_unlike_right C) (L2N.passAt (L2N.takes_of rfl rfl rfl rfl)) (ea_io (j := 1) rfl (.inl rfl) (ea_ex (EE.as ([] ++ []) (ee_idx (ee_name (j := 2) rfl (.inl rfl)) (ee_name (j := 3) rfl (.inl rfl)))) ea_nil))))))))))) (ss_c (ss_ret ee_bl)
      ss_n) ss_n)
      ss_n)) (by decide))
      (ss_c (ss_ret ee_bl)
      ss_n)))))
end
end Lk

namespace Lk
open PySem PySem.Spec L2 Kv
/-! ### elimination -/
def lin (b o : Int) (v r : List Int) : List Int := (v.zip r).map fun x => b * x.1 - o * x.2
structure Rw where
  pl : Nat
  vec : List Int
  mix : List Int
def step (s : List Int × List Int) (r : Rw) : List Int × List Int :=
  if s.1.getD r.pl 0 = 0 then s else (lin (r.vec.getD r.pl 0) (s.1.getD r.pl 0) s.1 r.vec, lin (r.vec.getD r.pl 0) (s.1.getD r.pl 0) s.2 r.mix)
def Bd (n : Nat) (l : List Int) : Prop := ∀ x ∈ l, x.natAbs < 2 ^ n
def NB : Nat → Nat
  | 0 => 20
  | k + 1 => 2 * NB k + 1
theorem NB_mono : ∀ {a b : Nat}, a ≤ b → NB a ≤ NB b
  | a, 0, h => by
    have : a = 0 := by omega
    subst this
    exact Nat.le_refl _
  | a, b + 1, h => by
    by_cases q : a = b + 1
    · subst q; exact Nat.le_refl _
    · have := NB_mono (a := a) (b := b) (by omega)
      show NB a ≤ 2 * NB b + 1
      omega
theorem Bd.mono {a b : Nat} {l : List Int} (h : Bd a l) (hab : a ≤ b) : Bd b l := fun x hx => Nat.lt_of_lt_of_le (h x hx) (Nat.pow_le_pow_right (by decide) hab)
theorem Bd.getD {n : Nat} {l : List Int} (h : Bd n l) (i : Nat) : (l.getD i 0).natAbs < 2 ^ n := by
  rw [List.getD_eq_getElem?_getD]
  cases e : l[i]? with
  | none => exact Nat.pow_pos (by decide)
  | some x => exact h x (List.mem_of_getElem? e)
theorem lin_len {b o : Int} {v r : List Int} (h : r.length = v.length) : (lin b o v r).length = v.length := by
  unfold lin
  rw [List.length_map, List.length_zip, h, Nat.min_self]
theorem lin_getD {b o : Int} : ∀ {v r : List Int}, r.length = v.length → ∀ i, (lin b o v r).getD i 0 = b * v.getD i 0 - o * r.getD i 0
  | [], [], _, i => by simp [lin]
  | [], _ :: _, h, _ => by cases h
  | _ :: _, [], h, _ => by cases h
  | x :: v, y :: r, h, 0 => by simp [lin]
  | x :: v, y :: r, h, i + 1 => by
    have := lin_getD (b := b) (o := o) (v := v) (r := r) (by simpa using h) i
    simpa [lin] using this
theorem lin_Bd {n : Nat} {b o : Int} {v r : List Int} (hb : b.natAbs < 2 ^ n) (ho : o.natAbs < 2 ^ n) (hv : Bd n v) (hr : Bd n r) : Bd (2 * n + 1) (lin b o v r) := fun z hz => by
  obtain ⟨x, hx, rfl⟩ := List.mem_map.mp hz
  have h1 := hv _ (List.of_mem_zip hx).1
  have h2 := hr _ (List.of_mem_zip hx).2
  have a1 : (b * x.1).natAbs < 2 ^ n * 2 ^ n := by rw [Int.natAbs_mul]; exact Nat.mul_lt_mul'' hb h1
  have a2 : (o * x.2).natAbs < 2 ^ n * 2 ^ n := by rw [Int.natAbs_mul]; exact Nat.mul_lt_mul'' ho h2
  have e : 2 ^ (2 * n + 1) = 2 * (2 ^ n * 2 ^ n) := by rw [Nat.pow_succ, Nat.two_mul n, Nat.pow_add, Nat.mul_comm]
  rw [e]
  generalize b * x.1 = p at a1
  generalize o * x.2 = q at a2
  omega
def dotR (m : List Int) (cols : List (List Int)) (i : Nat) : Int := ((m.zip cols).map fun x => x.1 * x.2.getD i 0).sum
theorem dotR_lin {b o : Int} {i : Nat} : ∀ {m m' : List Int} {cols : List (List Int)}, m'.length = m.length → dotR (lin b o m m') cols i = b * dotR m cols i - o * dotR m' cols i
  | [], [], cols, _ => by simp [dotR, lin]
  | [], _ :: _, _, h => by cases h
  | _ :: _, [], _, h => by cases h
  | x :: m, y :: m', [], _ => by simp [dotR, lin]
  | x :: m, y :: m', c :: cols, h => by
    have := dotR_lin (b := b) (o := o) (i := i) (m := m) (m' := m') (cols := cols) (by simpa using h)
    have e : ∀ (z : Int) (l : List Int), dotR (z :: l) (c :: cols) i = z * c.getD i 0 + dotR l cols i := fun z l => by simp [dotR]
    have e2 : lin b o (x :: m) (y :: m') = (b * x - o * y) :: lin b o m m' := by simp [lin]
    rw [e2, e, e, e, this, Int.sub_mul, Int.mul_add, Int.mul_add, Int.mul_assoc, Int.mul_assoc]
    omega
/-- rows of an elimination of columns before the j-th -/
structure GR (d n j : Nat) (rows : List Rw) : Prop where
  r : ∀ (k : Nat) (r : Rw), rows[k]? = some r → (r.vec.length = d ∧ r.mix.length = n) ∧ (r.pl < d ∧ r.vec.getD r.pl 0 ≠ 0) ∧ (Bd (NB k) r.vec ∧ Bd (NB k) r.mix) ∧ ∀ i, j ≤ i → r.mix.getD i 0 = 0
  z : ∀ (k k' : Nat) (r r' : Rw), k' < k → rows[k]? = some r → rows[k']? = some r' → r.vec.getD r'.pl 0 = 0
/-- the column under way, k rows done -/
structure GS (d n j k : Nat) (rows : List Rw) (s : List Int × List Int) : Prop where
  l : s.1.length = d ∧ s.2.length = n
  b : Bd (NB k) s.1 ∧ Bd (NB k) s.2
  z : ∀ (k' : Nat) (r' : Rw), k' < k → rows[k']? = some r' → s.1.getD r'.pl 0 = 0
  m : s.2.getD j 0 ≠ 0 ∧ ∀ i, j < i → s.2.getD i 0 = 0
theorem GS.step {d n j k : Nat} {rows : List Rw} {s : List Int × List Int} {r : Rw} (g : GR d n j rows) (h : GS d n j k rows s) (hr : rows[k]? = some r) : GS d n j (k + 1) rows (step s r) := by
  obtain ⟨⟨l1, l2⟩, ⟨p1, p2⟩, ⟨b1, b2⟩, sp⟩ := g.r k r hr
  have lv : r.vec.length = s.1.length := by rw [l1, h.l.1]
  have lm : r.mix.length = s.2.length := by rw [l2, h.l.2]
  unfold Lk.step
  by_cases c : s.1.getD r.pl 0 = 0
  · rw [if_pos c]
    refine ⟨h.l, ⟨h.b.1.mono (NB_mono (by omega)), h.b.2.mono (NB_mono (by omega))⟩, fun k' r' hk hr' => ?_, h.m⟩
    by_cases q : k' = k
    · subst q
      rw [hr] at hr'
      cases hr'
      exact c
    · exact h.z k' r' (by omega) hr'
  · rw [if_neg c]
    refine ⟨⟨by rw [lin_len lv]; exact h.l.1, by rw [lin_len lm]; exact h.l.2⟩, ⟨lin_Bd (b1.getD _) (h.b.1.getD _) h.b.1 b1, lin_Bd (b1.getD _) (h.b.1.getD _) h.b.2 b2⟩, fun k' r' hk hr' => ?_, ?_, fun i hi => ?_⟩
    · show (lin _ _ s.1 r.vec).getD r'.pl 0 = 0
      rw [lin_getD lv]
      by_cases q : k' = k
      · subst q
        rw [hr] at hr'
        cases hr'
        rw [Int.mul_comm]
        omega
      · rw [h.z k' r' (by omega) hr', g.z k k' r r' (by omega) hr hr']
        simp
    · show (lin _ _ s.2 r.mix).getD j 0 ≠ 0
      rw [lin_getD lm, sp j (Nat.le_refl _), Int.mul_zero, Int.sub_zero]
      exact Int.mul_ne_zero p2 h.m.1
    · show (lin _ _ s.2 r.mix).getD i 0 = 0
      rw [lin_getD lm, sp i (by omega), h.m.2 i hi]
      simp
theorem nodup_le : ∀ (d : Nat) (l : List Nat), l.Nodup → (∀ x ∈ l, x < d) → l.length ≤ d
  | 0, [], _, _ => Nat.le_refl _
  | 0, x :: l, _, h => absurd (h x List.mem_cons_self) (Nat.not_lt_zero _)
  | d + 1, l, nd, h => by
    have := nodup_le d (l.erase d) (nd.erase d) fun x hx => by
      have h1 := h x (List.mem_of_mem_erase hx)
      have h2 : x ≠ d := fun e => by
        subst e
        exact nd.not_mem_erase hx
      omega
    by_cases q : d ∈ l
    · rw [List.length_erase_of_mem q] at this
      omega
    · rw [List.erase_of_not_mem q] at this
      omega
theorem GR.len {d n j : Nat} {rows : List Rw} (g : GR d n j rows) : rows.length ≤ d := by
  have := nodup_le d (rows.map (·.pl)) (by
    refine List.pairwise_iff_getElem.mpr fun a b ha' hb' hab e => ?_
    have ha : a < rows.length := by rw [List.length_map] at ha'; exact ha'
    have hb : b < rows.length := by rw [List.length_map] at hb'; exact hb'
    rw [List.getElem_map, List.getElem_map] at e
    have h1 := g.z b a _ _ hab (List.getElem?_eq_getElem hb) (List.getElem?_eq_getElem ha)
    rw [e] at h1
    exact (g.r b _ (List.getElem?_eq_getElem hb)).2.1.2 h1) fun x hx => by
      obtain ⟨r, hr, rfl⟩ := List.mem_map.mp hx
      obtain ⟨k, hk, e⟩ := List.mem_iff_getElem.mp hr
      exact (g.r k r (by rw [List.getElem?_eq_getElem hk, e])).2.1.1
  rwa [List.length_map] at this
/-- one row more -/
theorem GR.snoc {d n j : Nat} {rows : List Rw} {r : Rw} (g : GR d n j rows) (hl : r.vec.length = d ∧ r.mix.length = n) (hp : r.pl < d ∧ r.vec.getD r.pl 0 ≠ 0) (hb : Bd (NB rows.length) r.vec ∧ Bd (NB rows.length) r.mix) (hs : ∀ i, j < i → r.mix.getD i 0 = 0) (hz : ∀ r' ∈ rows, r.vec.getD r'.pl 0 = 0) : GR d n (j + 1) (rows ++ [r]) := by
  have at_ : ∀ k q, (rows ++ [r])[k]? = some q → (k < rows.length ∧ rows[k]? = some q) ∨ (k = rows.length ∧ q = r) := fun k q e => by
    by_cases h : k < rows.length
    · rw [List.getElem?_append_left h] at e
      exact .inl ⟨h, e⟩
    · rw [List.getElem?_append_right (by omega)] at e
      have : k = rows.length := by
        have := (List.getElem?_eq_some_iff.mp e).1
        simp at this
        omega
      subst this
      simp at e
      exact .inr ⟨rfl, e.symm⟩
  refine ⟨fun k q e => ?_, fun k k' q q' hk e e' => ?_⟩
  · rcases at_ k q e with ⟨_, h⟩ | ⟨rfl, rfl⟩
    · obtain ⟨a, b, c, s⟩ := g.r k q h
      exact ⟨a, b, c, fun i hi => s i (by omega)⟩
    · exact ⟨hl, hp, hb, fun i hi => hs i (by omega)⟩
  · rcases at_ k q e with ⟨h1, h⟩ | ⟨h1, h⟩
    · rcases at_ k' q' e' with ⟨_, h'⟩ | ⟨h2, _⟩
      · exact g.z k k' q q' hk h h'
      · omega
    · subst h
      rcases at_ k' q' e' with ⟨_, h'⟩ | ⟨h2, _⟩
      · exact hz q' (List.mem_of_getElem? h')
      · omega
theorem GR.next {d n j : Nat} {rows : List Rw} (g : GR d n j rows) : GR d n (j + 1) rows := ⟨fun k r h => by
  obtain ⟨a, b, c, s⟩ := g.r k r h
  exact ⟨a, b, c, fun i hi => s i (by omega)⟩, g.z⟩
def elim (s : List Int × List Int) (rows : List Rw) : List Int × List Int := rows.foldl step s
theorem GS.all {d n j : Nat} {rows : List Rw} {s : List Int × List Int} (g : GR d n j rows) (h : GS d n j 0 rows s) : ∀ k, k ≤ rows.length → GS d n j k rows (elim s (rows.take k))
  | 0, _ => h
  | k + 1, hk => by
    have ih := GS.all g h k (by omega)
    have e : rows.take (k + 1) = rows.take k ++ [rows[k]] := by rw [List.take_succ_eq_append_getElem (by omega)]
    rw [e]
    unfold elim
    rw [List.foldl_append]
    exact ih.step g (List.getElem?_eq_getElem (by omega))
def unitL (n j : Nat) : List Int := (List.range n).map fun k => if k = j then 1 else 0
theorem unit_getD {n j i : Nat} : (unitL n j).getD i 0 = if i < n ∧ i = j then 1 else 0 := by
  unfold unitL
  rw [List.getD_eq_getElem?_getD, List.getElem?_map]
  by_cases h : i < n
  · rw [List.getElem?_range h]
    by_cases q : i = j
    · subst q; simp [h]
    · simp [q]
  · rw [List.getElem?_eq_none (by rw [List.length_range]; omega)]
    simp [h]
theorem GS.start {d n j : Nat} {rows : List Rw} {v : List Int} (hj : j < n) (hl : v.length = d) (hb : Bd 20 v) : GS d n j 0 rows (v, unitL n j) := by
  refine ⟨⟨hl, by unfold unitL; rw [List.length_map, List.length_range]⟩, ⟨hb, fun x hx => ?_⟩, fun k' _ h => absurd h (Nat.not_lt_zero _), ?_, fun i hi => ?_⟩
  · obtain ⟨k, _, rfl⟩ := List.mem_map.mp hx
    show (if k = j then (1 : Int) else 0).natAbs < 2 ^ 20
    split <;> decide
  · show (unitL n j).getD j 0 ≠ 0
    rw [unit_getD, if_pos ⟨hj, rfl⟩]
    decide
  · show (unitL n j).getD i 0 = 0
    rw [unit_getD, if_neg fun h => by omega]
end Lk

namespace Lk
open PySem PySem.Spec L2 Kv
/-! ### first places, divisors, relations -/
def fpz : List Int → Option (Nat × Int)
  | [] => none
  | x :: l => if x ≠ 0 then some (0, x) else (fpz l).map fun q => (q.1 + 1, q.2)
theorem fpz_some : ∀ {l : List Int} {i : Nat} {x : Int}, fpz l = some (i, x) → l[i]? = some x ∧ x ≠ 0
  | [], i, x, h => by cases h
  | y :: l, i, x, h => by
    unfold fpz at h
    by_cases q : y ≠ 0
    · rw [if_pos q] at h
      cases h
      exact ⟨rfl, q⟩
    · rw [if_neg q] at h
      cases e : fpz l with
      | none => rw [e] at h; cases h
      | some z =>
        rw [e] at h
        obtain ⟨a, b⟩ := z
        cases h
        obtain ⟨h1, h2⟩ := fpz_some e
        exact ⟨by simpa using h1, h2⟩
theorem fpz_none : ∀ {l : List Int}, fpz l = none → ∀ x ∈ l, x = 0
  | [], h, x, hx => by cases hx
  | y :: l, h, x, hx => by
    unfold fpz at h
    by_cases q : y ≠ 0
    · rw [if_pos q] at h; cases h
    · rw [if_neg q] at h
      cases e : fpz l with
      | none =>
        rcases List.mem_cons.mp hx with rfl | hx
        · exact Classical.not_not.mp q
        · exact fpz_none e x hx
      | some z => rw [e] at h; cases h
theorem fpz_ne {l : List Int} {i : Nat} (h : l.getD i 0 ≠ 0) : ∃ z, fpz l = some z := by
  cases e : fpz l with
  | some z => exact ⟨z, rfl⟩
  | none =>
    exfalso
    rw [List.getD_eq_getElem?_getD] at h
    cases e2 : l[i]? with
    | none => rw [e2] at h; exact h rfl
    | some x => rw [e2] at h; exact h (fpz_none e x (List.mem_of_getElem? e2))
theorem fpz_app : ∀ {pre : List Int} {x : Int} {rest : List Int}, (∀ y ∈ pre, y = 0) → x ≠ 0 → fpz (pre ++ x :: rest) = some (pre.length, x)
  | [], x, rest, _, h => by
    show (if x ≠ 0 then some (0, x) else _) = _
    rw [if_pos h]; rfl
  | y :: pre, x, rest, hp, h => by
    show (if y ≠ 0 then some (0, y) else (fpz (pre ++ x :: rest)).map _) = _
    rw [if_neg (by rw [hp y List.mem_cons_self]; simp), fpz_app (fun z hz => hp z (List.mem_cons_of_mem _ hz)) h]
    rfl
theorem fpz_zero : ∀ {l : List Int}, (∀ x ∈ l, x = 0) → fpz l = none
  | [], _ => rfl
  | y :: l, h => by
    show (if y ≠ 0 then some (0, y) else (fpz l).map _) = _
    rw [if_neg (by rw [h y List.mem_cons_self]; simp), fpz_zero fun x hx => h x (List.mem_cons_of_mem _ hx)]
    rfl
theorem fpz_filter : ∀ (l : List Int), (l.filter fun n => !decide (n = 0)).take 1 = (match fpz l with
    | some z => [z.2]
    | none => [])
  | [] => rfl
  | y :: l => by
    have ih := fpz_filter l
    unfold fpz
    by_cases q : y ≠ 0
    · rw [if_pos q, List.filter_cons_of_pos (by simp [q])]
      rfl
    · rw [if_neg q, List.filter_cons_of_neg (by simp at q; simp [q]), ih]
      cases fpz l <;> rfl
def gf (g : Nat) (l : List Int) : Nat := l.foldl (fun g x => Nat.gcd g x.natAbs) g
theorem gf_dvd : ∀ (l : List Int) (g : Nat), gf g l ∣ g ∧ ∀ x ∈ l, gf g l ∣ x.natAbs
  | [], g => ⟨Nat.dvd_refl _, fun x hx => by cases hx⟩
  | y :: l, g => by
    obtain ⟨h1, h2⟩ := gf_dvd l (Nat.gcd g y.natAbs)
    refine ⟨Nat.dvd_trans h1 (Nat.gcd_dvd_left _ _), fun x hx => ?_⟩
    rcases List.mem_cons.mp hx with rfl | hx
    · exact Nat.dvd_trans h1 (Nat.gcd_dvd_right _ _)
    · exact h2 x hx
theorem gf_gr {d : Nat} : ∀ {l : List Int} {g : Nat}, d ∣ g → (∀ x ∈ l, d ∣ x.natAbs) → d ∣ gf g l
  | [], g, h, _ => h
  | y :: l, g, h, hl => show d ∣ gf (Nat.gcd g y.natAbs) l from gf_gr (l := l) (Nat.dvd_gcd h (hl y List.mem_cons_self)) fun x hx => hl x (List.mem_cons_of_mem _ hx)
theorem gf_pos {l : List Int} {x : Int} (hx : x ∈ l) (h : x ≠ 0) : 0 < gf 0 l := Nat.pos_of_dvd_of_pos ((gf_dvd l 0).2 x hx) (by omega)
theorem gf_lt {l : List Int} {n : Nat} (h : Bd n l) : gf 0 l < 2 ^ n := by
  by_cases q : ∃ x ∈ l, x ≠ 0
  · obtain ⟨x, hx, h0⟩ := q
    have := Nat.le_of_dvd (by omega) ((gf_dvd l 0).2 x hx)
    exact Nat.lt_of_le_of_lt this (h x hx)
  · have : 0 ∣ gf 0 l := gf_gr (Nat.dvd_refl 0) fun x hx => by
      have : x = 0 := Classical.byContradiction fun z => q ⟨x, hx, z⟩
      rw [this]; exact Nat.dvd_refl 0
    rw [Nat.eq_zero_of_zero_dvd this]
    exact Nat.pow_pos (by decide)
/-- what is left behind the division by the divisor, its sign that of the first -/
def sgnG (l : List Int) (f : Int) : Int := if f < 0 then -(gf 0 l : Int) else gf 0 l
def prim (l : List Int) (f : Int) : List Int := l.map fun x => x.fdiv (sgnG l f)
theorem prim_mul {l : List Int} {i : Nat} {f : Int} (h : fpz l = some (i, f)) : sgnG l f ≠ 0 ∧ (sgnG l f).natAbs = gf 0 l ∧ (prim l f).map (sgnG l f * ·) = l := by
  obtain ⟨h1, h2⟩ := fpz_some h
  have hp := gf_pos (List.mem_of_getElem? h1) h2
  have c0 : sgnG l f ≠ 0 := by unfold sgnG; split <;> omega
  have c1 : (sgnG l f).natAbs = gf 0 l := by unfold sgnG; split <;> omega
  refine ⟨c0, c1, ?_⟩
  unfold prim
  rw [List.map_map]
  conv => rhs; rw [← List.map_id l]
  apply List.map_congr_left
  intro x hx
  have hd : sgnG l f ∣ x := Int.natAbs_dvd_natAbs.mp (by rw [c1]; exact (gf_dvd l 0).2 x hx)
  exact Int.mul_fdiv_cancel' hd
theorem fpz_map {c : Int} (hc : c ≠ 0) : ∀ l : List Int, fpz (l.map (c * ·)) = (fpz l).map fun q => (q.1, c * q.2)
  | [] => rfl
  | y :: l => by
    rw [List.map_cons]
    unfold fpz
    by_cases q : y ≠ 0
    · rw [if_pos (Int.mul_ne_zero hc q), if_pos q]
      rfl
    · have : y = 0 := Classical.not_not.mp q
      subst this
      rw [if_neg (by simp), if_neg (by simp), fpz_map hc l]
      cases fpz l <;> rfl
theorem gf_map {c : Int} : ∀ (l : List Int) (g : Nat), gf (c.natAbs * g) (l.map (c * ·)) = c.natAbs * gf g l
  | [], g => rfl
  | y :: l, g => by
    show gf (Nat.gcd (c.natAbs * g) (c * y).natAbs) (l.map (c * ·)) = c.natAbs * gf (Nat.gcd g y.natAbs) l
    rw [Int.natAbs_mul, Nat.gcd_mul_left, gf_map l]
theorem dotR_map {c : Int} {i : Nat} : ∀ (m : List Int) (cols : List (List Int)), dotR (m.map (c * ·)) cols i = c * dotR m cols i
  | [], cols => by simp [dotR]
  | x :: m, [] => by simp [dotR]
  | x :: m, a :: cols => by
    have e : ∀ (z : Int) (l : List Int), dotR (z :: l) (a :: cols) i = z * a.getD i 0 + dotR l cols i := fun z l => by simp [dotR]
    rw [List.map_cons, e, e, dotR_map m cols, Int.mul_add, Int.mul_assoc]
theorem prim_ok {l : List Int} {i : Nat} {f : Int} (h : fpz l = some (i, f)) : (prim l f).length = l.length ∧ gf 0 (prim l f) = 1 ∧ (∃ x, fpz (prim l f) = some (i, x) ∧ 0 < x) ∧ ∀ cols k, dotR l cols k = 0 → dotR (prim l f) cols k = 0 := by
  obtain ⟨c0, c1, e⟩ := prim_mul h
  have hp : 0 < gf 0 l := by omega
  refine ⟨by unfold prim; rw [List.length_map], ?_, ?_, fun cols k hd => ?_⟩
  · have := gf_map (c := sgnG l f) (prim l f) 0
    rw [e, Nat.mul_zero, c1] at this
    have h2 : gf 0 l * 1 = gf 0 l * gf 0 (prim l f) := by rw [Nat.mul_one]; exact this
    exact (Nat.eq_of_mul_eq_mul_left hp h2).symm
  · have := fpz_map c0 (prim l f)
    rw [e, h] at this
    cases e2 : fpz (prim l f) with
    | none => rw [e2] at this; cases this
    | some z =>
      rw [e2] at this
      obtain ⟨a, b⟩ := z
      have this : (i, f) = (a, sgnG l f * b) := Option.some.inj this
      have e3 : i = a := congrArg Prod.fst this
      have e4 : f = sgnG l f * b := congrArg Prod.snd this
      subst e3
      refine ⟨b, rfl, ?_⟩
      have b0 := (fpz_some e2).2
      refine Classical.byContradiction fun hb => ?_
      have hb : b < 0 := by omega
      unfold sgnG at e4
      split at e4
      · have : 0 ≤ -(gf 0 l : Int) * b := Int.mul_nonneg_of_nonpos_of_nonpos (by omega) (by omega)
        omega
      · rename_i q
        have : (gf 0 l : Int) * b < 0 := Int.mul_neg_of_pos_of_neg (by omega) hb
        omega
  · have := dotR_map (c := sgnG l f) (i := k) (prim l f) cols
    rw [e, hd] at this
    rcases Int.mul_eq_zero.mp this.symm with z | z
    · exact absurd z c0
    · exact z
theorem dotR_zero {i : Nat} : ∀ (m : List Int) (cols : List (List Int)), (∀ x ∈ m, x = 0) → dotR m cols i = 0
  | [], cols, _ => by simp [dotR]
  | x :: m, [], _ => by simp [dotR]
  | x :: m, a :: cols, h => by
    have e : dotR (x :: m) (a :: cols) i = x * a.getD i 0 + dotR m cols i := by simp [dotR]
    rw [e, h x List.mem_cons_self, dotR_zero m cols fun y hy => h y (List.mem_cons_of_mem _ hy)]
    simp
theorem dotR_unit {i : Nat} : ∀ (cols : List (List Int)) (j : Nat), j < cols.length → dotR (unitL cols.length j) cols i = (cols.getD j []).getD i 0
  | [], j, h => by cases h
  | a :: cols, 0, h => by
    have e : unitL (cols.length + 1) 0 = 1 :: (List.range cols.length).map fun _ => 0 := by
      unfold unitL
      rw [List.range_succ_eq_map, List.map_cons, List.map_map]
      rfl
    show dotR (unitL (cols.length + 1) 0) (a :: cols) i = _
    rw [e, show ∀ (z : Int) (l : List Int), dotR (z :: l) (a :: cols) i = z * a.getD i 0 + dotR l cols i from fun z l => by simp [dotR], dotR_zero _ _ fun x hx => by
      obtain ⟨_, _, rfl⟩ := List.mem_map.mp hx
      rfl]
    simp
  | a :: cols, j + 1, h => by
    have e : unitL (cols.length + 1) (j + 1) = 0 :: unitL cols.length j := by
      unfold unitL
      rw [List.range_succ_eq_map, List.map_cons, List.map_map]
      congr 1
      apply List.map_congr_left
      intro k _
      show (if k + 1 = j + 1 then (1 : Int) else 0) = if k = j then 1 else 0
      by_cases q : k = j
      · rw [if_pos (by omega), if_pos q]
      · rw [if_neg (by omega), if_neg q]
    show dotR (unitL (cols.length + 1) (j + 1)) (a :: cols) i = _
    rw [e, show ∀ (z : Int) (l : List Int), dotR (z :: l) (a :: cols) i = z * a.getD i 0 + dotR l cols i from fun z l => by simp [dotR], dotR_unit cols j (by simpa using h)]
    simp
end Lk

namespace Lk
open PySem PySem.Spec L2 Kv
/-! ### the rows of all columns -/
structure Cols (cols : List (List Int)) (d : Nat) : Prop where
  dd : 1 ≤ d ∧ d ≤ 4
  n : cols.length ≤ 60
  c : ∀ c ∈ cols, c.length = d ∧ Bd 20 c
theorem Cols.at {cols : List (List Int)} {d j : Nat} (h : Cols cols d) (hj : j < cols.length) : (cols.getD j []).length = d ∧ Bd 20 (cols.getD j []) := by
  rw [List.getD_eq_getElem?_getD, List.getElem?_eq_getElem hj]
  exact h.c _ (List.getElem_mem hj)
def colStep (n : Nat) (rows : List Rw) (j : Nat) (c : List Int) : List Rw := match fpz (elim (c, unitL n j) rows).1 with
  | some z => rows ++ [⟨z.1, (elim (c, unitL n j) rows).1, (elim (c, unitL n j) rows).2⟩]
  | none => rows
def rowsAt (cols : List (List Int)) : Nat → List Rw
  | 0 => []
  | j + 1 => colStep cols.length (rowsAt cols j) j (cols.getD j [])
/-- each row is what its mix tells -/
def EqR (cols : List (List Int)) (d : Nat) (rows : List Rw) : Prop := ∀ r ∈ rows, ∀ i, i < d → r.vec.getD i 0 = dotR r.mix cols i
theorem elim_eq {cols : List (List Int)} {d n j : Nat} {rows : List Rw} {s : List Int × List Int} (g : GR d n j rows) (h : GS d n j 0 rows s) (hr : EqR cols d rows) (h0 : ∀ i, i < d → s.1.getD i 0 = dotR s.2 cols i) : ∀ k, k ≤ rows.length → ∀ i, i < d → (elim s (rows.take k)).1.getD i 0 = dotR (elim s (rows.take k)).2 cols i
  | 0, _ => h0
  | k + 1, hk => fun i hi => by
    have ih := elim_eq g h hr h0 k (by omega) i hi
    have gs := GS.all g h k (by omega)
    have e : rows.take (k + 1) = rows.take k ++ [rows[k]] := by rw [List.take_succ_eq_append_getElem (by omega)]
    have er : rows[k]? = some rows[k] := List.getElem?_eq_getElem (by omega)
    obtain ⟨⟨l1, l2⟩, _, _, _⟩ := g.r k _ er
    have re := hr _ (List.mem_of_getElem? er) i hi
    rw [e]
    unfold elim
    rw [List.foldl_append]
    show (step (elim s (rows.take k)) rows[k]).1.getD i 0 = dotR (step (elim s (rows.take k)) rows[k]).2 cols i
    unfold step
    split
    · exact ih
    · show (lin _ _ _ _).getD i 0 = dotR (lin _ _ _ _) cols i
      rw [lin_getD (by rw [l1, gs.l.1]), dotR_lin (by rw [l2, gs.l.2]), ih, re]
structure Good (cols : List (List Int)) (d j : Nat) : Prop where
  g : GR d cols.length j (rowsAt cols j)
  e : EqR cols d (rowsAt cols j)
theorem take_all {α : Type} {l : List α} : l.take l.length = l := List.take_length
theorem good_gs {cols : List (List Int)} {d j : Nat} (hc : Cols cols d) (hj : j < cols.length) (h : Good cols d j) : GS d cols.length j 0 (rowsAt cols j) (cols.getD j [], unitL cols.length j) ∧
    GS d cols.length j (rowsAt cols j).length (rowsAt cols j) (elim (cols.getD j [], unitL cols.length j) (rowsAt cols j)) ∧ ∀ i, i < d → (elim (cols.getD j [], unitL cols.length j) (rowsAt cols j)).1.getD i 0 = dotR (elim (cols.getD j [], unitL cols.length j) (rowsAt cols j)).2 cols i := by
  have g0 := GS.start (n := cols.length) (rows := rowsAt cols j) hj (hc.at hj).1 (hc.at hj).2
  have a := GS.all h.g g0 _ (Nat.le_refl _)
  have b := elim_eq h.g g0 h.e (fun i hi => (dotR_unit cols j hj).symm) _ (Nat.le_refl _)
  rw [take_all] at a b
  exact ⟨g0, a, b⟩
theorem fpz_lt {l : List Int} {z : Nat × Int} (h : fpz l = some z) : z.1 < l.length ∧ l.getD z.1 0 ≠ 0 := by
  obtain ⟨i, x⟩ := z
  obtain ⟨h1, h2⟩ := fpz_some h
  refine ⟨(List.getElem?_eq_some_iff.mp h1).1, ?_⟩
  rw [List.getD_eq_getElem?_getD, h1]
  exact h2
theorem good_all {cols : List (List Int)} {d : Nat} (hc : Cols cols d) : ∀ j, j ≤ cols.length → Good cols d j
  | 0, _ => ⟨⟨fun k r h => by simp [rowsAt] at h, fun k k' r r' _ h => by simp [rowsAt] at h⟩, fun r h => by cases h⟩
  | j + 1, hj => by
    have ih := good_all hc j (by omega)
    obtain ⟨_, a, b⟩ := good_gs hc (by omega) ih
    show Good cols d (j + 1)
    have er : rowsAt cols (j + 1) = colStep cols.length (rowsAt cols j) j (cols.getD j []) := rfl
    refine ⟨?_, ?_⟩
    · rw [er]
      unfold colStep
      generalize elim (cols.getD j [], unitL cols.length j) (rowsAt cols j) = S at a b
      cases e : fpz S.1 with
      | none => exact ih.g.next
      | some z =>
        obtain ⟨h1, h2⟩ := fpz_lt e
        exact ih.g.snoc a.l ⟨by rw [← a.l.1]; exact h1, h2⟩ a.b a.m.2 fun r' hr' => by
          obtain ⟨k', hk', e'⟩ := List.mem_iff_getElem.mp hr'
          exact a.z k' r' hk' (by rw [List.getElem?_eq_getElem hk', e'])
    · rw [er]
      unfold colStep
      generalize elim (cols.getD j [], unitL cols.length j) (rowsAt cols j) = S at a b
      cases e : fpz S.1 with
      | none => exact ih.e
      | some z =>
        intro r hr
        rcases List.mem_append.mp hr with hr | hr
        · exact ih.e r hr
        · rw [List.mem_singleton.mp hr]; exact b
/-- a dependence -/
structure Dep (cols : List (List Int)) (d : Nat) (l : List Int) : Prop where
  n : l.length = cols.length
  g : gf 0 l = 1
  f : ∃ i x, fpz l = some (i, x) ∧ 0 < x
  z : ∀ i, i < d → dotR l cols i = 0
theorem dep_of {cols : List (List Int)} {d j : Nat} (hc : Cols cols d) (hj : j < cols.length) (h : Good cols d j) (hz : fpz (elim (cols.getD j [], unitL cols.length j) (rowsAt cols j)).1 = none) : ∃ i f, fpz (elim (cols.getD j [], unitL cols.length j) (rowsAt cols j)).2 = some (i, f) ∧
    Bd 335 (elim (cols.getD j [], unitL cols.length j) (rowsAt cols j)).2 ∧ (elim (cols.getD j [], unitL cols.length j) (rowsAt cols j)).2.length = cols.length ∧ Dep cols d (prim (elim (cols.getD j [], unitL cols.length j) (rowsAt cols j)).2 f) := by
  obtain ⟨_, a, b⟩ := good_gs hc hj h
  have rl := h.g.len
  generalize elim (cols.getD j [], unitL cols.length j) (rowsAt cols j) = S at a b hz
  obtain ⟨z, hz2⟩ := fpz_ne a.m.1
  obtain ⟨i, f⟩ := z
  obtain ⟨p1, p2, ⟨x, p3, p4⟩, p5⟩ := prim_ok hz2
  refine ⟨i, f, hz2, a.b.2.mono (Nat.le_trans (NB_mono (Nat.le_trans rl hc.dd.2)) (by decide)), a.l.2, ⟨by rw [p1]; exact a.l.2, p2, ⟨i, x, p3, p4⟩, fun k hk => p5 cols k ?_⟩⟩
  rw [← b k hk, List.getD_eq_getElem?_getD]
  cases e : S.1[k]? with
  | none => rfl
  | some y => exact fpz_none hz y (List.mem_of_getElem? e)
end Lk

namespace Lk
open PySem PySem.Spec L2 Kv
def scL (a : Int) (l : List Int) : List Int := l.map (a * ·)
theorem sc_len {a : Int} {l : List Int} : (scL a l).length = l.length := List.length_map _
theorem sc_getD {a : Int} {l : List Int} {i : Nat} : (scL a l).getD i 0 = a * l.getD i 0 := by
  unfold scL
  rw [List.getD_eq_getElem?_getD, List.getD_eq_getElem?_getD, List.getElem?_map]
  cases l[i]? <;> simp
theorem sc_sc {a b : Int} {l : List Int} : scL a (scL b l) = scL (a * b) l := by
  unfold scL
  rw [List.map_map]
  apply List.map_congr_left
  intro x _
  exact (Int.mul_assoc a b x).symm
theorem sc_Bd {a : Int} {l : List Int} {n : Nat} (ha : a ≠ 0) (h : Bd n (scL a l)) : Bd n l := fun x hx => by
  have := h (a * x) (List.mem_map.mpr ⟨x, hx, rfl⟩)
  rw [Int.natAbs_mul] at this
  have h1 : 1 * x.natAbs ≤ a.natAbs * x.natAbs := Nat.mul_le_mul_right _ (by omega)
  omega
theorem sc_one {l : List Int} : scL 1 l = l := by
  unfold scL
  conv => rhs; rw [← List.map_id l]
  apply List.map_congr_left
  intro x _
  exact Int.one_mul x
theorem sc_lin {g t a f : Int} : ∀ {v r : List Int}, lin (g * t) (a * f) (scL a v) (scL g r) = scL (a * g) (lin t f v r)
  | [], _ => by simp [lin, scL]
  | _ :: _, [] => by simp [lin, scL]
  | x :: v, y :: r => by
    have ih := sc_lin (g := g) (t := t) (a := a) (f := f) (v := v) (r := r)
    unfold lin scL at ih ⊢
    simp only [List.map_cons, List.zip_cons_cons, ih]
    congr 1
    rw [Int.mul_sub]
    congr 1
    · rw [Int.mul_assoc, Int.mul_assoc, ← Int.mul_assoc t, Int.mul_comm t a, Int.mul_assoc a t x, ← Int.mul_assoc g, Int.mul_comm g a, Int.mul_assoc]
    · rw [Int.mul_assoc, Int.mul_assoc, ← Int.mul_assoc f, Int.mul_comm f g, Int.mul_assoc g f y]
theorem lin_range {v r : List Int} {t f : Int} (h : r.length = v.length) : ((List.range v.length).map fun k => v.getD k 0 * t - r.getD k 0 * f) = lin t f v r := by
  unfold lin
  apply List.ext_getElem
  · rw [List.length_map, List.length_map, List.length_range, List.length_zip]; omega
  · intro k h1 h2
    have h3 : k < v.length := by rw [List.length_map, List.length_range] at h1; exact h1
    rw [List.getElem_map, List.getElem_map, List.getElem_range, List.getElem_zip, List.getD_eq_getElem?_getD (l := v), List.getElem?_eq_getElem h3, List.getD_eq_getElem?_getD (l := r), List.getElem?_eq_getElem (by omega)]
    show v[k] * t - r[k] * f = t * v[k] - f * r[k]
    rw [Int.mul_comm, Int.mul_comm f]
/-- the law's row beside the program's -/
def LwR (b r : Rw) : Prop := b.pl = r.pl ∧ ∃ g : Int, g ≠ 0 ∧ r.vec = scL g b.vec ∧ r.mix = scL g b.mix
theorem step_sc {b r : Rw} {a : Int} {s : List Int × List Int} (ha : a ≠ 0) (h : LwR b r) : ∃ c : Int, c ≠ 0 ∧ step (scL a s.1, scL a s.2) r = (scL c (step s b).1, scL c (step s b).2) := by
  obtain ⟨h1, g, h2, h3, h4⟩ := h
  unfold step
  simp only [sc_getD]
  rw [h1, h3, h4, sc_getD]
  by_cases q : s.1.getD r.pl 0 = 0
  · rw [if_pos (by rw [q, Int.mul_zero]), if_pos q]
    exact ⟨a, ha, rfl⟩
  · rw [if_neg (Int.mul_ne_zero ha q), if_neg q]
    exact ⟨a * g, Int.mul_ne_zero ha h2, by rw [sc_lin, sc_lin]⟩
def LwL (bs rs : List Rw) : Prop := bs.length = rs.length ∧ ∀ (k : Nat) (b r : Rw), bs[k]? = some b → rs[k]? = some r → LwR b r
theorem LwL.snoc {bs rs : List Rw} {b r : Rw} (h : LwL bs rs) (hb : LwR b r) : LwL (bs ++ [b]) (rs ++ [r]) := by
  refine ⟨by rw [List.length_append, List.length_append, h.1]; rfl, fun k b' r' h1 h2 => ?_⟩
  by_cases q : k < rs.length
  · rw [List.getElem?_append_left q] at h2
    rw [List.getElem?_append_left (by rw [h.1]; exact q)] at h1
    exact h.2 k b' r' h1 h2
  · have hk := (List.getElem?_eq_some_iff.mp h2).1
    rw [List.length_append] at hk
    have : k = rs.length := by simp at hk; omega
    subst this
    rw [List.getElem?_append_right (by omega)] at h2
    rw [List.getElem?_append_right (by have := h.1; omega)] at h1
    simp at h2
    simp [h.1] at h1
    subst h1 h2
    exact hb
theorem filt_range : ∀ (v : List Int), ((List.range v.length).filter fun k => !decide (v.getD k 0 = 0)).take 1 = (match fpz v with
    | some z => [z.1]
    | none => [])
  | [] => rfl
  | y :: l => by
    have ih := filt_range l
    unfold fpz
    rw [List.length_cons, List.range_succ_eq_map, ]
    by_cases q : y ≠ 0
    · rw [if_pos q, List.filter_cons_of_pos (by simp [q])]
      rfl
    · have e : (fun k => !decide ((y :: l).getD k 0 = 0)) ∘ Nat.succ = fun k => !decide (l.getD k 0 = 0) := by
        funext k
        simp
      rw [if_neg q, List.filter_cons_of_neg (by simp at q; simp [q]), List.filter_map, e, ← List.map_take, ih]
      cases fpz l <;> rfl
theorem places_some {v : List Int} {z : Nat × Int} (h : fpz v = some z) : ∃ r, (List.range v.length).filter (fun k => !decide (v.getD k 0 = 0)) = z.1 :: r := by
  have := filt_range v
  rw [h] at this
  cases e : (List.range v.length).filter (fun k => !decide (v.getD k 0 = 0)) with
  | nil => rw [e] at this; cases this
  | cons a r => rw [e] at this; cases this; exact ⟨r, rfl⟩
theorem places_none {v : List Int} (h : fpz v = none) : (List.range v.length).filter (fun k => !decide (v.getD k 0 = 0)) = [] := by
  have := filt_range v
  rw [h] at this
  cases e : (List.range v.length).filter (fun k => !decide (v.getD k 0 = 0)) with
  | nil => rfl
  | cons a r => rw [e] at this; cases this
/-- division by a common divisor -/
theorem div_sc {l : List Int} {g : Nat} (h : ∀ x ∈ l, g ∣ x.natAbs) : scL g (l.map fun x => x / (g : Int)) = l := by
  unfold scL
  rw [List.map_map]
  conv => rhs; rw [← List.map_id l]
  apply List.map_congr_left
  intro x hx
  exact Int.mul_ediv_cancel' (Int.natAbs_dvd_natAbs.mp (by simpa using h x hx))
theorem prim_Bd {l : List Int} {i n : Nat} {f : Int} (h : fpz l = some (i, f)) (hb : Bd n l) : Bd n (prim l f) ∧ (prim l f).length = l.length := by
  obtain ⟨c0, c1, e⟩ := prim_mul h
  refine ⟨sc_Bd c0 (by unfold scL; rw [e]; exact hb), (prim_ok h).1⟩
end Lk

namespace Lk
open PySem PySem.Spec L2 Kv
local macro_rules
  | `(tactic| simp_all! only [$ls,*]) => `(tactic| simp only [↓e_ifT, ↓e_ifF, ↓e_at0, ↓e_atS, ↓e_nx, ↓e_vN, ↓e_vC, ↓e_frzN, ↓e_frzC, ↓e_frz10, ↓e_frz1N, ↓e_frz1S, ↓e_asg, ↓e_set0, ↓e_setS, ↓e_wipeN, ↓e_wipeC, ↓e_resN, ↓e_resC, ↓e_gD0, ↓e_gDS, ↓e_lowN, ↓e_lowC, ↓e_low1N, ↓e_low1S, ↓e_gX0, ↓e_gXS, ↓e_fin, ↓e_vUn, ↓e_vBin, ↓e_vOp, ↓e_apN, ↓e_apI, ↓e_asN, ↓e_asE, ↓e_asI, ↓e_tv, ↓e_tvK, ↓e_trB, ↓e_truB, ↓e_truI, ↓e_andT, ↓e_orT, ↓e_notT, ↓e_ifE, ↓e_bvK, ↓e_andV, ↓e_orV, ↓e_yes, ↓e_skip, ↓e_seq, ↓e_brk, ↓e_cont, ↓e_drop, ↓e_ret, ↓e_retN, ↓e_retV, ↓e_if, ↓e_set, ↓e_for, ↓e_own0, ↓e_ownS, ↓e_olK, ↓e_sixK, ↓e_setIx, ↓e_mut, ↓e_finM, ↓e_app, ↓e_call, ↓e_argN, ↓e_argE, ↓e_argI, ↓e_setON, ↓e_setOE, ↓e_setOI, ↓e_put0, ↓e_putS, ↓e_memN, ↓e_niN, ↓e_ndN, ↓e_nd1, ↓e_ioN, ↓e_ioE, ↓e_ioI, ↓e_run, ↓e_outN, ↓e_out0, ↓e_out1, ↓e_aeN, ↓e_aeC, ↓e_add, ↓e_sub, ↓e_mul, ↓e_div, ↓e_mod, ↓e_pow, ↓e_neg, ↓e_lt, ↓e_le, ↓e_gt, ↓e_ge, ↓e_eq, ↓e_ne, ↓e_not, ↓e_is, ↓e_nA1, ↓e_nA2, ↓e_nA3, ↓e_nA4, ↓e_nA5, ↓e_nA6, ↓e_nA7, ↓e_nA8, ↓e_isN, ↓e_notN, ↓e_ixL, ↓e_ixT, ↓e_ixU, ↓e_tup, ↓e_lst, ↓e_one, ↓e_two, ↓e_mapII, ↓e_mapIf, ↓e_mk0, ↓e_mk1, ↓e_mk2, ↓e_mk3, ↓e_mk4, ↓e_mkM, ↓e_mulT, ↓e_mulL, ↓e_mkR, ↓e_addL, ↓e_addT, ↓e_sl0, ↓e_slL, ↓e_slH, ↓e_slLH, ↓e_slvL, ↓e_slvT, ↓e_slvU, ↓e_intK, ↓e_intsM, ↓e_max, ↓e_min, ↓e_sum, ↓e_lenL, ↓e_lenU, ↓e_lenT, ↓e_abs, ↓e_int, ↓e_intB, ↓e_tupL, ↓e_lstL, ↓e_lstT, ↓e_aI0, ↓e_aI1, ↓e_aI2, ↓e_aI3, ↓e_aI4, ↓e_sI0, ↓e_sI1, ↓e_sI2, ↓e_sI3, ↓e_sI4, ↓e_agN, ↓e_agE, ↓e_agI, ↓e_rg1, ↓e_rgK, ↓e_zip, ↓e_zipT, ↓e_zipL, ↓e_zipI, ↓e_rg2, ↓e_rgKK, ↓e_itE, ↓e_itK, ↓e_sqL, ↓e_sqF, ↓e_sqT, ↓e_sqU, ↓e_lc, ↓e_lcN, ↓e_lcC, ↓e_nm, ↓e_tp, ↓e_tpU, ↓e_bdN, ↓e_bdC, ↓e_forN, ↓e_forC, ↓e_while, ↓e_rev, ↓e_ltX, ↓e_ltT, ↓e_in, ↓e_ni, ↓e_srtI, ↓e_truL, ↓e_truT, ↓e_par, ↓e_eqB, ↓e_cast, ↓e_cast0, ↓e_cast1, ↓e_res0, ↓e_rd0, ↓e_oc0, ↓e_ocN, ↓e_ocS, ↓e_clI, ↓e_clL, ↓e_clM, ↓e_clN, ↓e_clC, ↓e_eqT, ↓e_neT, ↓e_ox0, ↓e_oxS, ↓e_sxK, ↓e_setX, ↓e_lst2, ↓e_vCl, ↓e_clK0, ↓e_clKT, ↓e_clKF, ↓e_mkL, ↓e_clU, ↓e_okN, ↓e_okC, ↓e_okI, ↓e_okL, ↓e_sX0, ↓e_sX1, ↓e_sX2, ↓e_sX3, ↓e_sX4, ↓e_asgT, ↓e_lc2c, ↓e_eqS, ↓e_neS, ↓e_boolM, ↓e_all, ↓e_any, ↓e_lrg, ↓e_ins, ↓e_rgL, ↓e_rgKL, ↓e_eqLI, ↓e_neLT, ↓e_try, ↓e_tryK, ↓e_raise, ↓e_isX, ↓e_con, ↓e_mv, ↓e_ix2, ↓e_ix20, ↓e_ix21, ↓e_tup2, ↓e_enum, ↓e_enumK, ↓e_divX, ↓e_forO, ↓e_owO, ↓e_owOS, res_im, res_lst, res_tup, rdN_im, rdN_lst0, rdN_lst1, rdN_tup0, rdN_tup1, List.map_cons, List.map_nil, List.flatMap_cons, List.flatMap_nil, List.append_nil, List.nil_append, List.cons_append, and_true, true_and, List.filter_nil, List.tail_cons, Option.map_some, List.replicate_succ, List.replicate_zero, List.length_cons, List.length_nil, List.length_map, decide_true, decide_false, Bool.not_true, Bool.not_false, Bool.not_not, true_or, or_true, Bool.and_true, Bool.true_and, Bool.and_self, implies_true, Int.reduceEq, Int.reduceAdd, Int.reduceSub, reduceIte, if_true, eq_self, ite_self, isT, Kv.isNon, Nat.reduceLeDiff, Nat.reduceAdd, Nat.reduceSub, List.flatten_replicate_singleton, Int.reduceLT, Int.reduceLE, Int.reducePow, Int.reduceToNat, Int.reduceNeg, io_divisor_of_two, io_common_divisor, io_one_length, io_first_place, io_primitive, io_cancelled, io_swept, io_dependence, io_is_dependence, io_rank, io__law_mix, io__law_store, io__law_take, io__law_span, io__law_pick, io__law_put, io__law_whole, io__law_same, io__law_nil, io__law_multiple, io__law_far, io__law_columns, io__law_bad_counts, io__law_common, io__law_depends, io__law_clean, io__law_eliminated, io__law_try, io__law_lists_of, io__law_columns_right, io__law_unlike_right, io_law, $ls,*])

def mixZ (a b : Int) : Int :=
  let x := (a % 2147483647 * 48271 + b % 998244353 * 69621 + 12345) % 2147483647
  let y := (x * x + x / 127 + 40692) % 2147483399
  let z := (y / 1009 + y % 1009 * 16807 + x / 31 % 65536 * 7919) % 2147483629
  (z * z + 271828 * y + x) % 998244353
theorem mix_spec {a b : Int} {Qn Qx} (h : Qn ⟨.im (.int (mixZ a b)), 0, []⟩ [.im (.int a), .im (.int b)]) : run__law_mix [.im (.int a), .im (.int b)] Qn Qx := by
  unfold run__law_mix m__law_mix io__law_mix
  simp_all! only []
  repeat' (with_reducible refine And.intro ?_ ?_)
  all_goals first | exact mulR (by decide) | exact mulM (by decide) | exact mulL (by decide) | exact h | decide
/-- the store -/
structure Sto where
  cells : List Int
  pos : Int
  great : Int
  cnt : Int
  mix : Int
def Sto.D (s : Sto) : D := .lst [.lst (s.cells.map fun i => .im (.int i)), .im (.int s.pos), .im (.int s.great), .im (.int s.cnt), .im (.int s.mix)]
def Sto.Ok (s : Sto) : Prop := 0 ≤ s.pos
theorem res_D {s : Sto} {n : Nat} {l : List Nat} : res (s.D, n) l = ⟨s.D, n, l⟩ := rfl
theorem clean_D {s : Sto} : clean 2 s.D = true := by
  unfold Sto.D
  simp only [e_clL, e_clC, e_clM, e_clI, e_clN, Bool.and_true]

theorem store_spec {ns : List Int} {Qn Qx} (hl : ns.length ≤ 16777216) (h : Qn ⟨(Sto.mk ns 0 0 0 271828).D, 2, []⟩ [.im (.fl ns)]) : run__law_store [.im (.fl ns)] Qn Qx := by
  unfold run__law_store m__law_store io__law_store
  simp_all! only [res_D, clean_D]
  refine lc_map ns _ (fun i => .im (.int i)) hl (fun a _ K F k => ?_) ?_
  · simp_all! only [res_D, clean_D]
    exact k
  · simp_all! only [res_D, clean_D]
    exact h
theorem Sto.get0 {s : Sto} : atI [D.lst (s.cells.map fun i => .im (.int i)), .im (.int s.pos), .im (.int s.great), .im (.int s.cnt), .im (.int s.mix)] 0 = some (.lst (s.cells.map fun i => .im (.int i))) := rfl
theorem take_spec {st : Sto} {many : Int} {Qn Qx} (hs : st.Ok) (hm : many.natAbs.log2 < 9000)
    (h : ∀ (v : Int) (st' : Sto), st'.Ok → (many < 2 → v = 0) → (2 ≤ many → 0 ≤ v ∧ v < many) → Qn ⟨.im (.int v), 0, []⟩ [st'.D, .im (.int many)]) : run__law_take [st.D, .im (.int many)] Qn Qx := by
  unfold run__law_take m__law_take io__law_take Sto.D
  simp_all! only [res_D, clean_D]
  refine IfK.dec (fun h1 => ?_) fun h1 => ?_
  · simp_all! only [res_D, clean_D]
    exact h 0 st hs (fun _ => rfl) fun _ => by omega
  · simp_all! only [res_D, clean_D]
    refine cut (fun e => ∃ (s : Sto) (o2 o3 : Option (D × Nat)), s.Ok ∧ e = [some (s.D, 2), some (.im (.int many), 0), o2, o3]) (fun K k => ?_) ?_
    · simp_all! only [res_D, clean_D]
      refine IfK.dec (fun h2 => ?_) fun h2 => ?_
      · simp_all! only [res_D, clean_D]
        refine IfK.dec (fun h3 => ?_) fun h3 => ?_
        · obtain ⟨c, _, _, hc⟩ := atI_map (f := fun i => D.im (I.int i)) hs h3
          simp_all! only [res_D, clean_D, hc]
          refine mix_spec ?_
          simp_all! only [res_D, clean_D]
          refine ⟨by decide, ?_⟩
          refine IfK.dec (fun h4 => ?_) fun h4 => ?_
          · simp_all! only [res_D, clean_D]
            repeat' (with_reducible refine And.intro ?_ ?_)
            all_goals first | exact mulC6 (by decide +kernel) | exact k _ ⟨⟨st.cells, _, _, _, _⟩, _, _, by show 0 ≤ st.pos + 1; have := hs; unfold Sto.Ok at this; omega, rfl⟩ | decide +kernel
          · simp_all! only [res_D, clean_D]
            exact k _ ⟨⟨st.cells, _, _, _, _⟩, _, _, by show 0 ≤ st.pos + 1; have := hs; unfold Sto.Ok at this; omega, rfl⟩
        · simp_all! only [res_D, clean_D]
          exact k _ ⟨⟨st.cells, st.pos, st.great, st.cnt + 1, st.mix⟩, _, _, hs, rfl⟩
      · simp_all! only [res_D, clean_D]
        exact k _ ⟨⟨st.cells, st.pos, st.great, st.cnt + 1, st.mix⟩, _, _, hs, rfl⟩
    · rintro e ⟨s, o2, o3, hs', rfl⟩
      simp_all! only [res_D, clean_D, Sto.D]
      refine IfK.dec (fun h2 => ?_) fun h2 => ?_
      · simp_all! only [res_D, clean_D]
        refine ⟨⟨by omega, hm⟩, by omega, ?_⟩
        exact h _ ⟨s.cells, s.pos, s.great / many, s.cnt, s.mix⟩ hs' (fun z => absurd z h1) fun z => ⟨Int.emod_nonneg _ (by omega), Int.emod_lt_of_pos _ (by omega)⟩
      · simp_all! only [res_D, clean_D]
        refine mix_spec ?_
        simp_all! only [res_D, clean_D]
        refine ⟨by omega, ?_⟩
        exact h _ ⟨s.cells, s.pos, s.great, s.cnt, mixZ s.mix s.cnt⟩ hs' (fun z => absurd z h1) fun z => ⟨Int.emod_nonneg _ (by omega), Int.emod_lt_of_pos _ (by omega)⟩

/-- what a call with the store gives -/
def ToSt (a : List D) (p : Int → Prop) (Qn : Tv → List D → Prop) : Prop := ∀ (v : Int) (st : Sto), st.Ok → p v → Qn ⟨.im (.int v), 0, []⟩ (st.D :: a)

theorem span_spec {st : Sto} {low high : Int} {Qn Qx} (hs : st.Ok) (hm : (high - low + 1).natAbs.log2 < 9000)
    (h : ToSt [.im (.int low), .im (.int high)] (fun v => low ≤ v ∧ (v ≤ low ∨ v ≤ high)) Qn) : run__law_span [st.D, .im (.int low), .im (.int high)] Qn Qx := by
  unfold run__law_span m__law_span
  simp_all! only [res_D, clean_D]
  refine IfK.dec (fun h1 => ?_) fun h1 => ?_
  · simp_all! only [res_D, clean_D]
    exact h low st hs ⟨by omega, .inl (by omega)⟩
  · simp_all! only [res_D, clean_D]
    refine take_spec hs (by decide) fun v st' hs' _ hv => ?_
    have hv := hv (by decide)
    simp_all! only [res_D, clean_D]
    refine IfK.dec (fun h2 => ?_) fun h2 => ?_
    · simp_all! only [res_D, clean_D]
      exact h low st' hs' ⟨by omega, .inl (by omega)⟩
    simp_all! only [res_D, clean_D]
    refine IfK.dec (fun h3 => ?_) fun h3 => ?_
    · simp_all! only [res_D, clean_D]
      exact h high st' hs' ⟨by omega, .inr (by omega)⟩
    simp_all! only [res_D, clean_D]
    refine IfK.dec (fun h4 => ?_) fun h4 => ?_
    · simp_all! only [res_D, clean_D]
      exact h (low + 1) st' hs' ⟨by omega, .inr (by omega)⟩
    simp_all! only [res_D, clean_D]
    refine IfK.dec (fun h5 => ?_) fun h5 => ?_
    · simp_all! only [res_D, clean_D]
      exact h _ st' hs' ⟨by omega, .inr (by omega)⟩
    · simp_all! only [res_D, clean_D]
      refine take_spec hs' hm fun v st'' hs'' _ hv => ?_
      have hv := hv (by omega)
      simp_all! only [res_D, clean_D]
      exact h _ st'' hs'' ⟨by omega, .inr (by omega)⟩

theorem whole_spec {i : Int} {Qn Qx} (h : Qn ⟨.im (.bl true), 0, []⟩ [.im (.int i)]) : run__law_whole [.im (.int i)] Qn Qx := by
  unfold run__law_whole m__law_whole
  simp_all! only [res_D, clean_D]
  exact h
def Leaf (d : D) : Prop := (∃ i, d = int i) ∨ d = .im .non ∨ (∃ b, d = bl b) ∨ ∃ s, d = .im (.str s) ∧ shD (.im (.str s))
/-- of n levels, with leaves that == tells -/
def Sm : Nat → D → Prop
  | 0, d => Leaf d
  | n + 1, d => Leaf d ∨ (∃ l : List I, d = .im (.tup l) ∧ l.length ≤ 16777216 ∧ ∀ i ∈ l, Sm n (.im i)) ∨ (∃ l : List D, d = .tup l ∧ l.length ≤ 16777216 ∧ ∀ x ∈ l, Sm n x) ∨ ∃ l : List D, d = .lst l ∧ l.length ≤ 16777216 ∧ ∀ x ∈ l, Sm n x
theorem same_leaf {n : Nat} {d : D} {Qn Qx} (hd : Leaf d) (h : Qn ⟨.im (.bl true), 0, []⟩ [d, d]) : run__law_same (n + 1) [d, d] Qn Qx := by
  rcases hd with ⟨i, rfl⟩ | rfl | ⟨b, rfl⟩ | ⟨s, rfl, hs⟩
  · unfold run__law_same m__law_same
    simp_all! only [res_D, clean_D]
    refine whole_spec ?_
    simp_all! only [res_D, clean_D]
    exact h
  · unfold run__law_same m__law_same
    simp_all! only [res_D, clean_D]
    exact h
  · unfold run__law_same m__law_same
    simp_all! only [res_D, clean_D, beq_self_eq_true]
    exact ⟨⟨rfl, rfl⟩, h⟩
  · unfold run__law_same m__law_same
    simp_all! only [res_D, clean_D, beq_self_eq_true]
    exact ⟨⟨hs, hs⟩, h⟩
theorem same_refl : ∀ {n : Nat} {d : D} {Qn Qx}, Sm n d → Qn ⟨.im (.bl true), 0, []⟩ [d, d] → run__law_same (n + 1) [d, d] Qn Qx
  | 0, d, Qn, Qx, hd, h => same_leaf hd h
  | n + 1, d, Qn, Qx, hd, h => by
    rcases hd with hd | ⟨l, rfl, hl, hx⟩ | ⟨l, rfl, hl, hx⟩ | ⟨l, rfl, hl, hx⟩
    · exact same_leaf hd h
    · unfold run__law_same m__law_same
      simp_all! only [res_D, clean_D]
      refine ⟨by unfold R62; omega, ?_⟩
      refine for_rg (fun i e => 0 ≤ i ∧ ∃ o, e = [some (.im (.tup l), 0), some (.im (.tup l), 0), o]) (fun i e hi ⟨h0, o, he⟩ K k => ?_) (fun i e hi ⟨h0, o, he⟩ => ?_) ⟨by omega, _, rfl⟩
      · subst he
        obtain ⟨x, x1, _, x2⟩ := atI_mem (l := l.map D.im) h0 (by rw [List.length_map]; exact hi)
        obtain ⟨y, y1, rfl⟩ := List.mem_map.mp x1
        simp_all! only [res_D, clean_D, x2]
        refine same_refl (hx y y1) ?_
        simp_all! only [res_D, clean_D]
        exact k _ ⟨by omega, _, rfl⟩
      · subst he
        simp_all! only [res_D, clean_D]
        exact h
    · unfold run__law_same m__law_same
      simp_all! only [res_D, clean_D]
      refine ⟨by unfold R62; omega, ?_⟩
      refine for_rg (fun i e => 0 ≤ i ∧ ∃ o, e = [some (.tup l, 0), some (.tup l, 0), o]) (fun i e hi ⟨h0, o, he⟩ K k => ?_) (fun i e hi ⟨h0, o, he⟩ => ?_) ⟨by omega, _, rfl⟩
      · subst he
        obtain ⟨x, x1, _, x2⟩ := atI_mem h0 hi
        simp_all! only [res_D, clean_D, x2]
        refine same_refl (hx x x1) ?_
        simp_all! only [res_D, clean_D]
        exact k _ ⟨by omega, _, rfl⟩
      · subst he
        simp_all! only [res_D, clean_D]
        exact h
    · unfold run__law_same m__law_same
      simp_all! only [res_D, clean_D]
      refine ⟨by unfold R62; omega, ?_⟩
      refine for_rg (fun i e => 0 ≤ i ∧ ∃ o, e = [some (.lst l, 0), some (.lst l, 0), o]) (fun i e hi ⟨h0, o, he⟩ K k => ?_) (fun i e hi ⟨h0, o, he⟩ => ?_) ⟨by omega, _, rfl⟩
      · subst he
        obtain ⟨x, x1, _, x2⟩ := atI_mem h0 hi
        simp_all! only [res_D, clean_D, x2]
        refine same_refl (hx x x1) ?_
        simp_all! only [res_D, clean_D]
        exact k _ ⟨by omega, _, rfl⟩
      · subst he
        simp_all! only [res_D, clean_D]
        exact h

end Lk

namespace Lk
open PySem PySem.Spec L2 Kv
local macro_rules
  | `(tactic| simp_all! only [$ls,*]) => `(tactic| simp only [↓e_ifT, ↓e_ifF, ↓e_at0, ↓e_atS, ↓e_nx, ↓e_vN, ↓e_vC, ↓e_frzN, ↓e_frzC, ↓e_frz10, ↓e_frz1N, ↓e_frz1S, ↓e_asg, ↓e_set0, ↓e_setS, ↓e_wipeN, ↓e_wipeC, ↓e_resN, ↓e_resC, ↓e_gD0, ↓e_gDS, ↓e_lowN, ↓e_lowC, ↓e_low1N, ↓e_low1S, ↓e_gX0, ↓e_gXS, ↓e_fin, ↓e_vUn, ↓e_vBin, ↓e_vOp, ↓e_apN, ↓e_apI, ↓e_asN, ↓e_asE, ↓e_asI, ↓e_tv, ↓e_tvK, ↓e_trB, ↓e_truB, ↓e_truI, ↓e_andT, ↓e_orT, ↓e_notT, ↓e_ifE, ↓e_bvK, ↓e_andV, ↓e_orV, ↓e_yes, ↓e_skip, ↓e_seq, ↓e_brk, ↓e_cont, ↓e_drop, ↓e_ret, ↓e_retN, ↓e_retV, ↓e_if, ↓e_set, ↓e_for, ↓e_own0, ↓e_ownS, ↓e_olK, ↓e_sixK, ↓e_setIx, ↓e_mut, ↓e_finM, ↓e_app, ↓e_call, ↓e_argN, ↓e_argE, ↓e_argI, ↓e_setON, ↓e_setOE, ↓e_setOI, ↓e_put0, ↓e_putS, ↓e_memN, ↓e_niN, ↓e_ndN, ↓e_nd1, ↓e_ioN, ↓e_ioE, ↓e_ioI, ↓e_run, ↓e_outN, ↓e_out0, ↓e_out1, ↓e_aeN, ↓e_aeC, ↓e_add, ↓e_sub, ↓e_mul, ↓e_div, ↓e_mod, ↓e_pow, ↓e_neg, ↓e_lt, ↓e_le, ↓e_gt, ↓e_ge, ↓e_eq, ↓e_ne, ↓e_not, ↓e_is, ↓e_nA1, ↓e_nA2, ↓e_nA3, ↓e_nA4, ↓e_nA5, ↓e_nA6, ↓e_nA7, ↓e_nA8, ↓e_isN, ↓e_notN, ↓e_ixL, ↓e_ixT, ↓e_ixU, ↓e_tup, ↓e_lst, ↓e_one, ↓e_two, ↓e_mapII, ↓e_mapIf, ↓e_mk0, ↓e_mk1, ↓e_mk2, ↓e_mk3, ↓e_mk4, ↓e_mkM, ↓e_mulT, ↓e_mulL, ↓e_mkR, ↓e_addL, ↓e_addT, ↓e_sl0, ↓e_slL, ↓e_slH, ↓e_slLH, ↓e_slvL, ↓e_slvT, ↓e_slvU, ↓e_intK, ↓e_intsM, ↓e_max, ↓e_min, ↓e_sum, ↓e_lenL, ↓e_lenU, ↓e_lenT, ↓e_abs, ↓e_int, ↓e_intB, ↓e_tupL, ↓e_lstL, ↓e_lstT, ↓e_aI0, ↓e_aI1, ↓e_aI2, ↓e_aI3, ↓e_aI4, ↓e_sI0, ↓e_sI1, ↓e_sI2, ↓e_sI3, ↓e_sI4, ↓e_agN, ↓e_agE, ↓e_agI, ↓e_rg1, ↓e_rgK, ↓e_zip, ↓e_zipT, ↓e_zipL, ↓e_zipI, ↓e_rg2, ↓e_rgKK, ↓e_itE, ↓e_itK, ↓e_sqL, ↓e_sqF, ↓e_sqT, ↓e_sqU, ↓e_lc, ↓e_lcN, ↓e_lcC, ↓e_nm, ↓e_tp, ↓e_tpU, ↓e_bdN, ↓e_bdC, ↓e_forN, ↓e_forC, ↓e_while, ↓e_rev, ↓e_ltX, ↓e_ltT, ↓e_in, ↓e_ni, ↓e_srtI, ↓e_truL, ↓e_truT, ↓e_par, ↓e_eqB, ↓e_cast, ↓e_cast0, ↓e_cast1, ↓e_res0, ↓e_rd0, ↓e_oc0, ↓e_ocN, ↓e_ocS, ↓e_clI, ↓e_clL, ↓e_clM, ↓e_clN, ↓e_clC, ↓e_eqT, ↓e_neT, ↓e_ox0, ↓e_oxS, ↓e_sxK, ↓e_setX, ↓e_lst2, ↓e_vCl, ↓e_clK0, ↓e_clKT, ↓e_clKF, ↓e_mkL, ↓e_clU, ↓e_okN, ↓e_okC, ↓e_okI, ↓e_okL, ↓e_sX0, ↓e_sX1, ↓e_sX2, ↓e_sX3, ↓e_sX4, ↓e_asgT, ↓e_lc2c, ↓e_eqS, ↓e_neS, ↓e_boolM, ↓e_all, ↓e_any, ↓e_lrg, ↓e_ins, ↓e_rgL, ↓e_rgKL, ↓e_eqLI, ↓e_neLT, ↓e_try, ↓e_tryK, ↓e_raise, ↓e_isX, ↓e_con, ↓e_mv, ↓e_ix2, ↓e_ix20, ↓e_ix21, ↓e_tup2, ↓e_enum, ↓e_enumK, ↓e_divX, ↓e_forO, ↓e_owO, ↓e_owOS, res_im, res_lst, res_tup, rdN_im, rdN_lst0, rdN_lst1, rdN_tup0, rdN_tup1, List.map_cons, List.map_nil, List.flatMap_cons, List.flatMap_nil, List.append_nil, List.nil_append, List.cons_append, and_true, true_and, List.filter_nil, List.tail_cons, Option.map_some, List.replicate_succ, List.replicate_zero, List.length_cons, List.length_nil, List.length_map, decide_true, decide_false, Bool.not_true, Bool.not_false, Bool.not_not, true_or, or_true, Bool.and_true, Bool.true_and, Bool.and_self, implies_true, Int.reduceEq, Int.reduceAdd, Int.reduceSub, reduceIte, if_true, eq_self, ite_self, isT, Kv.isNon, Nat.reduceLeDiff, Nat.reduceAdd, Nat.reduceSub, List.flatten_replicate_singleton, Int.reduceLT, Int.reduceLE, Int.reducePow, Int.reduceToNat, Int.reduceNeg, io_divisor_of_two, io_common_divisor, io_one_length, io_first_place, io_primitive, io_cancelled, io_swept, io_dependence, io_is_dependence, io_rank, io__law_mix, io__law_store, io__law_take, io__law_span, io__law_pick, io__law_put, io__law_whole, io__law_same, io__law_nil, io__law_multiple, io__law_far, io__law_columns, io__law_bad_counts, io__law_common, io__law_depends, io__law_clean, io__law_eliminated, io__law_try, io__law_lists_of, io__law_columns_right, io__law_unlike_right, io_law, $ls,*])

theorem log_len {n : Nat} (h : n ≤ 16777216) : ((n : Int).natAbs).log2 < 9000 := by
  have := log_le (a := (n : Int)) (k := 24) (by omega)
  omega
theorem pick_spec {α : Type} {st : Sto} {l : List α} {f : α → I} {Qn Qx} (hs : st.Ok) (h0 : 0 < l.length ∧ l.length ≤ 16777216) (h : ∀ (a : α) (st : Sto), st.Ok → a ∈ l → Qn ⟨.im (f a), 0, []⟩ [st.D, .lst (l.map fun a => .im (f a))]) : run__law_pick [st.D, .lst (l.map fun a => .im (f a))] Qn Qx := by
  unfold run__law_pick m__law_pick
  simp_all! only [res_D, clean_D]
  refine take_spec hs (log_len h0.2) fun v st1 hs1 v1 v2 => ?_
  have hv : 0 ≤ v ∧ v < l.length := by
    by_cases q : (l.length : Int) < 2
    · rw [v1 q]; omega
    · exact v2 (by omega)
  obtain ⟨a, a1, _, ha⟩ := atI_map (f := fun a => D.im (f a)) hv.1 hv.2
  simp_all! only [res_D, clean_D, ha]
  exact h a st1 hs1 a1
theorem put_spec {l : List D} {at_ : Int} {d : I} {Qn Qx} (h0 : 0 ≤ at_) (h1 : at_ < l.length) (hl : l.length ≤ 16777216) (h : Qn ⟨.lst (l.set at_.toNat (.im d)), 1, []⟩ [.lst l, .im (.int at_), .im d]) : run__law_put [.lst l, .im (.int at_), .im d] Qn Qx := by
  unfold run__law_put m__law_put
  have e1 := cut_hi (l := l) h0
  have e2 := cut_lo (l := l) (i := at_ + 1) (by omega)
  have e3 := put_cut (l := l) (i := at_.toNat) (d := D.im d) (by omega)
  rw [show at_.toNat + 1 = (at_ + 1).toNat by omega] at e3
  simp_all! only [res_D, clean_D, e1, e2, e3]
  refine ⟨?_, ?_, h⟩
  · rw [List.length_take]; omega
  · rw [List.length_append, List.length_take, List.length_drop]
    simp only [List.length_cons, List.length_nil]
    omega
/-! ### vectors of ints -/
theorem mapI {α : Type} (l : List α) (f : α → Int) : (l.map fun i => I.int (f i)) = (l.map f).map I.int := by rw [List.map_map]; rfl
def dotL (p q : List Int) : Int := ((p.zip q).map fun x => x.1 * x.2).sum
def addL (p q : List Int) : List Int := (p.zip q).map fun x => x.1 + x.2
def mulL (p : List Int) (z : Int) : List Int := p.map fun n => n * z
def absI (a : Int) : Int := if a < 0 then -a else a
theorem zip_get {p q : List Int} {i : Nat} {x : Int × Int} (h : (p.zip q)[i]? = some x) : p[i]? = some x.1 ∧ q[i]? = some x.2 := by
  have := List.getElem?_zip_eq_some (z := x) |>.mp h
  exact this
theorem atII {l : List Int} {i : Nat} {c : Int} (h : l[i]? = some c) : atI (l.map fun i => D.im (I.int i)) (i : Int) = some (.im (.int c)) := by
  have hb : i < l.length := (List.getElem?_eq_some_iff.mp h).1
  obtain ⟨c', _, e, q⟩ := atI_map (f := fun i => D.im (I.int i)) (l := l) (i := (i : Int)) (by omega) (by omega)
  rw [Int.toNat_natCast, h] at e
  rw [q, Option.some.inj e]
theorem far_spec {p : List Int} {Qn Qx} (hl : p.length ≤ 16777216) (h0 : 0 < p.length) (h : Qn ⟨.im (.int (maxI (p.map absI))), 0, []⟩ [tI p]) : run__law_far [tI p] Qn Qx := by
  unfold run__law_far m__law_far
  simp_all! only [res_D, clean_D]
  refine lc_map p _ (fun x => .im (.int (absI x))) hl (fun a ha K F k => ?_) ?_
  · simp_all! only [res_D, clean_D]
    exact k
  · simp_all! only [res_D, clean_D]
    exact ⟨by simpa using h0, h⟩
theorem multiple_spec {p : List Int} {z : Int} {Qn Qx} (hl : p.length ≤ 16777216) (hm : ∀ a ∈ p, MulC a z) (h : Qn ⟨tI (mulL p z), 0, []⟩ [tI p, .im (.int z)]) : run__law_multiple [tI p, .im (.int z)] Qn Qx := by
  unfold run__law_multiple m__law_multiple
  simp_all! only [res_D, clean_D]
  refine lc_map p _ (fun x => .im (.int (x * z))) hl (fun a ha K F k => ?_) ?_
  · simp_all! only [res_D, clean_D]
    exact ⟨hm a ha, k⟩
  · simp_all! only [res_D, clean_D]
    rw [mapI]
    exact h
theorem nil_spec {d : Int} {Qn Qx} (h0 : 0 ≤ d ∧ d ≤ 1000) (h : Qn ⟨tI (List.replicate d.toNat 0), 0, []⟩ [.im (.int d)]) : run__law_nil [.im (.int d)] Qn Qx := by
  unfold run__law_nil m__law_nil
  simp_all! only [res_D, clean_D]
  refine ⟨by unfold R62; omega, ?_⟩
  refine lc_rgn (List.replicate d.toNat (0 : Int)) (fun x => .im (.int x)) (by rw [List.length_replicate]; omega) (by rw [List.length_replicate]; omega) (fun i a ha K F k => ?_) ?_
  · have : a = 0 := List.eq_of_mem_replicate (List.mem_of_getElem? ha)
    subst this
    simp_all! only [res_D, clean_D]
    exact k
  · simp_all! only [res_D, clean_D]
    exact h
theorem nat_mod (a b : Nat) : (a : Int) % (b : Int) = ((a % b : Nat) : Int) := (Int.natCast_emod a b).symm
theorem gcd_step (a b : Nat) : Nat.gcd b (a % b) = Nat.gcd a b := by
  rw [Nat.gcd_comm b (a % b), ← Nat.gcd_rec, Nat.gcd_comm]
theorem abs_nat (x : Int) : (if x < 0 then -x else x) = (x.natAbs : Int) := by split <;> omega
theorem divisor2_spec {a b : Nat} {Qn Qx} (h : Qn ⟨.im (.int (Nat.gcd a b)), 0, []⟩ [.im (.int a), .im (.int b)]) : run_divisor_of_two [.im (.int a), .im (.int b)] Qn Qx := by
  unfold run_divisor_of_two m_divisor_of_two
  simp_all! only [res_D, clean_D]
  refine while_ind (fun m e => ∃ x y : Nat, Nat.gcd x y = Nat.gcd a b ∧ m = y ∧ e = [some (int x, 0), some (int y, 0)]) ⟨b, a, b, rfl, rfl, rfl⟩ fun m e ⟨x, y, hg, hm, he⟩ K k => ?_
  subst he
  simp_all! only [res_D, clean_D]
  refine IfK.dec (fun c => ?_) fun c => ?_
  · simp_all! only [res_D, clean_D]
    refine ⟨c, ?_⟩
    rw [nat_mod]
    exact k (x % y) _ (by rw [hm]; exact Nat.mod_lt _ (by omega)) ⟨y, x % y, (gcd_step x y).trans hg, rfl, rfl⟩
  · have : y = 0 := by omega
    subst this
    rw [Nat.gcd_zero_right] at hg
    subst hg
    simp_all! only [res_D, clean_D]
    exact h
def gcdF (l : List Int) : Nat := l.foldl (fun g x => Nat.gcd g x.natAbs) 0
theorem common_spec {l : List Int} {Qn Qx} (h : Qn ⟨.im (.int (gcdF l)), 0, []⟩ [.lst (l.map fun i => .im (.int i))]) : run_common_divisor [.lst (l.map fun i => .im (.int i))] Qn Qx := by
  unfold run_common_divisor m_common_divisor
  simp_all! only [res_D, clean_D]
  refine for_ind (fun ds e => ∃ (rest : List Int) (g : Nat) (o : Option (D × Nat)), ds = rest.map (fun i => .im (.int i)) ∧ rest.foldl (fun g x => Nat.gcd g x.natAbs) g = gcdF l ∧ e = [some (.lst (l.map fun i => .im (.int i)), 0), some (int g, 0), o]) (fun d r e ⟨rest, g, o, h1, h2, he⟩ K k => ?_) (fun e ⟨rest, g, o, h1, h2, he⟩ => ?_) ⟨l, 0, none, rfl, rfl, rfl⟩
  · subst he
    cases rest with
    | nil => cases h1
    | cons x rest =>
      cases h1
      simp_all! only [res_D, clean_D, abs_nat]
      refine divisor2_spec ?_
      simp_all! only [res_D, clean_D]
      exact k _ ⟨rest, Nat.gcd g x.natAbs, _, rfl, h2, rfl⟩
  · subst he
    cases rest with
    | cons x rest => cases h1
    | nil =>
      have : g = gcdF l := h2
      subst this
      simp_all! only [res_D, clean_D]
      exact h
theorem euclid_half {x y : Nat} (h : y < x) (hy : 0 < y) : 2 * (y * (x % y)) ≤ x * y := by
  have h1 := Nat.mod_lt x hy
  have h2 := Nat.div_add_mod x y
  have h3 : 1 ≤ x / y := Nat.div_pos (by omega) hy
  have h4 : y * 1 ≤ y * (x / y) := Nat.mul_le_mul_left y h3
  have h5 : 2 * (x % y) ≤ x := by omega
  have := Nat.mul_le_mul_left y h5
  rw [Nat.mul_comm x y, ← Nat.mul_assoc, Nat.mul_comm 2 y, Nat.mul_assoc]
  exact this
/-! ### the handled error -/
theorem bad_spec {a : Addr} {Qn Qx} (h : Qn ⟨.im (.bl true), 0, []⟩ [.im (.adr a "BadCounts")]) : run__law_bad_counts a ⟨"BadCounts", []⟩ [.im (.adr a "BadCounts")] Qn Qx := by
  unfold run__law_bad_counts m__law_bad_counts
  have f1 : isaB "BadCounts" "BadLine" = false := by decide +kernel
  have f2 : isaB "BadCounts" "DayClosed" = false := by decide +kernel
  have f3 : isaB "BadCounts" "NothingToUndo" = false := by decide +kernel
  have f4 : isaB "BadCounts" "NotPlain" = false := by decide +kernel
  have f5 : isaB "BadCounts" "NotAllEnds" = false := by decide +kernel
  have f6 : isaB "BadCounts" "NotAnEnd" = false := by decide +kernel
  have f7 : isaB "BadCounts" "BadName" = false := by decide +kernel
  have f8 : isaB "BadCounts" "BadStep" = false := by decide +kernel
  have f9 : isaB "BadCounts" "BadWindow" = false := by decide +kernel
  have f10 : isaB "BadCounts" "BadRig" = false := by decide +kernel
  have f11 : isaB "BadCounts" "BadEnds" = false := by decide +kernel
  have f12 : isaB "BadCounts" "OffLedger" = false := by decide +kernel
  have f13 : isaB "BadCounts" "TooLong" = false := by decide +kernel
  have f14 : isaB "BadCounts" "NotLaid" = false := by decide +kernel
  have f15 : isaB "BadCounts" "BadPaper" = false := by decide +kernel
  have f16 : isaB "BadCounts" "BadCounts" = true := by decide +kernel
  have f17 : isaB "BadCounts" "ValueError" = true := by decide +kernel
  simp_all! only [res_D, clean_D, f1, f2, f3, f4, f5, f6, f7, f8, f9, f10, f11, f12, f13, f14, f15, f16, f17]
  simp only [boolsOf, Option.map_some, List.any_cons, List.any_nil, id, Bool.or_false]
  simp_all! only [res_D, clean_D]
  exact h

end Lk

namespace Lk
open PySem PySem.Spec L2 Kv
local macro_rules
  | `(tactic| simp_all! only [$ls,*]) => `(tactic| simp only [↓e_ifT, ↓e_ifF, ↓e_at0, ↓e_atS, ↓e_nx, ↓e_vN, ↓e_vC, ↓e_frzN, ↓e_frzC, ↓e_frz10, ↓e_frz1N, ↓e_frz1S, ↓e_asg, ↓e_set0, ↓e_setS, ↓e_wipeN, ↓e_wipeC, ↓e_resN, ↓e_resC, ↓e_gD0, ↓e_gDS, ↓e_lowN, ↓e_lowC, ↓e_low1N, ↓e_low1S, ↓e_gX0, ↓e_gXS, ↓e_fin, ↓e_vUn, ↓e_vBin, ↓e_vOp, ↓e_apN, ↓e_apI, ↓e_asN, ↓e_asE, ↓e_asI, ↓e_tv, ↓e_tvK, ↓e_trB, ↓e_truB, ↓e_truI, ↓e_andT, ↓e_orT, ↓e_notT, ↓e_ifE, ↓e_bvK, ↓e_andV, ↓e_orV, ↓e_yes, ↓e_skip, ↓e_seq, ↓e_brk, ↓e_cont, ↓e_drop, ↓e_ret, ↓e_retN, ↓e_retV, ↓e_if, ↓e_set, ↓e_for, ↓e_own0, ↓e_ownS, ↓e_olK, ↓e_sixK, ↓e_setIx, ↓e_mut, ↓e_finM, ↓e_app, ↓e_call, ↓e_argN, ↓e_argE, ↓e_argI, ↓e_setON, ↓e_setOE, ↓e_setOI, ↓e_put0, ↓e_putS, ↓e_memN, ↓e_niN, ↓e_ndN, ↓e_nd1, ↓e_ioN, ↓e_ioE, ↓e_ioI, ↓e_run, ↓e_outN, ↓e_out0, ↓e_out1, ↓e_aeN, ↓e_aeC, ↓e_add, ↓e_sub, ↓e_mul, ↓e_div, ↓e_mod, ↓e_pow, ↓e_neg, ↓e_lt, ↓e_le, ↓e_gt, ↓e_ge, ↓e_eq, ↓e_ne, ↓e_not, ↓e_is, ↓e_nA1, ↓e_nA2, ↓e_nA3, ↓e_nA4, ↓e_nA5, ↓e_nA6, ↓e_nA7, ↓e_nA8, ↓e_isN, ↓e_notN, ↓e_ixL, ↓e_ixT, ↓e_ixU, ↓e_tup, ↓e_lst, ↓e_one, ↓e_two, ↓e_mapII, ↓e_mapIf, ↓e_mk0, ↓e_mk1, ↓e_mk2, ↓e_mk3, ↓e_mk4, ↓e_mkM, ↓e_mulT, ↓e_mulL, ↓e_mkR, ↓e_addL, ↓e_addT, ↓e_sl0, ↓e_slL, ↓e_slH, ↓e_slLH, ↓e_slvL, ↓e_slvT, ↓e_slvU, ↓e_intK, ↓e_intsM, ↓e_max, ↓e_min, ↓e_sum, ↓e_lenL, ↓e_lenU, ↓e_lenT, ↓e_abs, ↓e_int, ↓e_intB, ↓e_tupL, ↓e_lstL, ↓e_lstT, ↓e_aI0, ↓e_aI1, ↓e_aI2, ↓e_aI3, ↓e_aI4, ↓e_sI0, ↓e_sI1, ↓e_sI2, ↓e_sI3, ↓e_sI4, ↓e_agN, ↓e_agE, ↓e_agI, ↓e_rg1, ↓e_rgK, ↓e_zip, ↓e_zipT, ↓e_zipL, ↓e_zipI, ↓e_rg2, ↓e_rgKK, ↓e_itE, ↓e_itK, ↓e_sqL, ↓e_sqF, ↓e_sqT, ↓e_sqU, ↓e_lc, ↓e_lcN, ↓e_lcC, ↓e_nm, ↓e_tp, ↓e_tpU, ↓e_bdN, ↓e_bdC, ↓e_forN, ↓e_forC, ↓e_while, ↓e_rev, ↓e_ltX, ↓e_ltT, ↓e_in, ↓e_ni, ↓e_srtI, ↓e_truL, ↓e_truT, ↓e_par, ↓e_eqB, ↓e_cast, ↓e_cast0, ↓e_cast1, ↓e_res0, ↓e_rd0, ↓e_oc0, ↓e_ocN, ↓e_ocS, ↓e_clI, ↓e_clL, ↓e_clM, ↓e_clN, ↓e_clC, ↓e_eqT, ↓e_neT, ↓e_ox0, ↓e_oxS, ↓e_sxK, ↓e_setX, ↓e_lst2, ↓e_vCl, ↓e_clK0, ↓e_clKT, ↓e_clKF, ↓e_mkL, ↓e_clU, ↓e_okN, ↓e_okC, ↓e_okI, ↓e_okL, ↓e_sX0, ↓e_sX1, ↓e_sX2, ↓e_sX3, ↓e_sX4, ↓e_asgT, ↓e_lc2c, ↓e_eqS, ↓e_neS, ↓e_boolM, ↓e_all, ↓e_any, ↓e_lrg, ↓e_ins, ↓e_rgL, ↓e_rgKL, ↓e_eqLI, ↓e_neLT, ↓e_try, ↓e_tryK, ↓e_raise, ↓e_isX, ↓e_con, ↓e_mv, ↓e_ix2, ↓e_ix20, ↓e_ix21, ↓e_tup2, ↓e_enum, ↓e_enumK, ↓e_divX, ↓e_forO, ↓e_owO, ↓e_owOS, res_im, res_lst, res_tup, rdN_im, rdN_lst0, rdN_lst1, rdN_tup0, rdN_tup1, List.map_cons, List.map_nil, List.flatMap_cons, List.flatMap_nil, List.append_nil, List.nil_append, List.cons_append, and_true, true_and, List.filter_nil, List.tail_cons, Option.map_some, List.replicate_succ, List.replicate_zero, List.length_cons, List.length_nil, List.length_map, decide_true, decide_false, Bool.not_true, Bool.not_false, Bool.not_not, true_or, or_true, Bool.and_true, Bool.true_and, Bool.and_self, implies_true, Int.reduceEq, Int.reduceAdd, Int.reduceSub, reduceIte, if_true, eq_self, ite_self, isT, Kv.isNon, Nat.reduceLeDiff, Nat.reduceAdd, Nat.reduceSub, List.flatten_replicate_singleton, Int.reduceLT, Int.reduceLE, Int.reducePow, Int.reduceToNat, Int.reduceNeg, io_divisor_of_two, io_common_divisor, io_one_length, io_first_place, io_primitive, io_cancelled, io_swept, io_dependence, io_is_dependence, io_rank, io__law_mix, io__law_store, io__law_take, io__law_span, io__law_pick, io__law_put, io__law_whole, io__law_same, io__law_nil, io__law_multiple, io__law_far, io__law_columns, io__law_bad_counts, io__law_common, io__law_depends, io__law_clean, io__law_eliminated, io__law_try, io__law_lists_of, io__law_columns_right, io__law_unlike_right, io_law, $ls,*])

abbrev lI (l : List Int) : D := .lst (l.map fun i => .im (.int i))
theorem len_cast {a b : Nat} : decide ((a : Int) = (b : Int)) = decide (a = b) := by
  rw [Bool.eq_iff_iff, decide_eq_true_iff, decide_eq_true_iff]; omega
def fpI (l : List Int) : Int := match fpz l with
  | some z => z.1
  | none => -1
theorem first_spec {l : List Int} {Qn Qx} (h : Qn ⟨.im (.int (fpI l)), 0, []⟩ [lI l]) : run_first_place [lI l] Qn Qx := by
  unfold run_first_place m_first_place
  simp_all! only [res_D, clean_D]
  rw [show (fun i => D.im (I.int i)) = fun i => .im (I.int i) from rfl, enumD_map I.int 0 l]
  refine for_ind (fun ds e => ∃ (pre rest : List Int) (o1 o2 : Option (D × Nat)), l = pre ++ rest ∧ ds = (rest.zipIdx pre.length).map (fun q => .im (.tup [.int (q.2 : Int), .int q.1])) ∧ (∀ x ∈ pre, x = 0) ∧ e = [some (lI l, 0), o1, o2]) (fun d r e ⟨pre, rest, o1, o2, h1, h2, h3, he⟩ K k => ?_) (fun e ⟨pre, rest, o1, o2, h1, h2, h3, he⟩ => ?_) ⟨[], l, none, none, rfl, rfl, fun _ h => (nomatch h), rfl⟩
  · subst he
    cases rest with
    | nil => cases h2
    | cons x rest =>
      rw [List.zipIdx_cons] at h2
      cases h2
      simp_all! only [res_D, clean_D]
      refine IfK.ndec (fun c => ?_) fun c => ?_
      · have := fpz_app (rest := rest) h3 c
        rw [← h1] at this
        unfold fpI at h
        rw [this] at h
        simp_all! only [res_D, clean_D]
        exact h
      · simp_all! only [res_D, clean_D]
        refine k _ ⟨pre ++ [x], rest, _, _, by rw [h1]; simp, by rw [List.length_append]; rfl, fun y hy => ?_, rfl⟩
        rcases List.mem_append.mp hy with hy | hy
        · exact h3 y hy
        · rw [List.mem_singleton.mp hy]; exact c
  · subst he
    cases rest with
    | cons x rest => rw [List.zipIdx_cons] at h2; cases h2
    | nil =>
      rw [List.append_nil] at h1
      unfold fpI at h
      rw [fpz_zero (by rw [h1]; exact h3)] at h
      simp_all! only [res_D, clean_D]
      exact h
theorem one_spec {cols : List (List Int)} {Qn Qx} (hl : cols.length ≤ 1000) (h : Qn ⟨.im (.bl (cols.all fun c => decide (c.length = (cols.headD []).length))), 0, []⟩ [.lst (cols.map tI)]) : run_one_length [.lst (cols.map tI)] Qn Qx := by
  unfold run_one_length m_one_length
  simp_all! only [res_D, clean_D]
  refine lc_map cols _ (fun c => bl (decide (c.length = (cols.headD []).length))) (by omega) (fun c hc K F k => ?_) ?_
  · cases cols with
    | nil => cases hc
    | cons c0 cols =>
      simp_all! only [res_D, clean_D, len_cast]
      exact k
  have e : (cols.map fun c => decide (c.length = (cols.headD []).length)).all id = cols.all fun c => decide (c.length = (cols.headD []).length) := by rw [List.all_map]; rfl
  simp_all! only [res_D, clean_D, e]
  exact h
theorem at_of {l : List Int} {i : Nat} {x : Int} (h : l[i]? = some x) : atI (l.map fun i => D.im (I.int i)) (i : Int) = some (int x) := atII h
theorem log_pow {a : Int} {n : Nat} (h : a.natAbs < 2 ^ n) (hn : 0 < n ∧ n ≤ 9000) : a.natAbs.log2 < 9000 := by
  have := log_le (a := a) (k := n - 1) (by rw [show n - 1 + 1 = n by omega]; exact h)
  omega
theorem gcdF_gf (l : List Int) : gcdF l = gf 0 l := rfl
theorem primitive_spec {l : List Int} {i n : Nat} {f : Int} {Qn Qx} (hf : fpz l = some (i, f)) (hb : Bd n l) (hn : 0 < n ∧ n ≤ 9000) (hl : l.length ≤ 1000) (h : Qn ⟨lI (prim l f), 1, []⟩ [lI l]) : run_primitive [lI l] Qn Qx := by
  unfold run_primitive m_primitive
  obtain ⟨h1, h2⟩ := fpz_some hf
  have fp : fpI l = i := by unfold fpI; rw [hf]
  have at1 := at_of h1
  obtain ⟨c0, c1, c2⟩ := prim_mul hf
  have lg : (sgnG l f).natAbs.log2 < 9000 := log_pow (n := n) (by rw [c1]; exact gf_lt hb) hn
  simp_all! only [res_D, clean_D]
  refine common_spec ?_
  simp_all! only [res_D, clean_D]
  refine cut (fun e => e = [some (lI l, 0), some (int (sgnG l f), 0), none]) (fun K k => ?_) ?_
  · simp_all! only [res_D, clean_D]
    refine first_spec ?_
    simp_all! only [res_D, clean_D, fp, at1]
    refine IfK.dec (fun c => ?_) fun c => ?_
    · simp_all! only [res_D, clean_D]
      exact k _ (by unfold sgnG; rw [if_pos c]; rfl)
    · simp_all! only [res_D, clean_D]
      exact k _ (by unfold sgnG; rw [if_neg c]; rfl)
  rintro e rfl
  simp_all! only [res_D, clean_D]
  refine lc_map l _ (fun x => int (x.fdiv (sgnG l f))) (by omega) (fun x hx K F k => ?_) ?_
  · simp_all! only [res_D, clean_D]
    exact ⟨⟨c0, lg⟩, k⟩
  simp_all! only [res_D, clean_D]
  have e : (l.map fun x => int (x.fdiv (sgnG l f))) = (prim l f).map fun i => .im (.int i) := by unfold prim; rw [List.map_map]; rfl
  rw [e]
  exact h
def rowD (r : Rw) : D := .tup [int r.pl, lI r.vec, lI r.mix]
theorem getD_at {l : List Int} {i : Nat} (h : i < l.length) : atI (l.map fun i => D.im (I.int i)) (i : Int) = some (int (l.getD i 0)) := by
  refine at_of ?_
  rw [List.getElem?_eq_getElem h, List.getD_eq_getElem?_getD, List.getElem?_eq_getElem h]
  rfl
theorem lin_D {b o : Int} {v r : List Int} : ((v.zip r).map fun x => int (b * x.1 - o * x.2)) = (lin b o v r).map fun i => .im (.int i) := by
  unfold lin
  rw [List.map_map]
  rfl
theorem NB4 {k d : Nat} (h : k ≤ d) (hd : d ≤ 4) : NB k ≤ 335 := Nat.le_trans (NB_mono (Nat.le_trans h hd)) (by decide)
theorem bd_mul {a b : Int} {m n : Nat} (ha : a.natAbs < 2 ^ m) (hb : b.natAbs < 2 ^ n) (hm : m ≤ 3001 ∧ n ≤ 3001) : MulC a b := mulC6 ⟨Nat.lt_of_lt_of_le ha (Nat.pow_le_pow_right (by decide) hm.1), Nat.lt_of_lt_of_le hb (Nat.pow_le_pow_right (by decide) hm.2)⟩
theorem cancelled_spec {d n j : Nat} {rows : List Rw} {v : List Int} {Qn Qx} (g : GR d n j rows) (hd : d ≤ 4) (hn : n ≤ 1000) (g0 : GS d n j 0 rows (v, unitL n j)) (h : Qn ⟨.tup [lI (elim (v, unitL n j) rows).1, lI (elim (v, unitL n j) rows).2], 0, []⟩ [lI v, lI (unitL n j), .lst (rows.map rowD)]) :
    run_cancelled [lI v, lI (unitL n j), .lst (rows.map rowD)] Qn Qx := by
  unfold run_cancelled m_cancelled
  have rl := g.len
  simp_all! only [res_D, clean_D]
  refine forO_ind (fun ds e => ∃ (k n1 : Nat) (o3 o4 o5 o6 o7 : Option (D × Nat)), k ≤ rows.length ∧ ds = (rows.drop k).map rowD ∧ (n1 = 0 ∨ n1 = 1) ∧ e = [some (lI (elim (v, unitL n j) (rows.take k)).1, n1), some (lI (elim (v, unitL n j) (rows.take k)).2, n1), some (.lst (rows.map rowD), 1), o3, o4, o5, o6, o7, none, none]) (fun r e ⟨k, n1, o3, o4, o5, o6, o7, h1, h2, h3, he⟩ => by rw [he]; rfl) (fun d' r e ⟨k, n1, o3, o4, o5, o6, o7, h1, h2, h3, he⟩ K kk => ?_) (fun e ⟨k, n1, o3, o4, o5, o6, o7, h1, h2, h3, he⟩ => ?_) ⟨0, 0, none, none, none, none, none, Nat.zero_le _, rfl, .inl rfl, rfl⟩
  · subst he
    by_cases hk : k < rows.length
    · rw [List.drop_eq_getElem_cons hk] at h2
      cases h2
      have gs := GS.all g g0 k h1
      have er := List.getElem?_eq_getElem hk
      generalize rows[k] = rw0 at er
      have e1 : rows.take (k + 1) = rows.take k ++ [rw0] := by
        rw [List.take_succ_eq_append_getElem hk]
        congr 2
        rw [List.getElem?_eq_getElem hk] at er
        exact Option.some.inj er
      have e2 : elim (v, unitL n j) (rows.take (k + 1)) = step (elim (v, unitL n j) (rows.take k)) rw0 := by
        rw [e1]; unfold elim; rw [List.foldl_append]; rfl
      obtain ⟨⟨l1, l2⟩, ⟨p1, p2⟩, ⟨b1, b2⟩, _⟩ := g.r k rw0 er
      have nb := NB4 (show k ≤ d by omega) hd
      generalize elim (v, unitL n j) (rows.take k) = S at gs e2
      have a1 := getD_at (l := rw0.vec) (i := rw0.pl) (by omega)
      have a2 := getD_at (l := S.1) (i := rw0.pl) (by rw [gs.l.1]; exact p1)
      have fin : ∀ (e : En), (∃ n1 o3 o4 o5 o6 o7, (n1 = 0 ∨ n1 = 1) ∧ e = [some (lI (step S rw0).1, n1), some (lI (step S rw0).2, n1), some (.lst (rows.map rowD), 1), o3, o4, o5, o6, o7, none, none]) → K e := fun e ⟨n1, o3, o4, o5, o6, o7, hn, he⟩ => kk e ⟨k + 1, n1, o3, o4, o5, o6, o7, hk, rfl, hn, by rw [e2]; exact he⟩
      have er0 : rowD rw0 = .tup [int rw0.pl, lI rw0.vec, lI rw0.mix] := rfl
      rcases h3 with rfl | rfl
      · simp_all! only [res_D, clean_D, er0, a1, a2]
        refine IfK.ndec (fun c => ?_) fun c => ?_
        · simp_all! only [res_D, clean_D]
          refine lc_map (S.1.zip rw0.vec) _ (fun x => int (rw0.vec.getD rw0.pl 0 * x.1 - S.1.getD rw0.pl 0 * x.2)) (by rw [List.length_zip]; have := gs.l.1; omega) (fun x hx K F k => ?_) ?_
          · simp_all! only [res_D, clean_D]
            exact ⟨bd_mul (b1.getD _) (gs.b.1 _ (List.of_mem_zip hx).1) (by omega), bd_mul (gs.b.1.getD _) (b1 _ (List.of_mem_zip hx).2) (by omega), k⟩
          rw [lin_D]
          simp_all! only [res_D, clean_D]
          refine lc_map (S.2.zip rw0.mix) _ (fun x => int (rw0.vec.getD rw0.pl 0 * x.1 - S.1.getD rw0.pl 0 * x.2)) (by rw [List.length_zip]; have := gs.l.2; omega) (fun x hx K F k => ?_) ?_
          · simp_all! only [res_D, clean_D]
            exact ⟨bd_mul (b1.getD _) (gs.b.2 _ (List.of_mem_zip hx).1) (by omega), bd_mul (gs.b.1.getD _) (b2 _ (List.of_mem_zip hx).2) (by omega), k⟩
          rw [lin_D]
          simp_all! only [res_D, clean_D]
          exact fin _ ⟨1, _, _, _, _, _, .inr rfl, by unfold step; rw [if_neg c]⟩
        · simp_all! only [res_D, clean_D]
          exact fin _ ⟨0, _, _, _, _, _, .inl rfl, by unfold step; rw [if_pos c]⟩
      · simp_all! only [res_D, clean_D, er0, a1, a2]
        refine IfK.ndec (fun c => ?_) fun c => ?_
        · simp_all! only [res_D, clean_D]
          refine lc_map (S.1.zip rw0.vec) _ (fun x => int (rw0.vec.getD rw0.pl 0 * x.1 - S.1.getD rw0.pl 0 * x.2)) (by rw [List.length_zip]; have := gs.l.1; omega) (fun x hx K F k => ?_) ?_
          · simp_all! only [res_D, clean_D]
            exact ⟨bd_mul (b1.getD _) (gs.b.1 _ (List.of_mem_zip hx).1) (by omega), bd_mul (gs.b.1.getD _) (b1 _ (List.of_mem_zip hx).2) (by omega), k⟩
          rw [lin_D]
          simp_all! only [res_D, clean_D]
          refine lc_map (S.2.zip rw0.mix) _ (fun x => int (rw0.vec.getD rw0.pl 0 * x.1 - S.1.getD rw0.pl 0 * x.2)) (by rw [List.length_zip]; have := gs.l.2; omega) (fun x hx K F k => ?_) ?_
          · simp_all! only [res_D, clean_D]
            exact ⟨bd_mul (b1.getD _) (gs.b.2 _ (List.of_mem_zip hx).1) (by omega), bd_mul (gs.b.1.getD _) (b2 _ (List.of_mem_zip hx).2) (by omega), k⟩
          rw [lin_D]
          simp_all! only [res_D, clean_D]
          exact fin _ ⟨1, _, _, _, _, _, .inr rfl, by unfold step; rw [if_neg c]⟩
        · simp_all! only [res_D, clean_D]
          exact fin _ ⟨1, _, _, _, _, _, .inr rfl, by unfold step; rw [if_pos c]⟩
    · rw [List.drop_eq_nil_of_le (by omega)] at h2
      cases h2
  · subst he
    have : k = rows.length := by
      by_cases hk : k < rows.length
      · rw [List.drop_eq_getElem_cons hk] at h2; cases h2
      · omega
    subst this
    rw [List.take_length]
    rcases h3 with rfl | rfl
    · simp_all! only [res_D, clean_D]
      exact h
    · simp_all! only [res_D, clean_D]
      exact h

end Lk

namespace Lk
open PySem PySem.Spec L2 Kv
local macro_rules
  | `(tactic| simp_all! only [$ls,*]) => `(tactic| simp only [↓e_ifT, ↓e_ifF, ↓e_at0, ↓e_atS, ↓e_nx, ↓e_vN, ↓e_vC, ↓e_frzN, ↓e_frzC, ↓e_frz10, ↓e_frz1N, ↓e_frz1S, ↓e_asg, ↓e_set0, ↓e_setS, ↓e_wipeN, ↓e_wipeC, ↓e_resN, ↓e_resC, ↓e_gD0, ↓e_gDS, ↓e_lowN, ↓e_lowC, ↓e_low1N, ↓e_low1S, ↓e_gX0, ↓e_gXS, ↓e_fin, ↓e_vUn, ↓e_vBin, ↓e_vOp, ↓e_apN, ↓e_apI, ↓e_asN, ↓e_asE, ↓e_asI, ↓e_tv, ↓e_tvK, ↓e_trB, ↓e_truB, ↓e_truI, ↓e_andT, ↓e_orT, ↓e_notT, ↓e_ifE, ↓e_bvK, ↓e_andV, ↓e_orV, ↓e_yes, ↓e_skip, ↓e_seq, ↓e_brk, ↓e_cont, ↓e_drop, ↓e_ret, ↓e_retN, ↓e_retV, ↓e_if, ↓e_set, ↓e_for, ↓e_own0, ↓e_ownS, ↓e_olK, ↓e_sixK, ↓e_setIx, ↓e_mut, ↓e_finM, ↓e_app, ↓e_call, ↓e_argN, ↓e_argE, ↓e_argI, ↓e_setON, ↓e_setOE, ↓e_setOI, ↓e_put0, ↓e_putS, ↓e_memN, ↓e_niN, ↓e_ndN, ↓e_nd1, ↓e_ioN, ↓e_ioE, ↓e_ioI, ↓e_run, ↓e_outN, ↓e_out0, ↓e_out1, ↓e_aeN, ↓e_aeC, ↓e_add, ↓e_sub, ↓e_mul, ↓e_div, ↓e_mod, ↓e_pow, ↓e_neg, ↓e_lt, ↓e_le, ↓e_gt, ↓e_ge, ↓e_eq, ↓e_ne, ↓e_not, ↓e_is, ↓e_nA1, ↓e_nA2, ↓e_nA3, ↓e_nA4, ↓e_nA5, ↓e_nA6, ↓e_nA7, ↓e_nA8, ↓e_isN, ↓e_notN, ↓e_ixL, ↓e_ixT, ↓e_ixU, ↓e_tup, ↓e_lst, ↓e_one, ↓e_two, ↓e_mapII, ↓e_mapIf, ↓e_mk0, ↓e_mk1, ↓e_mk2, ↓e_mk3, ↓e_mk4, ↓e_mkM, ↓e_mulT, ↓e_mulL, ↓e_mkR, ↓e_addL, ↓e_addT, ↓e_sl0, ↓e_slL, ↓e_slH, ↓e_slLH, ↓e_slvL, ↓e_slvT, ↓e_slvU, ↓e_intK, ↓e_intsM, ↓e_max, ↓e_min, ↓e_sum, ↓e_lenL, ↓e_lenU, ↓e_lenT, ↓e_abs, ↓e_int, ↓e_intB, ↓e_tupL, ↓e_lstL, ↓e_lstT, ↓e_aI0, ↓e_aI1, ↓e_aI2, ↓e_aI3, ↓e_aI4, ↓e_sI0, ↓e_sI1, ↓e_sI2, ↓e_sI3, ↓e_sI4, ↓e_agN, ↓e_agE, ↓e_agI, ↓e_rg1, ↓e_rgK, ↓e_zip, ↓e_zipT, ↓e_zipL, ↓e_zipI, ↓e_rg2, ↓e_rgKK, ↓e_itE, ↓e_itK, ↓e_sqL, ↓e_sqF, ↓e_sqT, ↓e_sqU, ↓e_lc, ↓e_lcN, ↓e_lcC, ↓e_nm, ↓e_tp, ↓e_tpU, ↓e_bdN, ↓e_bdC, ↓e_forN, ↓e_forC, ↓e_while, ↓e_rev, ↓e_ltX, ↓e_ltT, ↓e_in, ↓e_ni, ↓e_srtI, ↓e_truL, ↓e_truT, ↓e_par, ↓e_eqB, ↓e_cast, ↓e_cast0, ↓e_cast1, ↓e_res0, ↓e_rd0, ↓e_oc0, ↓e_ocN, ↓e_ocS, ↓e_clI, ↓e_clL, ↓e_clM, ↓e_clN, ↓e_clC, ↓e_eqT, ↓e_neT, ↓e_ox0, ↓e_oxS, ↓e_sxK, ↓e_setX, ↓e_lst2, ↓e_vCl, ↓e_clK0, ↓e_clKT, ↓e_clKF, ↓e_mkL, ↓e_clU, ↓e_okN, ↓e_okC, ↓e_okI, ↓e_okL, ↓e_sX0, ↓e_sX1, ↓e_sX2, ↓e_sX3, ↓e_sX4, ↓e_asgT, ↓e_lc2c, ↓e_eqS, ↓e_neS, ↓e_boolM, ↓e_all, ↓e_any, ↓e_lrg, ↓e_ins, ↓e_rgL, ↓e_rgKL, ↓e_eqLI, ↓e_neLT, ↓e_try, ↓e_tryK, ↓e_raise, ↓e_isX, ↓e_con, ↓e_mv, ↓e_ix2, ↓e_ix20, ↓e_ix21, ↓e_tup2, ↓e_enum, ↓e_enumK, ↓e_divX, ↓e_forO, ↓e_owO, ↓e_owOS, res_im, res_lst, res_tup, rdN_im, rdN_lst0, rdN_lst1, rdN_tup0, rdN_tup1, List.map_cons, List.map_nil, List.flatMap_cons, List.flatMap_nil, List.append_nil, List.nil_append, List.cons_append, and_true, true_and, List.filter_nil, List.tail_cons, Option.map_some, List.replicate_succ, List.replicate_zero, List.length_cons, List.length_nil, List.length_map, decide_true, decide_false, Bool.not_true, Bool.not_false, Bool.not_not, true_or, or_true, Bool.and_true, Bool.true_and, Bool.and_self, implies_true, Int.reduceEq, Int.reduceAdd, Int.reduceSub, reduceIte, if_true, eq_self, ite_self, isT, Kv.isNon, Nat.reduceLeDiff, Nat.reduceAdd, Nat.reduceSub, List.flatten_replicate_singleton, Int.reduceLT, Int.reduceLE, Int.reducePow, Int.reduceToNat, Int.reduceNeg, io_divisor_of_two, io_common_divisor, io_one_length, io_first_place, io_primitive, io_cancelled, io_swept, io_dependence, io_is_dependence, io_rank, io__law_mix, io__law_store, io__law_take, io__law_span, io__law_pick, io__law_put, io__law_whole, io__law_same, io__law_nil, io__law_multiple, io__law_far, io__law_columns, io__law_bad_counts, io__law_common, io__law_depends, io__law_clean, io__law_eliminated, io__law_try, io__law_lists_of, io__law_columns_right, io__law_unlike_right, io_law, $ls,*])

def foundD : Option (List Int) → D × Nat
  | none => (.im .non, 0)
  | some l => (lI l, 1)
def foundT (n : Nat) : Option (List Int) → Tv
  | none => ⟨.im (.tup [.int n, .non]), 0, []⟩
  | some l => ⟨.tup [int n, lI l], 1, []⟩
theorem unit_D {n j : Nat} : ((List.range n).map fun k => int (if k = j then 1 else 0)) = (unitL n j).map fun i => .im (.int i) := by
  unfold unitL
  rw [List.map_map]
  rfl
def foundAt (cols : List (List Int)) : Nat → Option (List Int)
  | 0 => none
  | j + 1 => match foundAt cols j with
    | some l => some l
    | none => match fpz (elim (cols.getD j [], unitL cols.length j) (rowsAt cols j)).1 with
      | some _ => none
      | none => (fpz (elim (cols.getD j [], unitL cols.length j) (rowsAt cols j)).2).map fun z => prim (elim (cols.getD j [], unitL cols.length j) (rowsAt cols j)).2 z.2
theorem swept_spec {cols : List (List Int)} {d : Nat} {Qn Qx} (hc : Cols cols d) (h : ∀ o : Option (List Int), o = foundAt cols cols.length → (∀ l, o = some l → Dep cols d l) → (o = none → (rowsAt cols cols.length).length = cols.length) → Qn (foundT (rowsAt cols cols.length).length o) [.lst (cols.map tI)]) : run_swept [.lst (cols.map tI)] Qn Qx := by
  unfold run_swept m_swept
  have hn := hc.n
  simp_all! only [res_D, clean_D]
  rw [enumD_map (fun s => I.tup (s.map I.int)) 0 cols]
  refine for_ind (fun ds e => ∃ (j : Nat) (o : Option (List Int)) (o3 o4 o5 o6 o7 o8 : Option (D × Nat)), j ≤ cols.length ∧ ds = ((cols.drop j).zipIdx j).map (fun q => .im (.tup [.int (q.2 : Int), .tup (q.1.map I.int)])) ∧ o = foundAt cols j ∧ (∀ l, o = some l → Dep cols d l) ∧ (o = none → (rowsAt cols j).length = j) ∧ e = [some (.lst (cols.map tI), 0), some (.lst ((rowsAt cols j).map rowD), 1), some (foundD o), o3, o4, o5, o6, o7, o8, none])
    (fun d' r e ⟨j, o, o3, o4, o5, o6, o7, o8, h1, h2, h0, h3, h4, he⟩ K k => ?_) (fun e ⟨j, o, o3, o4, o5, o6, o7, o8, h1, h2, h0, h3, h4, he⟩ => ?_) ⟨0, none, none, none, none, none, none, none, Nat.zero_le _, rfl, rfl, fun _ h => (nomatch h), fun _ => rfl, rfl⟩
  · subst he
    by_cases hj : j < cols.length
    · rw [List.drop_eq_getElem_cons hj, List.zipIdx_cons] at h2
      cases h2
      have gd := good_all hc j h1
      obtain ⟨g0, ga, gb⟩ := good_gs hc hj gd
      have dp := dep_of hc hj gd
      have hca := hc.at hj
      have er : rowsAt cols (j + 1) = (match fpz (elim (cols.getD j [], unitL cols.length j) (rowsAt cols j)).1 with
        | some z => rowsAt cols j ++ [⟨z.1, (elim (cols.getD j [], unitL cols.length j) (rowsAt cols j)).1, (elim (cols.getD j [], unitL cols.length j) (rowsAt cols j)).2⟩]
        | none => rowsAt cols j) := rfl
      have hl := gd.g.len
      have ef : foundAt cols (j + 1) = (match foundAt cols j with
        | some l => some l
        | none => match fpz (elim (cols.getD j [], unitL cols.length j) (rowsAt cols j)).1 with
          | some _ => none
          | none => (fpz (elim (cols.getD j [], unitL cols.length j) (rowsAt cols j)).2).map fun z => prim (elim (cols.getD j [], unitL cols.length j) (rowsAt cols j)).2 z.2) := rfl
      rw [← h0] at ef
      have ec : cols[j] = cols.getD j [] := by rw [List.getD_eq_getElem?_getD, List.getElem?_eq_getElem hj]; rfl
      rw [ec]
      generalize cols.getD j [] = c at *
      simp_all! only [res_D, clean_D]
      refine ⟨by unfold R62; omega, ?_⟩
      rw [rgD_nat]
      refine lc_map (List.range cols.length) _ (fun k => int (if k = j then 1 else 0)) (by rw [List.length_range]; omega) (fun a ha K F k => ?_) ?_
      · simp_all! only [res_D, clean_D]
        refine IfK.dec (fun q => ?_) fun q => ?_
        · rw [if_pos (by omega)] at k
          simp_all! only [res_D, clean_D]
          exact k
        · rw [if_neg (by omega)] at k
          simp_all! only [res_D, clean_D]
          exact k
      rw [unit_D]
      simp_all! only [res_D, clean_D]
      refine cancelled_spec gd.g hc.dd.2 (by omega) g0 ?_
      simp_all! only [res_D, clean_D]
      generalize elim (c, unitL cols.length j) (rowsAt cols j) = S at *
      refine first_spec ?_
      cases ez : fpz S.1 with
      | some z =>
        have e1 : fpI S.1 = z.1 := by unfold fpI; rw [ez]
        have e2 : rowsAt cols (j + 1) = rowsAt cols j ++ [⟨z.1, S.1, S.2⟩] := by rw [er, ez]
        simp_all! only [res_D, clean_D, e1]
        refine IfK.dec (fun q => ?_) fun q => ?_
        · simp_all! only [res_D, clean_D]
          exact ⟨by have := hc.dd; omega, k _ ⟨j + 1, o, _, _, _, _, _, _, hj, rfl, by rw [ef, ez]; cases o <;> rfl, h3, fun z => by rw [e2, List.length_append, h4 z]; rfl, by rw [e2, List.map_append]; rfl⟩⟩
        · omega
      | none =>
        obtain ⟨i, f, f1, f2, f3, f4⟩ := dp ez
        have e1 : fpI S.1 = -1 := by unfold fpI; rw [ez]
        have e2 : rowsAt cols (j + 1) = rowsAt cols j := by rw [er, ez]
        cases o with
        | some l =>
          simp only [foundD] at k ⊢
          simp_all! only [res_D, clean_D, e1]
          exact k _ ⟨j + 1, some l, _, _, _, _, _, _, hj, rfl, ef.symm, h3, fun z => (nomatch z), by rw [e2]⟩
        | none =>
          simp only [foundD] at k ⊢
          simp_all! only [res_D, clean_D, e1]
          refine primitive_spec f1 f2 (by decide) (by omega) ?_
          simp_all! only [res_D, clean_D]
          exact k _ ⟨j + 1, some (prim S.2 f), _, _, _, _, _, _, hj, rfl, by rw [ef, ez, f1]; rfl, fun l hl => (by cases hl; exact f4), fun z => (nomatch z), by rw [e2]⟩
    · rw [List.drop_eq_nil_of_le (by omega)] at h2
      cases h2
  · subst he
    have ej : j = cols.length := by
      by_cases hj : j < cols.length
      · rw [List.drop_eq_getElem_cons hj, List.zipIdx_cons] at h2; cases h2
      · omega
    subst ej
    have hh := h o h0 h3 h4
    cases o with
    | none =>
      simp only [foundD, foundT] at hh ⊢
      simp_all! only [res_D, clean_D]
      exact hh
    | some l =>
      simp only [foundD, foundT] at hh ⊢
      simp_all! only [res_D, clean_D]
      exact hh

end Lk

namespace Lk
open PySem PySem.Spec L2 Kv
local macro_rules
  | `(tactic| simp_all! only [$ls,*]) => `(tactic| simp only [↓e_ifT, ↓e_ifF, ↓e_at0, ↓e_atS, ↓e_nx, ↓e_vN, ↓e_vC, ↓e_frzN, ↓e_frzC, ↓e_frz10, ↓e_frz1N, ↓e_frz1S, ↓e_asg, ↓e_set0, ↓e_setS, ↓e_wipeN, ↓e_wipeC, ↓e_resN, ↓e_resC, ↓e_gD0, ↓e_gDS, ↓e_lowN, ↓e_lowC, ↓e_low1N, ↓e_low1S, ↓e_gX0, ↓e_gXS, ↓e_fin, ↓e_vUn, ↓e_vBin, ↓e_vOp, ↓e_apN, ↓e_apI, ↓e_asN, ↓e_asE, ↓e_asI, ↓e_tv, ↓e_tvK, ↓e_trB, ↓e_truB, ↓e_truI, ↓e_andT, ↓e_orT, ↓e_notT, ↓e_ifE, ↓e_bvK, ↓e_andV, ↓e_orV, ↓e_yes, ↓e_skip, ↓e_seq, ↓e_brk, ↓e_cont, ↓e_drop, ↓e_ret, ↓e_retN, ↓e_retV, ↓e_if, ↓e_set, ↓e_for, ↓e_own0, ↓e_ownS, ↓e_olK, ↓e_sixK, ↓e_setIx, ↓e_mut, ↓e_finM, ↓e_app, ↓e_call, ↓e_argN, ↓e_argE, ↓e_argI, ↓e_setON, ↓e_setOE, ↓e_setOI, ↓e_put0, ↓e_putS, ↓e_memN, ↓e_niN, ↓e_ndN, ↓e_nd1, ↓e_ioN, ↓e_ioE, ↓e_ioI, ↓e_run, ↓e_outN, ↓e_out0, ↓e_out1, ↓e_aeN, ↓e_aeC, ↓e_add, ↓e_sub, ↓e_mul, ↓e_div, ↓e_mod, ↓e_pow, ↓e_neg, ↓e_lt, ↓e_le, ↓e_gt, ↓e_ge, ↓e_eq, ↓e_ne, ↓e_not, ↓e_is, ↓e_nA1, ↓e_nA2, ↓e_nA3, ↓e_nA4, ↓e_nA5, ↓e_nA6, ↓e_nA7, ↓e_nA8, ↓e_isN, ↓e_notN, ↓e_ixL, ↓e_ixT, ↓e_ixU, ↓e_tup, ↓e_lst, ↓e_one, ↓e_two, ↓e_mapII, ↓e_mapIf, ↓e_mk0, ↓e_mk1, ↓e_mk2, ↓e_mk3, ↓e_mk4, ↓e_mkM, ↓e_mulT, ↓e_mulL, ↓e_mkR, ↓e_addL, ↓e_addT, ↓e_sl0, ↓e_slL, ↓e_slH, ↓e_slLH, ↓e_slvL, ↓e_slvT, ↓e_slvU, ↓e_intK, ↓e_intsM, ↓e_max, ↓e_min, ↓e_sum, ↓e_lenL, ↓e_lenU, ↓e_lenT, ↓e_abs, ↓e_int, ↓e_intB, ↓e_tupL, ↓e_lstL, ↓e_lstT, ↓e_aI0, ↓e_aI1, ↓e_aI2, ↓e_aI3, ↓e_aI4, ↓e_sI0, ↓e_sI1, ↓e_sI2, ↓e_sI3, ↓e_sI4, ↓e_agN, ↓e_agE, ↓e_agI, ↓e_rg1, ↓e_rgK, ↓e_zip, ↓e_zipT, ↓e_zipL, ↓e_zipI, ↓e_rg2, ↓e_rgKK, ↓e_itE, ↓e_itK, ↓e_sqL, ↓e_sqF, ↓e_sqT, ↓e_sqU, ↓e_lc, ↓e_lcN, ↓e_lcC, ↓e_nm, ↓e_tp, ↓e_tpU, ↓e_bdN, ↓e_bdC, ↓e_forN, ↓e_forC, ↓e_while, ↓e_rev, ↓e_ltX, ↓e_ltT, ↓e_in, ↓e_ni, ↓e_srtI, ↓e_truL, ↓e_truT, ↓e_par, ↓e_eqB, ↓e_cast, ↓e_cast0, ↓e_cast1, ↓e_res0, ↓e_rd0, ↓e_oc0, ↓e_ocN, ↓e_ocS, ↓e_clI, ↓e_clL, ↓e_clM, ↓e_clN, ↓e_clC, ↓e_eqT, ↓e_neT, ↓e_ox0, ↓e_oxS, ↓e_sxK, ↓e_setX, ↓e_lst2, ↓e_vCl, ↓e_clK0, ↓e_clKT, ↓e_clKF, ↓e_mkL, ↓e_clU, ↓e_okN, ↓e_okC, ↓e_okI, ↓e_okL, ↓e_sX0, ↓e_sX1, ↓e_sX2, ↓e_sX3, ↓e_sX4, ↓e_asgT, ↓e_lc2c, ↓e_eqS, ↓e_neS, ↓e_boolM, ↓e_all, ↓e_any, ↓e_lrg, ↓e_ins, ↓e_rgL, ↓e_rgKL, ↓e_eqLI, ↓e_neLT, ↓e_try, ↓e_tryK, ↓e_raise, ↓e_isX, ↓e_con, ↓e_mv, ↓e_ix2, ↓e_ix20, ↓e_ix21, ↓e_tup2, ↓e_enum, ↓e_enumK, ↓e_divX, ↓e_forO, ↓e_owO, ↓e_owOS, res_im, res_lst, res_tup, rdN_im, rdN_lst0, rdN_lst1, rdN_tup0, rdN_tup1, List.map_cons, List.map_nil, List.flatMap_cons, List.flatMap_nil, List.append_nil, List.nil_append, List.cons_append, and_true, true_and, List.filter_nil, List.tail_cons, Option.map_some, List.replicate_succ, List.replicate_zero, List.length_cons, List.length_nil, List.length_map, decide_true, decide_false, Bool.not_true, Bool.not_false, Bool.not_not, true_or, or_true, Bool.and_true, Bool.true_and, Bool.and_self, implies_true, Int.reduceEq, Int.reduceAdd, Int.reduceSub, reduceIte, if_true, eq_self, ite_self, isT, Kv.isNon, Nat.reduceLeDiff, Nat.reduceAdd, Nat.reduceSub, List.flatten_replicate_singleton, Int.reduceLT, Int.reduceLE, Int.reducePow, Int.reduceToNat, Int.reduceNeg, io_divisor_of_two, io_common_divisor, io_one_length, io_first_place, io_primitive, io_cancelled, io_swept, io_dependence, io_is_dependence, io_rank, io__law_mix, io__law_store, io__law_take, io__law_span, io__law_pick, io__law_put, io__law_whole, io__law_same, io__law_nil, io__law_multiple, io__law_far, io__law_columns, io__law_bad_counts, io__law_common, io__law_depends, io__law_clean, io__law_eliminated, io__law_try, io__law_lists_of, io__law_columns_right, io__law_unlike_right, io_law, $ls,*])

theorem zip_lc : ∀ {l : List Int} {C : List (List Int)}, zipD (l.map fun i => .im (.int i)) (C.map tI) = (l.zip C).map fun q => .im (.tup [.int q.1, .tup (q.2.map I.int)])
  | [], _ => by simp [zipD]
  | _ :: _, [] => by simp [zipD]
  | a :: l, b :: C => by
    show mkTup [.im (.int a), tI b] :: zipD (l.map fun i => .im (.int i)) (C.map tI) = _
    rw [zip_lc]
    rfl
noncomputable def isDep (cols : List (List Int)) (d : Nat) (l : List Int) : Bool := @decide (Dep cols d l) (Classical.propDecidable _)
theorem isDep_t {cols : List (List Int)} {d : Nat} {l : List Int} (h : Dep cols d l) : isDep cols d l = true := @decide_eq_true _ (Classical.propDecidable _) h
theorem isDep_f {cols : List (List Int)} {d : Nat} {l : List Int} (h : ¬ Dep cols d l) : isDep cols d l = false := @decide_eq_false _ (Classical.propDecidable _) h
theorem one_all {cols : List (List Int)} {d : Nat} (hc : Cols cols d) : (cols.all fun c => decide (c.length = (cols.headD []).length)) = true := by
  rw [List.all_eq_true]
  intro c h
  rw [decide_eq_true_iff]
  cases cols with
  | nil => cases h
  | cons c0 cols => rw [(hc.c c h).1]; exact (hc.c c0 List.mem_cons_self).1.symm
theorem Cols.head {c : List Int} {cols : List (List Int)} {d : Nat} (hc : Cols (c :: cols) d) : c.length = d := (hc.c c List.mem_cons_self).1
/-- the columns that dependence takes -/
def DepOk (cols : List (List Int)) (d : Nat) : Prop := d < cols.length
theorem dependence_ok {cols : List (List Int)} {d : Nat} {Qn Qx} (hc : Cols cols d) (hd : d < cols.length) (h : ∀ l, foundAt cols cols.length = some l → Dep cols d l → Qn ⟨lI l, 1, []⟩ [.lst (cols.map tI)]) : run_dependence [.lst (cols.map tI)] Qn Qx := by
  unfold run_dependence m_dependence
  have oa := one_all hc
  cases cols with
  | nil => cases hd
  | cons c0 cols =>
    have c0l := hc.head
    have hn := hc.n
    have hd' : d < cols.length + 1 := hd
    simp_all! only [res_D, clean_D]
    refine IfK.dec (fun q => ?_) fun q => ?_
    · exfalso; omega
    simp_all! only [res_D, clean_D]
    refine one_spec (cols := c0 :: cols) (by simp at hn ⊢; omega) ?_
    rw [oa]
    simp_all! only [res_D, clean_D]
    refine IfK.dec (fun q => ?_) fun q => ?_
    · exfalso; omega
    simp_all! only [res_D, clean_D]
    refine swept_spec (cols := c0 :: cols) hc fun o e h1 h2 => ?_
    cases o with
    | none =>
      exfalso
      have := h2 rfl
      have := (good_all hc _ (Nat.le_refl _)).g.len
      omega
    | some l =>
      simp only [foundT]
      simp_all! only [res_D, clean_D]
      exact h l e.symm (h1 l rfl)
theorem dependence_no {cols : List (List Int)} {Qn Qx} (hn : cols.length ≤ 1000) (hd : cols = [] ∨ (cols.all fun c => decide (c.length = (cols.headD []).length)) = false ∨ cols.length ≤ (cols.headD []).length) (h : Qx ⟨"BadCounts", []⟩ [.lst (cols.map tI)]) : run_dependence [.lst (cols.map tI)] Qn Qx := by
  unfold run_dependence m_dependence
  cases cols with
  | nil =>
    simp_all! only [res_D, clean_D]
    exact h
  | cons c0 cols =>
    simp_all! only [res_D, clean_D]
    refine IfK.dec (fun q => ?_) fun q => ?_
    · exfalso; omega
    simp_all! only [res_D, clean_D]
    refine one_spec (cols := c0 :: cols) hn ?_
    by_cases qa : ((c0 :: cols).all fun c => decide (c.length = ((c0 :: cols).headD []).length)) = false
    · rw [qa]
      simp_all! only [res_D, clean_D]
      exact h
    · rw [Bool.of_not_eq_false qa]
      simp_all! only [res_D, clean_D]
      refine IfK.dec (fun q => ?_) fun q => ?_
      · simp_all! only [res_D, clean_D]
        exact h
      · exfalso
        rcases hd with hd | hd | hd
        · cases hd
        · exact qa hd
        · simp at hd; omega
theorem rank_ok {cols : List (List Int)} {d : Nat} {Qn Qx} (hc : Cols cols d) (h : Qn ⟨int (rowsAt cols cols.length).length, 0, []⟩ [.lst (cols.map tI)]) : run_rank [.lst (cols.map tI)] Qn Qx := by
  unfold run_rank m_rank
  have oa := one_all hc
  have hn := hc.n
  simp_all! only [res_D, clean_D]
  refine one_spec (by omega) ?_
  rw [oa]
  simp_all! only [res_D, clean_D]
  refine swept_spec hc fun o e h1 h2 => ?_
  cases o with
  | none =>
    simp only [foundT]
    simp_all! only [res_D, clean_D]
    exact h
  | some l =>
    simp only [foundT]
    simp_all! only [res_D, clean_D]
    exact h
theorem rank_no {cols : List (List Int)} {Qn Qx} (hn : cols.length ≤ 1000) (hd : (cols.all fun c => decide (c.length = (cols.headD []).length)) = false) (h : Qx ⟨"BadCounts", []⟩ [.lst (cols.map tI)]) : run_rank [.lst (cols.map tI)] Qn Qx := by
  unfold run_rank m_rank
  simp_all! only [res_D, clean_D]
  refine one_spec hn ?_
  rw [hd]
  simp_all! only [res_D, clean_D]
  exact h
theorem isdep_no {cols : List (List Int)} {l : List Int} {Qn Qx} (hn : cols.length ≤ 1000) (hd : (cols.all fun c => decide (c.length = (cols.headD []).length)) = false) (h : Qn ⟨bl false, 0, []⟩ [.lst (cols.map tI), lI l]) : run_is_dependence [.lst (cols.map tI), lI l] Qn Qx := by
  unfold run_is_dependence m_is_dependence
  simp_all! only [res_D, clean_D]
  refine IfK.ndec (fun q => ?_) fun q => ?_
  · simp_all! only [res_D, clean_D]
    exact h
  simp_all! only [res_D, clean_D]
  refine one_spec hn ?_
  rw [hd]
  simp_all! only [res_D, clean_D]
  exact h
theorem isdep_ok {cols : List (List Int)} {d : Nat} {l : List Int} {Qn Qx} (hc : Cols cols d) (hl : l.length ≤ 1000) (hb : Bd 3000 l) (h : Qn ⟨bl (isDep cols d l), 0, []⟩ [.lst (cols.map tI), lI l]) : run_is_dependence [.lst (cols.map tI), lI l] Qn Qx := by
  unfold run_is_dependence m_is_dependence
  have oa := one_all hc
  have hn := hc.n
  simp_all! only [res_D, clean_D]
  refine IfK.ndec (fun q => ?_) fun q => ?_
  · simp_all! only [res_D, clean_D]
    rw [isDep_f fun z => q (by have := z.n; omega)] at h
    exact h
  simp_all! only [res_D, clean_D]
  refine one_spec (by omega) ?_
  rw [oa]
  simp_all! only [res_D, clean_D]
  refine first_spec ?_
  cases ez : fpz l with
  | none =>
    have e1 : fpI l = -1 := by unfold fpI; rw [ez]
    simp_all! only [res_D, clean_D, e1]
    rw [isDep_f fun z => by obtain ⟨i, x, z, _⟩ := z.f; rw [ez] at z; cases z] at h
    exact h
  | some z =>
    obtain ⟨i, x⟩ := z
    have e1 : fpI l = i := by unfold fpI; rw [ez]
    have at1 := at_of (fpz_some ez).1
    simp_all! only [res_D, clean_D, e1]
    refine IfK.dec (fun q1 => ?_) fun q1 => ?_
    · exfalso; omega
    simp_all! only [res_D, clean_D, at1]
    refine IfK.dec (fun q1 => ?_) fun q1 => ?_
    · simp_all! only [res_D, clean_D]
      rw [isDep_f fun z => by obtain ⟨i, x, z, z1⟩ := z.f; rw [ez] at z; cases z; omega] at h
      exact h
    simp_all! only [res_D, clean_D]
    refine common_spec ?_
    rw [gcdF_gf]
    simp_all! only [res_D, clean_D]
    refine IfK.ndec (fun q2 => ?_) fun q2 => ?_
    · simp_all! only [res_D, clean_D]
      rw [isDep_f fun z => q2 (by rw [z.g]; rfl)] at h
      exact h
    cases cols with
    | nil =>
      exfalso
      have : l = [] := by cases l with
        | nil => rfl
        | cons _ _ => simp at q; omega
      subst this
      cases ez
    | cons c0 cols =>
    have c0l := hc.head
    simp_all! only [res_D, clean_D]
    refine ⟨by unfold R62; have := hc.dd; omega, ?_⟩
    generalize eC : c0 :: cols = C at *
    rw [show tI c0 :: List.map tI cols = List.map tI C by rw [← eC]; rfl]
    refine for_rg (fun i' e => ∃ (o : Option (D × Nat)), 0 ≤ i' ∧ (∀ k : Nat, (k : Int) < i' → dotR l C k = 0) ∧ e = [some (.lst (C.map tI), 0), some (lI l, 0), some (int i, 0), o, none, none]) (fun i' e hi ⟨o, h0, h1, he⟩ K k => ?_) (fun i' e hi ⟨o, h0, h1, he⟩ => ?_) ⟨none, by omega, fun k hk => (by omega), rfl⟩
    · subst he
      obtain ⟨i', rfl⟩ := Int.eq_ofNat_of_zero_le h0
      simp_all! only [res_D, clean_D]
      rw [zip_lc]
      refine lc_map (l.zip C) _ (fun x => int (x.1 * x.2.getD i' 0)) (by rw [List.length_zip]; omega) (fun x hx K F k => ?_) ?_
      · have m1 := List.of_mem_zip hx
        have m2 := hc.c _ m1.2
        have at2 := getD_at (l := x.2) (i := i') (by omega)
        simp_all! only [res_D, clean_D, at2]
        exact ⟨bd_mul (hb _ m1.1) (m2.2.getD _) (by decide), k⟩
      have e5 : ((l.zip C).map fun x => x.1 * x.2.getD i' 0).sum = dotR l C i' := rfl
      simp_all! only [res_D, clean_D, e5]
      refine IfK.ndec (fun q3 => ?_) fun q3 => ?_
      · simp_all! only [res_D, clean_D]
        rw [isDep_f fun z => q3 (z.z i' (by omega))] at h
        exact h
      · simp_all! only [res_D, clean_D]
        refine k _ ⟨_, by omega, fun k hk => ?_, rfl⟩
        by_cases q4 : k = i'
        · subst q4; exact q3
        · exact h1 k (by omega)
    · subst he
      simp_all! only [res_D, clean_D]
      have x0 := (fpz_some ez).2
      rw [isDep_t ⟨by omega, by omega, ⟨i, x, ez, by omega⟩, fun k hk => h1 k (by omega)⟩] at h
      exact h

end Lk

namespace Lk
open PySem PySem.Spec L2 Kv
local macro_rules
  | `(tactic| simp_all! only [$ls,*]) => `(tactic| simp only [↓e_ifT, ↓e_ifF, ↓e_at0, ↓e_atS, ↓e_nx, ↓e_vN, ↓e_vC, ↓e_frzN, ↓e_frzC, ↓e_frz10, ↓e_frz1N, ↓e_frz1S, ↓e_asg, ↓e_set0, ↓e_setS, ↓e_wipeN, ↓e_wipeC, ↓e_resN, ↓e_resC, ↓e_gD0, ↓e_gDS, ↓e_lowN, ↓e_lowC, ↓e_low1N, ↓e_low1S, ↓e_gX0, ↓e_gXS, ↓e_fin, ↓e_vUn, ↓e_vBin, ↓e_vOp, ↓e_apN, ↓e_apI, ↓e_asN, ↓e_asE, ↓e_asI, ↓e_tv, ↓e_tvK, ↓e_trB, ↓e_truB, ↓e_truI, ↓e_andT, ↓e_orT, ↓e_notT, ↓e_ifE, ↓e_bvK, ↓e_andV, ↓e_orV, ↓e_yes, ↓e_skip, ↓e_seq, ↓e_brk, ↓e_cont, ↓e_drop, ↓e_ret, ↓e_retN, ↓e_retV, ↓e_if, ↓e_set, ↓e_for, ↓e_own0, ↓e_ownS, ↓e_olK, ↓e_sixK, ↓e_setIx, ↓e_mut, ↓e_finM, ↓e_app, ↓e_call, ↓e_argN, ↓e_argE, ↓e_argI, ↓e_setON, ↓e_setOE, ↓e_setOI, ↓e_put0, ↓e_putS, ↓e_memN, ↓e_niN, ↓e_ndN, ↓e_nd1, ↓e_ioN, ↓e_ioE, ↓e_ioI, ↓e_run, ↓e_outN, ↓e_out0, ↓e_out1, ↓e_aeN, ↓e_aeC, ↓e_add, ↓e_sub, ↓e_mul, ↓e_div, ↓e_mod, ↓e_pow, ↓e_neg, ↓e_lt, ↓e_le, ↓e_gt, ↓e_ge, ↓e_eq, ↓e_ne, ↓e_not, ↓e_is, ↓e_nA1, ↓e_nA2, ↓e_nA3, ↓e_nA4, ↓e_nA5, ↓e_nA6, ↓e_nA7, ↓e_nA8, ↓e_isN, ↓e_notN, ↓e_ixL, ↓e_ixT, ↓e_ixU, ↓e_tup, ↓e_lst, ↓e_one, ↓e_two, ↓e_mapII, ↓e_mapIf, ↓e_mk0, ↓e_mk1, ↓e_mk2, ↓e_mk3, ↓e_mk4, ↓e_mkM, ↓e_mulT, ↓e_mulL, ↓e_mkR, ↓e_addL, ↓e_addT, ↓e_sl0, ↓e_slL, ↓e_slH, ↓e_slLH, ↓e_slvL, ↓e_slvT, ↓e_slvU, ↓e_intK, ↓e_intsM, ↓e_max, ↓e_min, ↓e_sum, ↓e_lenL, ↓e_lenU, ↓e_lenT, ↓e_abs, ↓e_int, ↓e_intB, ↓e_tupL, ↓e_lstL, ↓e_lstT, ↓e_aI0, ↓e_aI1, ↓e_aI2, ↓e_aI3, ↓e_aI4, ↓e_sI0, ↓e_sI1, ↓e_sI2, ↓e_sI3, ↓e_sI4, ↓e_agN, ↓e_agE, ↓e_agI, ↓e_rg1, ↓e_rgK, ↓e_zip, ↓e_zipT, ↓e_zipL, ↓e_zipI, ↓e_rg2, ↓e_rgKK, ↓e_itE, ↓e_itK, ↓e_sqL, ↓e_sqF, ↓e_sqT, ↓e_sqU, ↓e_lc, ↓e_lcN, ↓e_lcC, ↓e_nm, ↓e_tp, ↓e_tpU, ↓e_bdN, ↓e_bdC, ↓e_forN, ↓e_forC, ↓e_while, ↓e_rev, ↓e_ltX, ↓e_ltT, ↓e_in, ↓e_ni, ↓e_srtI, ↓e_truL, ↓e_truT, ↓e_par, ↓e_eqB, ↓e_cast, ↓e_cast0, ↓e_cast1, ↓e_res0, ↓e_rd0, ↓e_oc0, ↓e_ocN, ↓e_ocS, ↓e_clI, ↓e_clL, ↓e_clM, ↓e_clN, ↓e_clC, ↓e_eqT, ↓e_neT, ↓e_ox0, ↓e_oxS, ↓e_sxK, ↓e_setX, ↓e_lst2, ↓e_vCl, ↓e_clK0, ↓e_clKT, ↓e_clKF, ↓e_mkL, ↓e_clU, ↓e_okN, ↓e_okC, ↓e_okI, ↓e_okL, ↓e_sX0, ↓e_sX1, ↓e_sX2, ↓e_sX3, ↓e_sX4, ↓e_asgT, ↓e_lc2c, ↓e_eqS, ↓e_neS, ↓e_boolM, ↓e_all, ↓e_any, ↓e_lrg, ↓e_ins, ↓e_rgL, ↓e_rgKL, ↓e_eqLI, ↓e_neLT, ↓e_try, ↓e_tryK, ↓e_raise, ↓e_isX, ↓e_con, ↓e_mv, ↓e_ix2, ↓e_ix20, ↓e_ix21, ↓e_tup2, ↓e_enum, ↓e_enumK, ↓e_divX, ↓e_forO, ↓e_owO, ↓e_owOS, res_im, res_lst, res_tup, rdN_im, rdN_lst0, rdN_lst1, rdN_tup0, rdN_tup1, List.map_cons, List.map_nil, List.flatMap_cons, List.flatMap_nil, List.append_nil, List.nil_append, List.cons_append, and_true, true_and, List.filter_nil, List.tail_cons, Option.map_some, List.replicate_succ, List.replicate_zero, List.length_cons, List.length_nil, List.length_map, decide_true, decide_false, Bool.not_true, Bool.not_false, Bool.not_not, true_or, or_true, Bool.and_true, Bool.true_and, Bool.and_self, implies_true, Int.reduceEq, Int.reduceAdd, Int.reduceSub, reduceIte, if_true, eq_self, ite_self, isT, Kv.isNon, Nat.reduceLeDiff, Nat.reduceAdd, Nat.reduceSub, List.flatten_replicate_singleton, Int.reduceLT, Int.reduceLE, Int.reducePow, Int.reduceToNat, Int.reduceNeg, io_divisor_of_two, io_common_divisor, io_one_length, io_first_place, io_primitive, io_cancelled, io_swept, io_dependence, io_is_dependence, io_rank, io__law_mix, io__law_store, io__law_take, io__law_span, io__law_pick, io__law_put, io__law_whole, io__law_same, io__law_nil, io__law_multiple, io__law_far, io__law_columns, io__law_bad_counts, io__law_common, io__law_depends, io__law_clean, io__law_eliminated, io__law_try, io__law_lists_of, io__law_columns_right, io__law_unlike_right, io_law, $ls,*])

theorem common_law {l : List Int} {n : Nat} {Qn Qx} (hb : Bd n l) (hn : n ≤ 9000) (h : Qn ⟨int (gf 0 l), 0, []⟩ [lI l]) : run__law_common [lI l] Qn Qx := by
  unfold run__law_common m__law_common
  simp_all! only [res_D, clean_D]
  refine for_ind (fun ds e => ∃ (rest : List Int) (g : Nat) (o2 o3 o4 o5 : Option (D × Nat)), ds = rest.map (fun i => .im (.int i)) ∧ Bd n rest ∧ g < 2 ^ n ∧ gf g rest = gf 0 l ∧ e = [some (lI l, 0), some (int g, 0), o2, o3, o4, o5]) (fun d r e ⟨rest, g, o2, o3, o4, o5, h1, h2, h3, h4, he⟩ K k => ?_) (fun e ⟨rest, g, o2, o3, o4, o5, h1, h2, h3, h4, he⟩ => ?_) ⟨l, 0, none, none, none, none, rfl, hb, Nat.pow_pos (by decide), rfl, rfl⟩
  · subst he
    cases rest with
    | nil => cases h1
    | cons x rest =>
      cases h1
      have hx : x.natAbs < 2 ^ n := h2 x List.mem_cons_self
      have fin : ∀ e, (∃ (G : Nat) (o2 o3 o4 o5 : Option (D × Nat)), G = Nat.gcd g x.natAbs ∧ e = [some (lI l, 0), some (int G, 0), o2, o3, o4, o5]) → K e := fun e ⟨G, o2, o3, o4, o5, hG, he⟩ => k e ⟨rest, G, o2, o3, o4, o5, rfl, fun y hy => h2 y (List.mem_cons_of_mem _ hy), by
        rw [hG]
        by_cases q : x = 0
        · subst q
          rw [show (0 : Int).natAbs = 0 from rfl, Nat.gcd_zero_right]
          exact h3
        · exact Nat.lt_of_le_of_lt (Nat.le_of_dvd (by omega) (Nat.gcd_dvd_right _ _)) hx, by rw [hG]; exact h4, he⟩
      simp_all! only [res_D, clean_D, abs_nat]
      refine ⟨by unfold R62; decide, ?_⟩
      refine for_rg (fun i e => ∃ (G B : Nat) (o4 o5 : Option (D × Nat)), 0 ≤ i ∧ Nat.gcd G B = Nat.gcd g x.natAbs ∧ (B = 0 ∨ (i = 0 ∧ G < 2 ^ n ∧ B < 2 ^ n) ∨ (0 < i ∧ i ≤ 19999 ∧ B < G ∧ G * B < 2 ^ (19999 - i.toNat))) ∧ e = [some (lI l, 0), some (int G, 0), some (int x, 0), some (int B, 0), o4, o5]) (fun i e hi ⟨G, B, o4, o5, p0, p1, p2, he⟩ K k => ?_) (fun i e hi ⟨G, B, o4, o5, p0, p1, p2, he⟩ => ?_) ⟨g, x.natAbs, _, _, by omega, rfl, .inr (.inl ⟨rfl, h3, hx⟩), rfl⟩
      · subst he
        simp_all! only [res_D, clean_D]
        refine IfK.dec (fun c => ?_) fun c => ?_
        · have : B = 0 := by omega
          subst this
          rw [Nat.gcd_zero_right] at p1
          simp_all! only [res_D, clean_D]
          exact fin _ ⟨G, _, _, _, _, p1, rfl⟩
        · simp_all! only [res_D, clean_D]
          refine ⟨by omega, ?_⟩
          rw [nat_mod]
          refine k _ ⟨B, G % B, _, _, by omega, (gcd_step G B).trans p1, ?_, rfl⟩
          by_cases q : G % B = 0
          · exact .inl q
          · have hm := Nat.mod_lt G (show 0 < B by omega)
            rcases p2 with p2 | ⟨p2, p3, p4⟩ | ⟨p2, p3, p4, p5⟩
            · omega
            · refine .inr (.inr ⟨by omega, by omega, hm, ?_⟩)
              subst p2
              have : B * (G % B) < 2 ^ n * 2 ^ n := Nat.mul_lt_mul'' p4 (by omega)
              rw [← Nat.pow_add] at this
              exact Nat.lt_of_lt_of_le this (Nat.pow_le_pow_right (by decide) (by show n + n ≤ 19999 - 1; omega))
            · have hh := euclid_half p4 (show 0 < B by omega)
              have pp : 0 < B * (G % B) := Nat.mul_pos (by omega) (by omega)
              have : i.toNat < 19999 := by
                refine Classical.byContradiction fun z => ?_
                rw [show 19999 - i.toNat = 0 by omega, Nat.pow_zero] at p5
                omega
              refine .inr (.inr ⟨by omega, by omega, hm, ?_⟩)
              have e : 2 ^ (19999 - i.toNat) = 2 * 2 ^ (19999 - (i + 1).toNat) := by
                rw [show 19999 - i.toNat = (19999 - (i + 1).toNat) + 1 by omega, Nat.pow_succ, Nat.mul_comm]
              rw [e] at p5
              omega
      · subst he
        have : B = 0 := by
          rcases p2 with p2 | ⟨p2, _⟩ | ⟨_, p3, _⟩
          · exact p2
          · omega
          · omega
        subst this
        rw [Nat.gcd_zero_right] at p1
        simp_all! only [res_D, clean_D]
        exact fin _ ⟨G, _, _, _, _, p1, rfl⟩
  · subst he
    cases rest with
    | cons x rest => cases h1
    | nil =>
      have : g = gf 0 l := h4
      subst this
      simp_all! only [res_D, clean_D]
      exact h
theorem filt_some {l : List Int} {z : Nat × Int} (h : fpz l = some z) : ∃ r, l.filter (fun n => !decide (n = 0)) = z.2 :: r := by
  have := fpz_filter l
  rw [h] at this
  cases e : l.filter (fun n => !decide (n = 0)) with
  | nil => rw [e] at this; cases this
  | cons a r => rw [e] at this; cases this; exact ⟨r, rfl⟩
theorem filt_none {l : List Int} (h : fpz l = none) : l.filter (fun n => !decide (n = 0)) = [] := by
  have := fpz_filter l
  rw [h] at this
  cases e : l.filter (fun n => !decide (n = 0)) with
  | nil => rfl
  | cons a r => rw [e] at this; cases this
theorem clean_law {l : List Int} {i n : Nat} {f : Int} {Qn Qx} (hf : fpz l = some (i, f)) (hb : Bd n l) (hn : 0 < n ∧ n ≤ 9000) (hl : l.length ≤ 1000) (h : Qn ⟨lI (prim l f), 1, []⟩ [lI l]) : run__law_clean [lI l] Qn Qx := by
  unfold run__law_clean m__law_clean
  obtain ⟨c0, c1, c2⟩ := prim_mul hf
  have lg : (sgnG l f).natAbs.log2 < 9000 := log_pow (n := n) (by rw [c1]; exact gf_lt hb) hn
  obtain ⟨r, er⟩ := filt_some hf
  simp_all! only [res_D, clean_D]
  refine lc_fm l _ (fun x => int x) (fun n => !decide (n = 0)) [] (by simp; omega) (fun x hx K F k1 k2 => ?_) ?_
  · simp_all! only [res_D, clean_D]
    refine IfK.ndec (fun c => ?_) fun c => ?_
    · simp_all! only [res_D, clean_D]
      exact k1 (by simp [c])
    · exact k2 (by simp [c])
  rw [er]
  simp_all! only [res_D, clean_D, List.nil_append, List.isEmpty_nil, List.isEmpty_cons]
  refine common_law hb hn.2 ?_
  simp_all! only [res_D, clean_D]
  refine cut (fun e => e = [some (lI l, 0), some (int f, 0), some (int (sgnG l f), 0), none]) (fun K k => ?_) ?_
  · simp_all! only [res_D, clean_D]
    refine IfK.dec (fun c => ?_) fun c => ?_
    · simp_all! only [res_D, clean_D]
      refine k _ ?_
      unfold sgnG
      rw [if_pos c, Int.zero_sub]
    · simp_all! only [res_D, clean_D]
      exact k _ (by unfold sgnG; rw [if_neg c])
  rintro e rfl
  simp_all! only [res_D, clean_D]
  refine lc_map l _ (fun x => int (x.fdiv (sgnG l f))) (by omega) (fun x hx K F k => ?_) ?_
  · simp_all! only [res_D, clean_D]
    exact ⟨⟨c0, lg⟩, k⟩
  simp_all! only [res_D, clean_D]
  have e : (l.map fun x => int (x.fdiv (sgnG l f))) = (prim l f).map fun i => .im (.int i) := by unfold prim; rw [List.map_map]; rfl
  rw [e]
  exact h
theorem dot_range {l : List Int} {cols : List (List Int)} {i : Nat} (hl : l.length = cols.length) : ((List.range cols.length).map fun j => l.getD j 0 * (cols.getD j []).getD i 0) = (l.zip cols).map fun x => x.1 * x.2.getD i 0 := by
  apply List.ext_getElem
  · rw [List.length_map, List.length_map, List.length_range, List.length_zip]; omega
  · intro k h1 h2
    have h3 : k < cols.length := by rw [List.length_map, List.length_range] at h1; exact h1
    rw [List.getElem_map, List.getElem_map, List.getElem_range, List.getElem_zip, List.getD_eq_getElem?_getD (l := l), List.getElem?_eq_getElem (by omega), List.getD_eq_getElem?_getD (l := cols), List.getElem?_eq_getElem h3]
    rfl
theorem atI_get {l : List (List Int)} {f : List Int → D} {j : Nat} (h : j < l.length) : atI (l.map f) (j : Int) = some (f (l.getD j [])) := by
  obtain ⟨c', _, e, q⟩ := atI_map (f := f) (l := l) (i := (j : Int)) (by omega) (by omega)
  rw [Int.toNat_natCast, List.getElem?_eq_getElem h] at e
  rw [q, ← Option.some.inj e, List.getD_eq_getElem?_getD, List.getElem?_eq_getElem h]
  rfl
theorem depends_law {cols : List (List Int)} {d : Nat} {l : List Int} {Qn Qx} (hc : Cols cols d) (hp : 0 < cols.length) (hl : l.length ≤ 1000) (hb : Bd 3000 l) (h : Qn ⟨bl (isDep cols d l), 0, []⟩ [.lst (cols.map tI), lI l]) : run__law_depends [.lst (cols.map tI), lI l] Qn Qx := by
  unfold run__law_depends m__law_depends
  have hn := hc.n
  simp_all! only [res_D, clean_D]
  refine IfK.ndec (fun q => ?_) fun q => ?_
  · simp_all! only [res_D, clean_D]
    rw [isDep_f fun z => q (by have := z.n; omega)] at h
    exact h
  simp_all! only [res_D, clean_D]
  refine lc_fm l _ (fun x => int x) (fun n => false) [] (by simp; omega) (fun x hx K F k1 k2 => ?_) ?_
  · simp_all! only [res_D, clean_D]
    refine whole_spec ?_
    simp_all! only [res_D, clean_D]
    exact k2 rfl
  rw [show l.filter (fun _ => false) = [] from List.filter_eq_nil_iff.mpr fun _ _ h => (nomatch h)]
  simp_all! only [res_D, clean_D, List.nil_append, List.isEmpty_nil, List.isEmpty_cons]
  refine lc_fm l _ (fun x => int x) (fun n => !decide (n = 0)) [] (by simp; omega) (fun x hx K F k1 k2 => ?_) ?_
  · simp_all! only [res_D, clean_D]
    refine IfK.ndec (fun c => ?_) fun c => ?_
    · simp_all! only [res_D, clean_D]
      exact k1 (by simp [c])
    · exact k2 (by simp [c])
  cases ez : fpz l with
  | none =>
    rw [filt_none ez]
    have ec : cutD ([] : List D) none (some 1) = [] := cut_hi (by decide)
    simp_all! only [res_D, clean_D, List.nil_append, List.isEmpty_nil, List.isEmpty_cons, ec]
    rw [isDep_f fun z => by obtain ⟨i, x, z, _⟩ := z.f; rw [ez] at z; cases z] at h
    exact h
  | some z =>
    obtain ⟨i, x⟩ := z
    obtain ⟨r, er⟩ := filt_some ez
    rw [er]
    have ec : cutD (int x :: r.map fun x => int x) none (some 1) = [int x] := cut_hi (by decide)
    simp_all! only [res_D, clean_D, List.nil_append, List.isEmpty_nil, List.isEmpty_cons, ec]
    refine IfK.dec (fun q1 => ?_) fun q1 => ?_
    · simp_all! only [res_D, clean_D]
      rw [isDep_f fun z => by obtain ⟨i, x, z, z1⟩ := z.f; rw [ez] at z; cases z; omega] at h
      exact h
    simp_all! only [res_D, clean_D]
    refine common_law hb (by decide) ?_
    simp_all! only [res_D, clean_D]
    refine IfK.ndec (fun q2 => ?_) fun q2 => ?_
    · simp_all! only [res_D, clean_D]
      rw [isDep_f fun z => q2 (by rw [z.g]; rfl)] at h
      exact h
    cases cols with
    | nil => cases hp
    | cons c0 cols =>
    have c0l := hc.head
    simp_all! only [res_D, clean_D]
    refine ⟨by unfold R62; have := hc.dd; omega, ?_⟩
    generalize eC : c0 :: cols = C at *
    rw [show tI c0 :: List.map tI cols = List.map tI C by rw [← eC]; rfl]
    refine for_rg (fun i' e => ∃ (o : Option (D × Nat)), 0 ≤ i' ∧ (∀ k : Nat, (k : Int) < i' → dotR l C k = 0) ∧ e = [some (.lst (C.map tI), 0), some (lI l, 0), some (.lst [int x], 1), o, none, none]) (fun i' e hi ⟨o, h0, h1, he⟩ K k => ?_) (fun i' e hi ⟨o, h0, h1, he⟩ => ?_) ⟨none, by omega, fun k hk => (by omega), rfl⟩
    · subst he
      obtain ⟨i', rfl⟩ := Int.eq_ofNat_of_zero_le h0
      simp_all! only [res_D, clean_D]
      refine ⟨by unfold R62; omega, ?_⟩
      rw [rgD_nat]
      refine lc_map (List.range C.length) _ (fun j => int (l.getD j 0 * (C.getD j []).getD i' 0)) (by rw [List.length_range]; omega) (fun j hj K F k => ?_) ?_
      · have hj := List.mem_range.mp hj
        have m2 := hc.at hj
        have at1 := getD_at (l := l) (i := j) (by omega)
        have at2 := getD_at (l := C.getD j []) (i := i') (by omega)
        have at3 := atI_get (l := C) (f := tI) hj
        simp_all! only [res_D, clean_D, at1, at3, at2]
        exact ⟨bd_mul (hb.getD _) (m2.2.getD _) (by decide), k⟩
      have e5 : ((List.range C.length).map fun j => l.getD j 0 * (C.getD j []).getD i' 0).sum = dotR l C i' := by rw [dot_range (by omega)]; rfl
      simp_all! only [res_D, clean_D, e5]
      refine IfK.ndec (fun q3 => ?_) fun q3 => ?_
      · simp_all! only [res_D, clean_D]
        rw [isDep_f fun z => q3 (z.z i' (by omega))] at h
        exact h
      · simp_all! only [res_D, clean_D]
        refine k _ ⟨_, by omega, fun k hk => ?_, rfl⟩
        by_cases q4 : k = i'
        · subst q4; exact q3
        · exact h1 k (by omega)
    · subst he
      simp_all! only [res_D, clean_D]
      have x0 := (fpz_some ez).2
      rw [isDep_t ⟨by omega, by omega, ⟨i, x, ez, by omega⟩, fun k hk => h1 k (by omega)⟩] at h
      exact h

end Lk

namespace Lk
open PySem PySem.Spec L2 Kv
local macro_rules
  | `(tactic| simp_all! only [$ls,*]) => `(tactic| simp only [↓e_ifT, ↓e_ifF, ↓e_at0, ↓e_atS, ↓e_nx, ↓e_vN, ↓e_vC, ↓e_frzN, ↓e_frzC, ↓e_frz10, ↓e_frz1N, ↓e_frz1S, ↓e_asg, ↓e_set0, ↓e_setS, ↓e_wipeN, ↓e_wipeC, ↓e_resN, ↓e_resC, ↓e_gD0, ↓e_gDS, ↓e_lowN, ↓e_lowC, ↓e_low1N, ↓e_low1S, ↓e_gX0, ↓e_gXS, ↓e_fin, ↓e_vUn, ↓e_vBin, ↓e_vOp, ↓e_apN, ↓e_apI, ↓e_asN, ↓e_asE, ↓e_asI, ↓e_tv, ↓e_tvK, ↓e_trB, ↓e_truB, ↓e_truI, ↓e_andT, ↓e_orT, ↓e_notT, ↓e_ifE, ↓e_bvK, ↓e_andV, ↓e_orV, ↓e_yes, ↓e_skip, ↓e_seq, ↓e_brk, ↓e_cont, ↓e_drop, ↓e_ret, ↓e_retN, ↓e_retV, ↓e_if, ↓e_set, ↓e_for, ↓e_own0, ↓e_ownS, ↓e_olK, ↓e_sixK, ↓e_setIx, ↓e_mut, ↓e_finM, ↓e_app, ↓e_call, ↓e_argN, ↓e_argE, ↓e_argI, ↓e_setON, ↓e_setOE, ↓e_setOI, ↓e_put0, ↓e_putS, ↓e_memN, ↓e_niN, ↓e_ndN, ↓e_nd1, ↓e_ioN, ↓e_ioE, ↓e_ioI, ↓e_run, ↓e_outN, ↓e_out0, ↓e_out1, ↓e_aeN, ↓e_aeC, ↓e_add, ↓e_sub, ↓e_mul, ↓e_div, ↓e_mod, ↓e_pow, ↓e_neg, ↓e_lt, ↓e_le, ↓e_gt, ↓e_ge, ↓e_eq, ↓e_ne, ↓e_not, ↓e_is, ↓e_nA1, ↓e_nA2, ↓e_nA3, ↓e_nA4, ↓e_nA5, ↓e_nA6, ↓e_nA7, ↓e_nA8, ↓e_isN, ↓e_notN, ↓e_ixL, ↓e_ixT, ↓e_ixU, ↓e_tup, ↓e_lst, ↓e_one, ↓e_two, ↓e_mapII, ↓e_mapIf, ↓e_mk0, ↓e_mk1, ↓e_mk2, ↓e_mk3, ↓e_mk4, ↓e_mkM, ↓e_mulT, ↓e_mulL, ↓e_mkR, ↓e_addL, ↓e_addT, ↓e_sl0, ↓e_slL, ↓e_slH, ↓e_slLH, ↓e_slvL, ↓e_slvT, ↓e_slvU, ↓e_intK, ↓e_intsM, ↓e_max, ↓e_min, ↓e_sum, ↓e_lenL, ↓e_lenU, ↓e_lenT, ↓e_abs, ↓e_int, ↓e_intB, ↓e_tupL, ↓e_lstL, ↓e_lstT, ↓e_aI0, ↓e_aI1, ↓e_aI2, ↓e_aI3, ↓e_aI4, ↓e_sI0, ↓e_sI1, ↓e_sI2, ↓e_sI3, ↓e_sI4, ↓e_agN, ↓e_agE, ↓e_agI, ↓e_rg1, ↓e_rgK, ↓e_zip, ↓e_zipT, ↓e_zipL, ↓e_zipI, ↓e_rg2, ↓e_rgKK, ↓e_itE, ↓e_itK, ↓e_sqL, ↓e_sqF, ↓e_sqT, ↓e_sqU, ↓e_lc, ↓e_lcN, ↓e_lcC, ↓e_nm, ↓e_tp, ↓e_tpU, ↓e_bdN, ↓e_bdC, ↓e_forN, ↓e_forC, ↓e_while, ↓e_rev, ↓e_ltX, ↓e_ltT, ↓e_in, ↓e_ni, ↓e_srtI, ↓e_truL, ↓e_truT, ↓e_par, ↓e_eqB, ↓e_cast, ↓e_cast0, ↓e_cast1, ↓e_res0, ↓e_rd0, ↓e_oc0, ↓e_ocN, ↓e_ocS, ↓e_clI, ↓e_clL, ↓e_clM, ↓e_clN, ↓e_clC, ↓e_eqT, ↓e_neT, ↓e_ox0, ↓e_oxS, ↓e_sxK, ↓e_setX, ↓e_lst2, ↓e_vCl, ↓e_clK0, ↓e_clKT, ↓e_clKF, ↓e_mkL, ↓e_clU, ↓e_okN, ↓e_okC, ↓e_okI, ↓e_okL, ↓e_sX0, ↓e_sX1, ↓e_sX2, ↓e_sX3, ↓e_sX4, ↓e_asgT, ↓e_lc2c, ↓e_eqS, ↓e_neS, ↓e_boolM, ↓e_all, ↓e_any, ↓e_lrg, ↓e_ins, ↓e_rgL, ↓e_rgKL, ↓e_eqLI, ↓e_neLT, ↓e_try, ↓e_tryK, ↓e_raise, ↓e_isX, ↓e_con, ↓e_mv, ↓e_ix2, ↓e_ix20, ↓e_ix21, ↓e_tup2, ↓e_enum, ↓e_enumK, ↓e_divX, ↓e_forO, ↓e_owO, ↓e_owOS, res_im, res_lst, res_tup, rdN_im, rdN_lst0, rdN_lst1, rdN_tup0, rdN_tup1, List.map_cons, List.map_nil, List.flatMap_cons, List.flatMap_nil, List.append_nil, List.nil_append, List.cons_append, and_true, true_and, List.filter_nil, List.tail_cons, Option.map_some, List.replicate_succ, List.replicate_zero, List.length_cons, List.length_nil, List.length_map, decide_true, decide_false, Bool.not_true, Bool.not_false, Bool.not_not, true_or, or_true, Bool.and_true, Bool.true_and, Bool.and_self, implies_true, Int.reduceEq, Int.reduceAdd, Int.reduceSub, reduceIte, if_true, eq_self, ite_self, isT, Kv.isNon, Nat.reduceLeDiff, Nat.reduceAdd, Nat.reduceSub, List.flatten_replicate_singleton, Int.reduceLT, Int.reduceLE, Int.reducePow, Int.reduceToNat, Int.reduceNeg, io_divisor_of_two, io_common_divisor, io_one_length, io_first_place, io_primitive, io_cancelled, io_swept, io_dependence, io_is_dependence, io_rank, io__law_mix, io__law_store, io__law_take, io__law_span, io__law_pick, io__law_put, io__law_whole, io__law_same, io__law_nil, io__law_multiple, io__law_far, io__law_columns, io__law_bad_counts, io__law_common, io__law_depends, io__law_clean, io__law_eliminated, io__law_try, io__law_lists_of, io__law_columns_right, io__law_unlike_right, io_law, $ls,*])

def baseD (r : Rw) : D := .tup [lI r.vec, int r.pl, lI r.mix]
theorem mapII (l : List Int) (f : Int → Int) : (l.map fun x => int (f x)) = (l.map f).map fun i => .im (.int i) := by rw [List.map_map]; rfl
theorem lin_D2 {v r : List Int} {t f : Int} (h : r.length = v.length) : ((List.range v.length).map fun k => int (v.getD k 0 * t - r.getD k 0 * f)) = (lin t f v r).map fun i => .im (.int i) := by
  rw [← lin_range h, List.map_map]
  rfl
theorem elim_law {cols : List (List Int)} {d : Nat} {Qn Qx} (hc : Cols cols d) (h : ∀ fs : List (List Int), fs.length ≤ cols.length → (∀ f ∈ fs, f.length = cols.length ∧ Bd 335 f) → Qn ⟨.tup [int (rowsAt cols cols.length).length, .lst (fs.map lI)], 0, []⟩ [.lst (cols.map tI)]) : run__law_eliminated [.lst (cols.map tI)] Qn Qx := by
  unfold run__law_eliminated m__law_eliminated
  have hn := hc.n
  have hdd := hc.dd
  simp_all! only [res_D, clean_D]
  refine ⟨by unfold R62; omega, ?_⟩
  refine for_rg (fun i e => ∃ (j : Nat) (bs : List Rw) (fs : List (List Int)) (o3 o4 o5 o6 o7 o8 o9 o10 : Option (D × Nat)), i = j ∧ j ≤ cols.length ∧ LwL bs (rowsAt cols j) ∧ fs.length ≤ j ∧ (∀ f ∈ fs, f.length = cols.length ∧ Bd 335 f) ∧ e = [some (.lst (cols.map tI), 0), some (.lst (bs.map baseD), 1), some (.lst (fs.map lI), 1), o3, o4, o5, o6, o7, o8, o9, o10, none, none]) (fun i e hi ⟨j, bs, fs, o3, o4, o5, o6, o7, o8, o9, o10, p0, p1, p2, p3, p4, he⟩ K k => ?_) (fun i e hi ⟨j, bs, fs, o3, o4, o5, o6, o7, o8, o9, o10, p0, p1, p2, p3, p4, he⟩ => ?_) ⟨0, [], [], none, none, none, none, none, none, none, none, rfl, Nat.zero_le _, ⟨rfl, fun k b r h => (nomatch h)⟩, Nat.le_refl _, fun _ h => (nomatch h), ?_⟩
  · subst he
    subst p0
    have hj : j < cols.length := by omega
    have at1 := atI_get (l := cols) (f := tI) hj
    simp_all! only [res_D, clean_D, at1]
    refine ⟨by unfold R62; omega, ?_⟩
    rw [rgD_nat]
    refine lc_map (List.range cols.length) _ (fun k => int (if k = j then 1 else 0)) (by rw [List.length_range]; omega) (fun a ha K F k => ?_) ?_
    · simp_all! only [res_D, clean_D]
      have e : (if decide ((a : Int) = (j : Int)) = true then (1 : Int) else 0) = if a = j then 1 else 0 := by
        by_cases q : a = j
        · simp [q]
        · have : ¬ (a : Int) = j := by omega
          simp [q, this]
      rw [e]
      exact k
    rw [unit_D]
    have gd := good_all hc j p1
    obtain ⟨g0, ga, gb⟩ := good_gs hc hj gd
    have dp := dep_of hc hj gd
    have hca := hc.at hj
    have er : rowsAt cols (j + 1) = (match fpz (elim (cols.getD j [], unitL cols.length j) (rowsAt cols j)).1 with
      | some z => rowsAt cols j ++ [⟨z.1, (elim (cols.getD j [], unitL cols.length j) (rowsAt cols j)).1, (elim (cols.getD j [], unitL cols.length j) (rowsAt cols j)).2⟩]
      | none => rowsAt cols j) := rfl
    have hl := gd.g.len
    generalize cols.getD j [] = c at *
    simp_all! only [res_D, clean_D]
    refine forO_ind (fun ds e => ∃ (q : Nat) (v made : List Int) (α : Int) (o6 o7 o8 o9 o10 : Option (D × Nat)), q ≤ bs.length ∧ ds = (bs.drop q).map baseD ∧ α ≠ 0 ∧ elim (c, unitL cols.length j) ((rowsAt cols j).take q) = (scL α v, scL α made) ∧ e = [some (.lst (cols.map tI), 0), some (.lst (bs.map baseD), 1), some (.lst (fs.map lI), 1), some (int j, 0), some (lI v, 1), some (lI made, 1), o6, o7, o8, o9, o10, none, none]) (fun r e ⟨q, v, made, α, o6, o7, o8, o9, o10, h1, h2, h3, h4, he⟩ => by rw [he]; rfl) (fun d' r e ⟨q, v, made, α, o6, o7, o8, o9, o10, h1, h2, h3, h4, he⟩ K kk => ?_) (fun e ⟨q, v, made, α, o6, o7, o8, o9, o10, h1, h2, h3, h4, he⟩ => ?_) ⟨0, c, unitL cols.length j, 1, o6, o7, o8, o9, o10, Nat.zero_le _, rfl, by decide, by rw [sc_one, sc_one]; rfl, rfl⟩
    · subst he
      by_cases hq : q < bs.length
      · rw [List.drop_eq_getElem_cons hq] at h2
        cases h2
        have hq' : q < (rowsAt cols j).length := by rw [← p2.1]; exact hq
        have gs := GS.all gd.g g0 q (by omega)
        have e1 : elim (c, unitL cols.length j) ((rowsAt cols j).take (q + 1)) = step (elim (c, unitL cols.length j) ((rowsAt cols j).take q)) (rowsAt cols j)[q] := by
          rw [List.take_succ_eq_append_getElem hq']; unfold elim; rw [List.foldl_append]; rfl
        have er0 := List.getElem?_eq_getElem hq'
        have eb0 := List.getElem?_eq_getElem hq
        generalize (rowsAt cols j)[q] = r0 at e1 er0
        generalize bs[q] = b0 at eb0
        have lw := p2.2 q b0 r0 eb0 er0
        obtain ⟨⟨l1, l2⟩, ⟨l3, l4⟩, ⟨l5, l6⟩, _⟩ := gd.g.r q r0 er0
        rw [h4] at gs e1
        have hs := step_sc (s := (v, made)) h3 lw
        obtain ⟨γ, hg, e3⟩ := hs
        obtain ⟨lwp, β, hβ, lwv, lwm⟩ := lw
        rw [lwv] at l1 l5
        rw [lwm] at l2 l6
        rw [← lwp] at l3
        have nb := NB4 (show q ≤ d by omega) hc.dd.2
        have l1 : b0.vec.length = d := by rw [← l1, sc_len]
        have l2 : b0.mix.length = cols.length := by rw [← l2, sc_len]
        have l5 := (sc_Bd hβ l5).mono nb
        have l6 := (sc_Bd hβ l6).mono nb
        have g1 : v.length = d := by have := gs.l.1; rw [← this]; exact sc_len.symm
        have g2 : made.length = cols.length := by have := gs.l.2; rw [← this]; exact sc_len.symm
        have g3 := (sc_Bd h3 gs.b.1).mono nb
        have g4 := (sc_Bd h3 gs.b.2).mono nb
        have a1 := getD_at (l := v) (i := b0.pl) (by omega)
        have a2 := getD_at (l := b0.vec) (i := b0.pl) (by omega)
        have fin : ∀ (e : En), (∃ o6 o7 o8 o9 o10, e = [some (.lst (cols.map tI), 0), some (.lst (bs.map baseD), 1), some (.lst (fs.map lI), 1), some (int j, 0), some (lI (step (v, made) b0).1, 1), some (lI (step (v, made) b0).2, 1), o6, o7, o8, o9, o10, none, none]) → K e := fun e ⟨o6, o7, o8, o9, o10, he⟩ => kk e ⟨q + 1, (step (v, made) b0).1, (step (v, made) b0).2, γ, o6, o7, o8, o9, o10, hq, rfl, hg, e1.trans e3, he⟩
        have eb1 : baseD b0 = .tup [lI b0.vec, int b0.pl, lI b0.mix] := rfl
        simp_all! only [res_D, clean_D, eb1, a1]
        refine IfK.ndec (fun z => ?_) fun z => ?_
        · simp_all! only [res_D, clean_D, a2]
          refine ⟨by unfold R62; omega, ?_⟩
          rw [rgD_nat]
          refine lc_map (List.range v.length) _ (fun k => int (v.getD k 0 * b0.vec.getD b0.pl 0 - b0.vec.getD k 0 * v.getD b0.pl 0)) (by rw [List.length_range]; omega) (fun k hk K F kn => ?_) ?_
          · have hk := List.mem_range.mp hk
            have b1 := getD_at (l := v) (i := k) hk
            have b2 := getD_at (l := b0.vec) (i := k) (by omega)
            simp_all! only [res_D, clean_D, b1, b2]
            exact ⟨bd_mul (g3.getD _) (l5.getD _) (by decide), bd_mul (l5.getD _) (g3.getD _) (by decide), kn⟩
          rw [lin_D2 (by omega)]
          simp_all! only [res_D, clean_D]
          refine ⟨by unfold R62; omega, ?_⟩
          rw [rgD_nat]
          refine lc_map (List.range made.length) _ (fun k => int (made.getD k 0 * b0.vec.getD b0.pl 0 - b0.mix.getD k 0 * v.getD b0.pl 0)) (by rw [List.length_range]; omega) (fun k hk K F kn => ?_) ?_
          · have hk := List.mem_range.mp hk
            have b1 := getD_at (l := made) (i := k) hk
            have b2 := getD_at (l := b0.mix) (i := k) (by omega)
            simp_all! only [res_D, clean_D, b1, b2]
            exact ⟨bd_mul (g4.getD _) (l5.getD _) (by decide), bd_mul (l6.getD _) (g3.getD _) (by decide), kn⟩
          rw [lin_D2 (by omega)]
          simp_all! only [res_D, clean_D]
          exact fin _ ⟨_, _, _, _, _, by unfold step; rw [if_neg z]⟩
        · simp_all! only [res_D, clean_D]
          exact fin _ ⟨_, _, _, _, _, by unfold step; rw [if_pos z]⟩
      · rw [List.drop_eq_nil_of_le (by omega)] at h2
        cases h2
    · subst he
      have : q = bs.length := by
        by_cases hk : q < bs.length
        · rw [List.drop_eq_getElem_cons hk] at h2; cases h2
        · omega
      subst this
      rw [p2.1, List.take_length] at h4
      rw [h4] at ga gb dp er
      have g1 : v.length = d := by have := ga.l.1; rw [← this]; exact sc_len.symm
      have g2 : made.length = cols.length := by have := ga.l.2; rw [← this]; exact sc_len.symm
      have nb := NB4 hl hc.dd.2
      have g3 := (sc_Bd h3 ga.b.1).mono nb
      have g4 := (sc_Bd h3 ga.b.2).mono nb
      have hd := hc.dd
      simp_all! only [res_D, clean_D]
      refine ⟨by unfold R62; omega, ?_⟩
      rw [rgD_nat]
      refine lc_fm (List.range v.length) _ (fun k => int k) (fun k => !decide (v.getD k 0 = 0)) [] (by simp; omega) (fun k hk K F k1 k2 => ?_) ?_
      · have b1 := getD_at (l := v) (i := k) (List.mem_range.mp hk)
        simp_all! only [res_D, clean_D, b1]
        refine IfK.ndec (fun z => ?_) fun z => ?_
        · simp_all! only [res_D, clean_D]
          exact k1 (by rw [decide_eq_false z]; rfl)
        · exact k2 (by rw [decide_eq_true z]; rfl)
      cases ez : fpz v with
      | some z =>
        obtain ⟨rr, er1⟩ := places_some ez
        have ez2 : fpz (scL α v) = some (z.1, α * z.2) := by unfold scL; rw [fpz_map h3, ez]; rfl
        rw [ez2] at er
        rw [er1]
        have bvm : Bd 335 (v ++ made) := fun x hx => (List.mem_append.mp hx).elim (g3 x) (g4 x)
        have gd1 := (gf_dvd (v ++ made) 0).2
        have z0 := fpz_some ez
        have gp : 0 < gf 0 (v ++ made) := gf_pos (List.mem_append_left _ (List.mem_of_getElem? z0.1)) z0.2
        have lg : ((gf 0 (v ++ made) : Nat) : Int).natAbs.log2 < 9000 := log_pow (n := 335) (by have := gf_lt bvm; omega) (by decide)
        simp_all! only [res_D, clean_D, List.nil_append, List.isEmpty_nil, List.isEmpty_cons]
        refine ⟨by omega, ?_⟩
        rw [← List.map_append]
        refine common_law bvm (by decide) ?_
        have gne : ¬ ((gf 0 (v ++ made) : Nat) : Int) = 0 := by omega
        simp_all! only [res_D, clean_D]
        refine lc_map v _ (fun x => int (x / ((gf 0 (v ++ made) : Nat) : Int))) (by omega) (fun x hx K F kn => ?_) ?_
        · simp_all! only [res_D, clean_D]
          exact ⟨⟨by omega, lg⟩, kn⟩
        rw [mapII v (fun x => x / ((gf 0 (v ++ made) : Nat) : Int))]
        simp_all! only [res_D, clean_D]
        refine lc_map made _ (fun x => int (x / ((gf 0 (v ++ made) : Nat) : Int))) (by omega) (fun x hx K F kn => ?_) ?_
        · simp_all! only [res_D, clean_D]
          exact ⟨⟨by omega, lg⟩, kn⟩
        rw [mapII made (fun x => x / ((gf 0 (v ++ made) : Nat) : Int))]
        have s1 := div_sc (l := v) (g := gf 0 (v ++ made)) fun x hx => gd1 x (List.mem_append_left _ hx)
        have s2 := div_sc (l := made) (g := gf 0 (v ++ made)) fun x hx => gd1 x (List.mem_append_right _ hx)
        simp_all! only [res_D, clean_D]
        refine ⟨by rw [p2.1]; omega, k _ ⟨j + 1, bs ++ [⟨z.1, v.map fun x => x / ((gf 0 (v ++ made) : Nat) : Int), made.map fun x => x / ((gf 0 (v ++ made) : Nat) : Int)⟩], fs, _, _, _, _, _, _, _, _, by omega, hj, ?_, by omega, p4, by rw [List.map_append]; rfl⟩⟩
        rw [er]
        refine p2.snoc ⟨rfl, α * (gf 0 (v ++ made) : Nat), Int.mul_ne_zero h3 gne, ?_, ?_⟩
        · rw [← sc_sc, s1]
        · rw [← sc_sc, s2]
      | none =>
        have ez2 : fpz (scL α v) = none := by unfold scL; rw [fpz_map h3, ez]; rfl
        rw [ez2] at er
        rw [places_none ez]
        obtain ⟨i2, f2, ef, _⟩ := dp ez2
        have em : ∃ z, fpz made = some z := by
          have := fpz_map h3 made
          unfold scL at ef
          rw [ef] at this
          cases e3 : fpz made with
          | none => rw [e3] at this; cases this
          | some z => exact ⟨z, rfl⟩
        obtain ⟨⟨i3, f3⟩, em⟩ := em
        have pb := prim_Bd em g4
        simp_all! only [res_D, clean_D, List.nil_append, List.isEmpty_nil, List.isEmpty_cons]
        refine clean_law em g4 (by decide) (by omega) ?_
        simp_all! only [res_D, clean_D]
        exact ⟨by omega, k _ ⟨j + 1, bs, fs ++ [prim made f3], _, _, _, _, _, _, _, _, by omega, hj, by rw [er]; exact p2, by rw [List.length_append]; exact Nat.succ_le_succ p3, fun f hf => (List.mem_append.mp hf).elim (p4 f) fun hf => by rw [List.mem_singleton.mp hf]; exact ⟨by rw [pb.2, g2], pb.1⟩, by rw [List.map_append]; rfl⟩⟩
  · subst he
    have ej : j = cols.length := by omega
    subst ej
    have hh := h fs p3 p4
    simp_all! only [res_D, clean_D]
    rw [p2.1]
    exact hh
  · rfl

end Lk

namespace Lk
open PySem PySem.Spec L2 Kv
local macro_rules
  | `(tactic| simp_all! only [$ls,*]) => `(tactic| simp only [↓e_ifT, ↓e_ifF, ↓e_at0, ↓e_atS, ↓e_nx, ↓e_vN, ↓e_vC, ↓e_frzN, ↓e_frzC, ↓e_frz10, ↓e_frz1N, ↓e_frz1S, ↓e_asg, ↓e_set0, ↓e_setS, ↓e_wipeN, ↓e_wipeC, ↓e_resN, ↓e_resC, ↓e_gD0, ↓e_gDS, ↓e_lowN, ↓e_lowC, ↓e_low1N, ↓e_low1S, ↓e_gX0, ↓e_gXS, ↓e_fin, ↓e_vUn, ↓e_vBin, ↓e_vOp, ↓e_apN, ↓e_apI, ↓e_asN, ↓e_asE, ↓e_asI, ↓e_tv, ↓e_tvK, ↓e_trB, ↓e_truB, ↓e_truI, ↓e_andT, ↓e_orT, ↓e_notT, ↓e_ifE, ↓e_bvK, ↓e_andV, ↓e_orV, ↓e_yes, ↓e_skip, ↓e_seq, ↓e_brk, ↓e_cont, ↓e_drop, ↓e_ret, ↓e_retN, ↓e_retV, ↓e_if, ↓e_set, ↓e_for, ↓e_own0, ↓e_ownS, ↓e_olK, ↓e_sixK, ↓e_setIx, ↓e_mut, ↓e_finM, ↓e_app, ↓e_call, ↓e_argN, ↓e_argE, ↓e_argI, ↓e_setON, ↓e_setOE, ↓e_setOI, ↓e_put0, ↓e_putS, ↓e_memN, ↓e_niN, ↓e_ndN, ↓e_nd1, ↓e_ioN, ↓e_ioE, ↓e_ioI, ↓e_run, ↓e_outN, ↓e_out0, ↓e_out1, ↓e_aeN, ↓e_aeC, ↓e_add, ↓e_sub, ↓e_mul, ↓e_div, ↓e_mod, ↓e_pow, ↓e_neg, ↓e_lt, ↓e_le, ↓e_gt, ↓e_ge, ↓e_eq, ↓e_ne, ↓e_not, ↓e_is, ↓e_nA1, ↓e_nA2, ↓e_nA3, ↓e_nA4, ↓e_nA5, ↓e_nA6, ↓e_nA7, ↓e_nA8, ↓e_isN, ↓e_notN, ↓e_ixL, ↓e_ixT, ↓e_ixU, ↓e_tup, ↓e_lst, ↓e_one, ↓e_two, ↓e_mapII, ↓e_mapIf, ↓e_mk0, ↓e_mk1, ↓e_mk2, ↓e_mk3, ↓e_mk4, ↓e_mkM, ↓e_mulT, ↓e_mulL, ↓e_mkR, ↓e_addL, ↓e_addT, ↓e_sl0, ↓e_slL, ↓e_slH, ↓e_slLH, ↓e_slvL, ↓e_slvT, ↓e_slvU, ↓e_intK, ↓e_intsM, ↓e_max, ↓e_min, ↓e_sum, ↓e_lenL, ↓e_lenU, ↓e_lenT, ↓e_abs, ↓e_int, ↓e_intB, ↓e_tupL, ↓e_lstL, ↓e_lstT, ↓e_aI0, ↓e_aI1, ↓e_aI2, ↓e_aI3, ↓e_aI4, ↓e_sI0, ↓e_sI1, ↓e_sI2, ↓e_sI3, ↓e_sI4, ↓e_agN, ↓e_agE, ↓e_agI, ↓e_rg1, ↓e_rgK, ↓e_zip, ↓e_zipT, ↓e_zipL, ↓e_zipI, ↓e_rg2, ↓e_rgKK, ↓e_itE, ↓e_itK, ↓e_sqL, ↓e_sqF, ↓e_sqT, ↓e_sqU, ↓e_lc, ↓e_lcN, ↓e_lcC, ↓e_nm, ↓e_tp, ↓e_tpU, ↓e_bdN, ↓e_bdC, ↓e_forN, ↓e_forC, ↓e_while, ↓e_rev, ↓e_ltX, ↓e_ltT, ↓e_in, ↓e_ni, ↓e_srtI, ↓e_truL, ↓e_truT, ↓e_par, ↓e_eqB, ↓e_cast, ↓e_cast0, ↓e_cast1, ↓e_res0, ↓e_rd0, ↓e_oc0, ↓e_ocN, ↓e_ocS, ↓e_clI, ↓e_clL, ↓e_clM, ↓e_clN, ↓e_clC, ↓e_eqT, ↓e_neT, ↓e_ox0, ↓e_oxS, ↓e_sxK, ↓e_setX, ↓e_lst2, ↓e_vCl, ↓e_clK0, ↓e_clKT, ↓e_clKF, ↓e_mkL, ↓e_clU, ↓e_okN, ↓e_okC, ↓e_okI, ↓e_okL, ↓e_sX0, ↓e_sX1, ↓e_sX2, ↓e_sX3, ↓e_sX4, ↓e_asgT, ↓e_lc2c, ↓e_eqS, ↓e_neS, ↓e_boolM, ↓e_all, ↓e_any, ↓e_lrg, ↓e_ins, ↓e_rgL, ↓e_rgKL, ↓e_eqLI, ↓e_neLT, ↓e_try, ↓e_tryK, ↓e_raise, ↓e_isX, ↓e_con, ↓e_mv, ↓e_ix2, ↓e_ix20, ↓e_ix21, ↓e_tup2, ↓e_enum, ↓e_enumK, ↓e_divX, ↓e_forO, ↓e_owO, ↓e_owOS, res_im, res_lst, res_tup, rdN_im, rdN_lst0, rdN_lst1, rdN_tup0, rdN_tup1, List.map_cons, List.map_nil, List.flatMap_cons, List.flatMap_nil, List.append_nil, List.nil_append, List.cons_append, and_true, true_and, List.filter_nil, List.tail_cons, Option.map_some, List.replicate_succ, List.replicate_zero, List.length_cons, List.length_nil, List.length_map, decide_true, decide_false, Bool.not_true, Bool.not_false, Bool.not_not, true_or, or_true, Bool.and_true, Bool.true_and, Bool.and_self, implies_true, Int.reduceEq, Int.reduceAdd, Int.reduceSub, reduceIte, if_true, eq_self, ite_self, isT, Kv.isNon, Nat.reduceLeDiff, Nat.reduceAdd, Nat.reduceSub, List.flatten_replicate_singleton, Int.reduceLT, Int.reduceLE, Int.reducePow, Int.reduceToNat, Int.reduceNeg, io_divisor_of_two, io_common_divisor, io_one_length, io_first_place, io_primitive, io_cancelled, io_swept, io_dependence, io_is_dependence, io_rank, io__law_mix, io__law_store, io__law_take, io__law_span, io__law_pick, io__law_put, io__law_whole, io__law_same, io__law_nil, io__law_multiple, io__law_far, io__law_columns, io__law_bad_counts, io__law_common, io__law_depends, io__law_clean, io__law_eliminated, io__law_try, io__law_lists_of, io__law_columns_right, io__law_unlike_right, io_law, $ls,*])

theorem try0_ok {cols : List (List Int)} {d : Nat} {Qn Qx} (hc : Cols cols d) (hd : d < cols.length) (h : ∀ l, foundAt cols cols.length = some l → Dep cols d l → Qn ⟨.tup [.im (.str "got"), lI l], 1, []⟩ [int 0, .lst (cols.map tI), .lst []]) : run__law_try [int 0, .lst (cols.map tI), .lst []] Qn Qx := by
  unfold run__law_try m__law_try
  simp_all! only [res_D, clean_D]
  refine dependence_ok hc hd fun l h1 h2 => ?_
  simp_all! only [res_D, clean_D]
  exact h l h1 h2
theorem try0_no {cols : List (List Int)} {Qn Qx} (hn : cols.length ≤ 1000) (hd : cols = [] ∨ (cols.all fun c => decide (c.length = (cols.headD []).length)) = false ∨ cols.length ≤ (cols.headD []).length) (h : Qn ⟨.im (.tup [.str "refused"]), 0, []⟩ [int 0, .lst (cols.map tI), .lst []]) : run__law_try [int 0, .lst (cols.map tI), .lst []] Qn Qx := by
  unfold run__law_try m__law_try
  simp_all! only [res_D, clean_D]
  refine dependence_no hn hd ?_
  simp_all! only [res_D, clean_D]
  intro a
  refine bad_spec ?_
  simp_all! only [res_D, clean_D]
  exact h
theorem try1_ok {cols : List (List Int)} {d : Nat} {l : List Int} {Qn Qx} (hc : Cols cols d) (hl : l.length ≤ 1000) (hb : Bd 3000 l) (h : Qn ⟨.im (.tup [.str "got", .bl (isDep cols d l)]), 0, []⟩ [int 1, .lst (cols.map tI), lI l]) : run__law_try [int 1, .lst (cols.map tI), lI l] Qn Qx := by
  unfold run__law_try m__law_try
  simp_all! only [res_D, clean_D]
  refine isdep_ok hc hl hb ?_
  simp_all! only [res_D, clean_D]
  exact h
theorem try1_no {cols : List (List Int)} {l : List Int} {Qn Qx} (hn : cols.length ≤ 1000) (hd : (cols.all fun c => decide (c.length = (cols.headD []).length)) = false) (h : Qn ⟨.im (.tup [.str "got", .bl false]), 0, []⟩ [int 1, .lst (cols.map tI), lI l]) : run__law_try [int 1, .lst (cols.map tI), lI l] Qn Qx := by
  unfold run__law_try m__law_try
  simp_all! only [res_D, clean_D]
  refine isdep_no hn hd ?_
  simp_all! only [res_D, clean_D]
  exact h
theorem try2_ok {cols : List (List Int)} {d : Nat} {Qn Qx} (hc : Cols cols d) (h : Qn ⟨.im (.tup [.str "got", .int (rowsAt cols cols.length).length]), 0, []⟩ [int 2, .lst (cols.map tI), .lst []]) : run__law_try [int 2, .lst (cols.map tI), .lst []] Qn Qx := by
  unfold run__law_try m__law_try
  simp_all! only [res_D, clean_D]
  refine rank_ok hc ?_
  simp_all! only [res_D, clean_D]
  exact h
theorem try2_no {cols : List (List Int)} {Qn Qx} (hn : cols.length ≤ 1000) (hd : (cols.all fun c => decide (c.length = (cols.headD []).length)) = false) (h : Qn ⟨.im (.tup [.str "refused"]), 0, []⟩ [int 2, .lst (cols.map tI), .lst []]) : run__law_try [int 2, .lst (cols.map tI), .lst []] Qn Qx := by
  unfold run__law_try m__law_try
  simp_all! only [res_D, clean_D]
  refine rank_no hn hd ?_
  simp_all! only [res_D, clean_D]
  intro a
  refine bad_spec ?_
  simp_all! only [res_D, clean_D]
  exact h
/-! ### drawn columns -/
def Clm (d : Nat) (b : Nat) (c : List Int) : Prop := c.length = d ∧ ∀ x ∈ c, x.natAbs ≤ b
theorem nil_Clm {d b : Nat} : Clm d b (List.replicate d 0) := ⟨List.length_replicate, fun x hx => by rw [List.eq_of_mem_replicate hx]; exact Nat.zero_le _⟩
theorem ne_pos {α β : Type} {l : List α} {f : α → β} (h : (!(l.map f).isEmpty) = true) : 0 < l.length := by
  cases l with
  | nil => simp at h
  | cons _ _ => exact Nat.succ_pos _
theorem columns_law {st : Sto} {many d : Nat} {Qn Qx} (hs : st.Ok) (hm : many ≤ 1000) (hd : 1 ≤ d ∧ d ≤ 4) (h : ∀ (cols : List (List Int)) (st : Sto), st.Ok → cols.length = many → (∀ c ∈ cols, Clm d 99999 c) → Qn ⟨.lst (cols.map tI), 1, []⟩ [st.D, int many, int d]) : run__law_columns [st.D, int many, int d] Qn Qx := by
  unfold run__law_columns m__law_columns
  simp_all! only [res_D, clean_D]
  refine take_spec hs (by decide) fun v st1 hs1 _ v2 => ?_
  have v2 := v2 (by decide)
  have hf : ∃ f : Int, (f = 9 ∨ f = 49999) ∧ atI [int 9, int 9, int 9, int 49999] v = some (int f) := by
    have : v = 0 ∨ v = 1 ∨ v = 2 ∨ v = 3 := by omega
    rcases this with rfl | rfl | rfl | rfl
    · exact ⟨9, .inl rfl, rfl⟩
    · exact ⟨9, .inl rfl, rfl⟩
    · exact ⟨9, .inl rfl, rfl⟩
    · exact ⟨49999, .inr rfl, rfl⟩
  obtain ⟨f, hf, e1⟩ := hf
  have hfb : 0 < f ∧ f ≤ 49999 := by omega
  simp_all! only [res_D, clean_D, e1]
  refine ⟨by unfold R62; omega, ?_⟩
  refine for_rg (fun i e => ∃ (j : Nat) (cols : List (List Int)) (st : Sto) (o5 o6 o7 : Option (D × Nat)), i = j ∧ j ≤ many ∧ st.Ok ∧ cols.length = j ∧ (∀ c ∈ cols, Clm d 99999 c) ∧ e = [some (st.D, 2), some (int many, 0), some (int d, 0), some (.lst (cols.map tI), 1), some (int f, 0), o5, o6, o7, none]) (fun i e hi ⟨j, cols, st, o5, o6, o7, p0, p1, hs, p2, p3, he⟩ K k => ?_) (fun i e hi ⟨j, cols, st, o5, o6, o7, p0, p1, hs, p2, p3, he⟩ => ?_) ⟨0, [], st1, none, none, none, rfl, Nat.zero_le _, hs1, rfl, fun _ h => (nomatch h), rfl⟩
  · subst he
    subst p0
    simp_all! only [res_D, clean_D]
    refine take_spec hs (by decide) fun w st2 hs2 _ w2 => ?_
    simp_all! only [res_D, clean_D]
    refine ⟨by unfold R62; omega, ?_⟩
    rw [rgD_nat]
    refine lc_thr (List.range d) (fun (i : Nat) => int i) (fun st : Sto => [some (st.D, 2), some (int many, 0), some (int d, 0), some (.lst (cols.map tI), 1), some (int f, 0), some (int j, 0), some (int w, 0), o7, none]) Sto.Ok (fun _ v => v.natAbs ≤ 99999) hs2 (by rw [List.length_range]; omega) (fun a ha s hs K F k => ?_) (fun ws s hs hl hv => ?_)
    · simp_all! only [res_D, clean_D]
      refine span_spec hs (log_pow (n := 20) (by omega) (by decide)) fun v st3 hs3 hv => ?_
      simp_all! only [res_D, clean_D]
      exact k v st3 hs3 (by omega)
    have cws : Clm d 99999 ws := ⟨by rw [hl, List.length_range], fun x hx => by
      obtain ⟨k, hk, e⟩ := List.mem_iff_getElem.mp hx
      have := hv ((List.range d)[k]'(by omega), ws[k]) (by
        rw [List.mem_iff_getElem]
        exact ⟨k, by rw [List.length_zip]; omega, by rw [List.getElem_zip]⟩)
      rw [← e]
      exact this⟩
    have mid : ∀ e : En, (∃ (st : Sto) (c : List Int), st.Ok ∧ Clm d 99999 c ∧ e = [some (st.D, 2), some (int many, 0), some (int d, 0), some (.lst (cols.map tI), 1), some (int f, 0), some (int j, 0), some (int w, 0), some (tI c, 0), none]) → True := fun _ _ => trivial
    simp_all! only [res_D, clean_D]
    refine cut (fun e => ∃ (st : Sto) (c : List Int), st.Ok ∧ Clm d 99999 c ∧ e = [some (st.D, 2), some (int many, 0), some (int d, 0), some (.lst (cols.map tI), 1), some (int f, 0), some (int j, 0), some (int w, 0), some (tI c, 0), none]) (fun K k => ?_) ?_
    · simp_all! only [res_D, clean_D]
      refine IfK.dec (fun q => ?_) fun q => ?_
      · simp_all! only [res_D, clean_D]
        refine nil_spec (d := d) (by omega) ?_
        simp_all! only [res_D, clean_D]
        exact k _ ⟨_, _, hs, nil_Clm, rfl⟩
      · simp_all! only [res_D, clean_D]
        exact k _ ⟨_, _, hs, cws, rfl⟩
    rintro e ⟨s4, c4, hs4, hc4, rfl⟩
    simp_all! only [res_D, clean_D]
    refine cut (fun e => ∃ (st : Sto) (c : List Int), st.Ok ∧ Clm d 99999 c ∧ e = [some (st.D, 2), some (int many, 0), some (int d, 0), some (.lst (cols.map tI), 1), some (int f, 0), some (int j, 0), some (int w, 0), some (tI c, 0), none]) (fun K k => ?_) ?_
    · simp_all! only [res_D, clean_D]
      refine IfK.bool (fun q0 => ?_) fun q0 => ?_
      · simp_all! only [res_D, clean_D]
        refine IfK.dec (fun q => ?_) fun q => ?_
        · simp_all! only [res_D, clean_D]
          refine ⟨by decide, ?_⟩
          refine pick_spec (l := cols) (f := fun c => .tup (c.map I.int)) hs4 ⟨ne_pos q0, by omega⟩ fun c s6 hs6 hc6 => ?_
          simp_all! only [res_D, clean_D]
          exact k _ ⟨_, c, hs6, p3 c hc6, rfl⟩
        · simp_all! only [res_D, clean_D]
          exact k _ ⟨_, _, hs4, hc4, rfl⟩
      · simp_all! only [res_D, clean_D]
        exact k _ ⟨_, _, hs4, hc4, rfl⟩
    rintro e ⟨s5, c5, hs5, hc5, rfl⟩
    refine cut (fun e => ∃ (st : Sto) (c : List Int), st.Ok ∧ Clm d 99999 c ∧ e = [some (st.D, 2), some (int many, 0), some (int d, 0), some (.lst (cols.map tI), 1), some (int f, 0), some (int j, 0), some (int w, 0), some (tI c, 0), none]) (fun K k => ?_) ?_
    · simp_all! only [res_D, clean_D]
      refine IfK.bool (fun q0 => ?_) fun q0 => ?_
      · simp_all! only [res_D, clean_D]
        refine IfK.dec (fun q => ?_) fun q => ?_
        · simp_all! only [res_D, clean_D]
          refine ⟨by decide, ?_⟩
          refine pick_spec (l := cols) (f := fun c => .tup (c.map I.int)) hs5 ⟨ne_pos q0, by omega⟩ fun c s6 hs6 hc6 => ?_
          have cc := p3 c hc6
          simp_all! only [res_D, clean_D]
          refine multiple_spec (by rw [cc.1]; omega) (fun a _ => mulR (by decide)) ?_
          have ml : (mulL c (-2)).length = d := by unfold mulL; rw [List.length_map]; exact cc.1
          simp_all! only [res_D, clean_D]
          refine far_spec (by omega) (by omega) ?_
          simp_all! only [res_D, clean_D]
          refine IfK.dec (fun q1 => ?_) fun q1 => ?_
          · simp_all! only [res_D, clean_D]
            refine nil_spec (d := d) (by omega) ?_
            simp_all! only [res_D, clean_D]
            exact k _ ⟨_, _, hs6, nil_Clm, rfl⟩
          · simp_all! only [res_D, clean_D]
            refine k _ ⟨_, _, hs6, ⟨ml, fun x hx => ?_⟩, rfl⟩
            have := (maxI_mem (l := (mulL c (-2)).map absI) (by rw [List.length_map]; omega)).2 (absI x) (List.mem_map.mpr ⟨x, hx, rfl⟩)
            have this : absI x ≤ 99999 := by omega
            unfold absI at this
            split at this <;> omega
        · simp_all! only [res_D, clean_D]
          exact k _ ⟨_, _, hs5, hc5, rfl⟩
      · simp_all! only [res_D, clean_D]
        exact k _ ⟨_, _, hs5, hc5, rfl⟩
    rintro e ⟨s6, c6, hs6, hc6, rfl⟩
    simp_all! only [res_D, clean_D]
    exact ⟨by omega, k _ ⟨j + 1, cols ++ [c6], s6, _, _, _, by omega, by omega, hs6, by rw [List.length_append, p2]; rfl, fun c hc => (List.mem_append.mp hc).elim (p3 c) fun hc => by rw [List.mem_singleton.mp hc]; exact hc6, by rw [List.map_append]; rfl⟩⟩
  · subst he
    have : j = many := by omega
    subst this
    simp_all! only [res_D, clean_D]
    exact h cols st hs p2 p3

end Lk

namespace Lk
open PySem PySem.Spec L2 Kv
local macro_rules
  | `(tactic| simp_all! only [$ls,*]) => `(tactic| simp only [↓e_ifT, ↓e_ifF, ↓e_at0, ↓e_atS, ↓e_nx, ↓e_vN, ↓e_vC, ↓e_frzN, ↓e_frzC, ↓e_frz10, ↓e_frz1N, ↓e_frz1S, ↓e_asg, ↓e_set0, ↓e_setS, ↓e_wipeN, ↓e_wipeC, ↓e_resN, ↓e_resC, ↓e_gD0, ↓e_gDS, ↓e_lowN, ↓e_lowC, ↓e_low1N, ↓e_low1S, ↓e_gX0, ↓e_gXS, ↓e_fin, ↓e_vUn, ↓e_vBin, ↓e_vOp, ↓e_apN, ↓e_apI, ↓e_asN, ↓e_asE, ↓e_asI, ↓e_tv, ↓e_tvK, ↓e_trB, ↓e_truB, ↓e_truI, ↓e_andT, ↓e_orT, ↓e_notT, ↓e_ifE, ↓e_bvK, ↓e_andV, ↓e_orV, ↓e_yes, ↓e_skip, ↓e_seq, ↓e_brk, ↓e_cont, ↓e_drop, ↓e_ret, ↓e_retN, ↓e_retV, ↓e_if, ↓e_set, ↓e_for, ↓e_own0, ↓e_ownS, ↓e_olK, ↓e_sixK, ↓e_setIx, ↓e_mut, ↓e_finM, ↓e_app, ↓e_call, ↓e_argN, ↓e_argE, ↓e_argI, ↓e_setON, ↓e_setOE, ↓e_setOI, ↓e_put0, ↓e_putS, ↓e_memN, ↓e_niN, ↓e_ndN, ↓e_nd1, ↓e_ioN, ↓e_ioE, ↓e_ioI, ↓e_run, ↓e_outN, ↓e_out0, ↓e_out1, ↓e_aeN, ↓e_aeC, ↓e_add, ↓e_sub, ↓e_mul, ↓e_div, ↓e_mod, ↓e_pow, ↓e_neg, ↓e_lt, ↓e_le, ↓e_gt, ↓e_ge, ↓e_eq, ↓e_ne, ↓e_not, ↓e_is, ↓e_nA1, ↓e_nA2, ↓e_nA3, ↓e_nA4, ↓e_nA5, ↓e_nA6, ↓e_nA7, ↓e_nA8, ↓e_isN, ↓e_notN, ↓e_ixL, ↓e_ixT, ↓e_ixU, ↓e_tup, ↓e_lst, ↓e_one, ↓e_two, ↓e_mapII, ↓e_mapIf, ↓e_mk0, ↓e_mk1, ↓e_mk2, ↓e_mk3, ↓e_mk4, ↓e_mkM, ↓e_mulT, ↓e_mulL, ↓e_mkR, ↓e_addL, ↓e_addT, ↓e_sl0, ↓e_slL, ↓e_slH, ↓e_slLH, ↓e_slvL, ↓e_slvT, ↓e_slvU, ↓e_intK, ↓e_intsM, ↓e_max, ↓e_min, ↓e_sum, ↓e_lenL, ↓e_lenU, ↓e_lenT, ↓e_abs, ↓e_int, ↓e_intB, ↓e_tupL, ↓e_lstL, ↓e_lstT, ↓e_aI0, ↓e_aI1, ↓e_aI2, ↓e_aI3, ↓e_aI4, ↓e_sI0, ↓e_sI1, ↓e_sI2, ↓e_sI3, ↓e_sI4, ↓e_agN, ↓e_agE, ↓e_agI, ↓e_rg1, ↓e_rgK, ↓e_zip, ↓e_zipT, ↓e_zipL, ↓e_zipI, ↓e_rg2, ↓e_rgKK, ↓e_itE, ↓e_itK, ↓e_sqL, ↓e_sqF, ↓e_sqT, ↓e_sqU, ↓e_lc, ↓e_lcN, ↓e_lcC, ↓e_nm, ↓e_tp, ↓e_tpU, ↓e_bdN, ↓e_bdC, ↓e_forN, ↓e_forC, ↓e_while, ↓e_rev, ↓e_ltX, ↓e_ltT, ↓e_in, ↓e_ni, ↓e_srtI, ↓e_truL, ↓e_truT, ↓e_par, ↓e_eqB, ↓e_cast, ↓e_cast0, ↓e_cast1, ↓e_res0, ↓e_rd0, ↓e_oc0, ↓e_ocN, ↓e_ocS, ↓e_clI, ↓e_clL, ↓e_clM, ↓e_clN, ↓e_clC, ↓e_eqT, ↓e_neT, ↓e_ox0, ↓e_oxS, ↓e_sxK, ↓e_setX, ↓e_lst2, ↓e_vCl, ↓e_clK0, ↓e_clKT, ↓e_clKF, ↓e_mkL, ↓e_clU, ↓e_okN, ↓e_okC, ↓e_okI, ↓e_okL, ↓e_sX0, ↓e_sX1, ↓e_sX2, ↓e_sX3, ↓e_sX4, ↓e_asgT, ↓e_lc2c, ↓e_eqS, ↓e_neS, ↓e_boolM, ↓e_all, ↓e_any, ↓e_lrg, ↓e_ins, ↓e_rgL, ↓e_rgKL, ↓e_eqLI, ↓e_neLT, ↓e_try, ↓e_tryK, ↓e_raise, ↓e_isX, ↓e_con, ↓e_mv, ↓e_ix2, ↓e_ix20, ↓e_ix21, ↓e_tup2, ↓e_enum, ↓e_enumK, ↓e_divX, ↓e_forO, ↓e_owO, ↓e_owOS, res_im, res_lst, res_tup, rdN_im, rdN_lst0, rdN_lst1, rdN_tup0, rdN_tup1, List.map_cons, List.map_nil, List.flatMap_cons, List.flatMap_nil, List.append_nil, List.nil_append, List.cons_append, and_true, true_and, List.filter_nil, List.tail_cons, Option.map_some, List.replicate_succ, List.replicate_zero, List.length_cons, List.length_nil, List.length_map, decide_true, decide_false, Bool.not_true, Bool.not_false, Bool.not_not, true_or, or_true, Bool.and_true, Bool.true_and, Bool.and_self, implies_true, Int.reduceEq, Int.reduceAdd, Int.reduceSub, reduceIte, if_true, eq_self, ite_self, isT, Kv.isNon, Nat.reduceLeDiff, Nat.reduceAdd, Nat.reduceSub, List.flatten_replicate_singleton, Int.reduceLT, Int.reduceLE, Int.reducePow, Int.reduceToNat, Int.reduceNeg, io_divisor_of_two, io_common_divisor, io_one_length, io_first_place, io_primitive, io_cancelled, io_swept, io_dependence, io_is_dependence, io_rank, io__law_mix, io__law_store, io__law_take, io__law_span, io__law_pick, io__law_put, io__law_whole, io__law_same, io__law_nil, io__law_multiple, io__law_far, io__law_columns, io__law_bad_counts, io__law_common, io__law_depends, io__law_clean, io__law_eliminated, io__law_try, io__law_lists_of, io__law_columns_right, io__law_unlike_right, io_law, $ls,*])

theorem cut_map {α β : Type} {f : α → β} {l : List α} {lo hi : Option Int} : cutD (l.map f) lo hi = (cutD l lo hi).map f := by
  unfold cutD
  rw [List.length_map, List.map_take, List.map_drop]
theorem cut_mem {α : Type} {l : List α} {lo hi : Option Int} {x : α} (h : x ∈ cutD l lo hi) : x ∈ l := List.mem_of_mem_drop (List.mem_of_mem_take h)
theorem cut_len {α : Type} {l : List α} {lo hi : Option Int} : (cutD l lo hi).length ≤ l.length := by
  unfold cutD
  rw [List.length_take, List.length_drop]
  omega
theorem at_last {l : List D} {x : D} : atI (l ++ [x]) (-1) = some x := by
  unfold atI ixN
  rw [List.length_append, if_neg (by omega), if_pos (by simp; omega)]
  show (l ++ [x])[(-1 + ((l.length + 1 : Nat) : Int)).toNat]? = _
  rw [show (-1 + ((l.length + 1 : Nat) : Int)).toNat = l.length by omega, List.getElem?_append_right (Nat.le_refl _), Nat.sub_self]
  rfl
theorem set_I {l : List Int} {i : Nat} {y : Int} : (l.map fun i => D.im (I.int i)).set i (int y) = (l.set i y).map fun i => .im (.int i) := by
  rw [List.map_set]
/-- a list to be judged -/
def Jd (b : Nat) (l : List Int) : Prop := l.length ≤ 200 ∧ Bd b l
theorem Jd.mono {a b : Nat} {l : List Int} (h : Jd a l) (hab : a ≤ b) : Jd b l := ⟨h.1, h.2.mono hab⟩
theorem Jd.set {b : Nat} {l : List Int} {i : Nat} {y : Int} (h : Jd b l) (hy : y.natAbs < 2 ^ b) : Jd b (l.set i y) := ⟨by rw [List.length_set]; exact h.1, fun x hx => (List.mem_or_eq_of_mem_set hx).elim (h.2 x) fun e => by rw [e]; exact hy⟩
theorem pickL_spec {st : Sto} {l : List (List Int)} {Qn Qx} (hs : st.Ok) (h0 : 0 < l.length ∧ l.length ≤ 16777216) (h : ∀ (a : List Int) (st : Sto), st.Ok → a ∈ l → Qn ⟨lI a, 0, []⟩ [st.D, .lst (l.map lI)]) : run__law_pick [st.D, .lst (l.map lI)] Qn Qx := by
  unfold run__law_pick m__law_pick
  simp_all! only [res_D, clean_D]
  refine take_spec hs (log_len h0.2) fun v st1 hs1 v1 v2 => ?_
  have hv : 0 ≤ v ∧ v < l.length := by
    by_cases q : (l.length : Int) < 2
    · rw [v1 q]; omega
    · exact v2 (by omega)
  obtain ⟨a, a1, _, ha⟩ := atI_map (f := fun a : List Int => (lI a : D)) hv.1 hv.2
  simp_all! only [res_D, clean_D, ha]
  exact h a st1 hs1 a1
theorem putI_spec {l : List Int} {at_ : Int} {y : Int} {Qn Qx} (h0 : 0 ≤ at_) (h1 : at_ < l.length) (hl : l.length ≤ 16777216) (h : Qn ⟨lI (l.set at_.toNat y), 1, []⟩ [lI l, .im (.int at_), .im (.int y)]) : run__law_put [lI l, .im (.int at_), .im (.int y)] Qn Qx := by
  refine put_spec (l := l.map fun i => .im (.int i)) h0 (by rw [List.length_map]; exact h1) (by rw [List.length_map]; exact hl) ?_
  rw [set_I]
  exact h
theorem gf_pos_fpz {l : List Int} (h : 0 < gf 0 l) : ∃ z, fpz l = some z := by
  cases e : fpz l with
  | some z => exact ⟨z, rfl⟩
  | none =>
    exfalso
    have : 0 ∣ gf 0 l := gf_gr (Nat.dvd_refl 0) fun x hx => by rw [fpz_none e x hx]; exact Nat.dvd_refl 0
    rw [Nat.eq_zero_of_zero_dvd this] at h
    omega
theorem const_D {n : Nat} {x : Int} : ((List.range n).map fun _ => int x) = (List.replicate n x).map fun i => .im (.int i) := by
  rw [List.map_const', List.map_replicate, List.length_range]
theorem jd_rep {n b : Nat} {x : Int} (hn : n ≤ 200) (hx : x.natAbs < 2 ^ b) : Jd b (List.replicate n x) := ⟨by rw [List.length_replicate]; exact hn, fun y hy => by rw [List.eq_of_mem_replicate hy]; exact hx⟩
theorem bd_small {x : Int} {b : Nat} (h : x.natAbs < 2) (hb : 0 < b) : x.natAbs < 2 ^ b := Nat.lt_of_lt_of_le h (by have := Nat.pow_le_pow_right (n := 2) (by decide) hb; omega)
theorem mapNI {n : Nat} (f : Nat → Int) : ((List.range n).map fun k => int (f k)) = ((List.range n).map f).map fun i => .im (.int i) := by rw [List.map_map]; rfl
theorem bd_up {x y : Int} (h : x.natAbs < 2 ^ 338) (hy : y.natAbs ≤ (x.natAbs + 1) * 2 ^ 101) : y.natAbs < 2 ^ 1000 := by
  have h1 : (x.natAbs + 1) * 2 ^ 101 ≤ 2 ^ 338 * 2 ^ 101 := Nat.mul_le_mul_right _ h
  rw [← Nat.pow_add] at h1
  exact Nat.lt_of_le_of_lt (Nat.le_trans hy h1) (Nat.pow_lt_pow_right (by decide) (by decide))
theorem rows_jd {R : List (List Int)} {one : List Int} {A T : Nat} (hR : ∀ r ∈ R, Jd 1000 r) (hl : one.length ≤ 60) (hb : Bd 338 one) : ∀ r ∈ R ++ [one, one.set A (one.getD A 0 + 1), one.set A (one.getD A 0 - 1), one.set A 0] ++ [one.map fun x => x * 2, one.map fun x => x * 1000000000000000000000000000000, one.map fun x => 0 - x, one ++ [0], cutD one none (some (-1))] ++ [(one.set A (one.getD T 0)).set T (one.getD A 0)] ++ [cutD one (some 1) none ++ cutD one none (some 1)], Jd 1000 r := fun r hr => by
  have J : Jd 1000 one := ⟨by omega, hb.mono (by decide)⟩
  have hA := hb.getD A
  have hT := hb.getD T
  have p0 : 1 ≤ 2 ^ 101 := by decide
  have p1 : ∀ x : Int, x.natAbs + 1 ≤ (x.natAbs + 1) * 2 ^ 101 := fun x => Nat.le_mul_of_pos_right _ (by decide)
  rcases List.mem_append.mp hr with hr | hr
  · rcases List.mem_append.mp hr with hr | hr
    · rcases List.mem_append.mp hr with hr | hr
      · rcases List.mem_append.mp hr with hr | hr
        · exact hR r hr
        · simp only [List.mem_cons, List.not_mem_nil, or_false] at hr
          rcases hr with rfl | rfl | rfl | rfl
          · exact J
          · exact J.set (bd_up hA (by have := p1 (one.getD A 0); omega))
          · exact J.set (bd_up hA (by have := p1 (one.getD A 0); omega))
          · exact J.set (bd_small (by decide) (by decide))
      · simp only [List.mem_cons, List.not_mem_nil, or_false] at hr
        rcases hr with rfl | rfl | rfl | rfl | rfl
        · refine ⟨by rw [List.length_map]; omega, fun y hy => ?_⟩
          obtain ⟨x, hx, rfl⟩ := List.mem_map.mp hy
          refine bd_up (hb x hx) ?_
          rw [Int.natAbs_mul]
          exact Nat.mul_le_mul (by omega) (by decide)
        · refine ⟨by rw [List.length_map]; omega, fun y hy => ?_⟩
          obtain ⟨x, hx, rfl⟩ := List.mem_map.mp hy
          refine bd_up (hb x hx) ?_
          rw [Int.natAbs_mul]
          exact Nat.mul_le_mul (by omega) (by decide)
        · refine ⟨by rw [List.length_map]; omega, fun y hy => ?_⟩
          obtain ⟨x, hx, rfl⟩ := List.mem_map.mp hy
          exact bd_up (hb x hx) (by have := p1 x; omega)
        · refine ⟨by rw [List.length_append]; show one.length + 1 ≤ 200; omega, fun y hy => ?_⟩
          rcases List.mem_append.mp hy with hy | hy
          · exact J.2 y hy
          · rw [List.mem_singleton.mp hy]; exact bd_small (by decide) (by decide)
        · exact ⟨by have := cut_len (l := one) (lo := none) (hi := some (-1)); omega, fun y hy => J.2 y (cut_mem hy)⟩
    · rw [List.mem_singleton.mp hr]
      exact (J.set (Nat.lt_of_lt_of_le hT (Nat.pow_le_pow_right (by decide) (by decide)))).set (Nat.lt_of_lt_of_le hA (Nat.pow_le_pow_right (by decide) (by decide)))
  · rw [List.mem_singleton.mp hr]
    refine ⟨by rw [List.length_append]; have := cut_len (l := one) (lo := some 1) (hi := none); have := cut_len (l := one) (lo := none) (hi := some 1); omega, fun y hy => ?_⟩
    rcases List.mem_append.mp hy with hy | hy
    · exact J.2 y (cut_mem hy)
    · exact J.2 y (cut_mem hy)
theorem at_last5 {a b c d e : D} : atI [a, b, c, d, e] (-1) = some e := rfl
theorem lists_law {st : Sto} {cols : List (List Int)} {d : Nat} {fs : List (List Int)} {Qn Qx} (hs : st.Ok) (hc : Cols cols d) (hf : fs.length ≤ cols.length) (hfs : ∀ f ∈ fs, f.length = cols.length ∧ Bd 335 f) (h : ∀ (R : List (List Int)) (st : Sto), st.Ok → (∀ r ∈ R, Jd 1000 r) → R.length ≤ 100 → Qn ⟨.lst (R.map lI), 1, []⟩ [st.D, .lst (cols.map tI), .lst (fs.map lI)]) : run__law_lists_of [st.D, .lst (cols.map tI), .lst (fs.map lI)] Qn Qx := by
  unfold run__law_lists_of m__law_lists_of
  have hn := hc.n
  simp_all! only [res_D, clean_D]
  refine ⟨by unfold R62; omega, ?_⟩
  rw [rgD_nat]
  refine lc_map (List.range cols.length) _ (fun k => int 0) (by rw [List.length_range]; omega) (fun a ha K F k => ?_) ?_
  · simp_all! only [res_D, clean_D]
    exact k
  rw [const_D]
  simp_all! only [res_D, clean_D]
  refine ⟨by unfold R62; omega, ?_⟩
  rw [rgD_nat]
  refine lc_map (List.range cols.length) _ (fun k => int 1) (by rw [List.length_range]; omega) (fun a ha K F k => ?_) ?_
  · simp_all! only [res_D, clean_D]
    exact k
  rw [const_D]
  simp_all! only [res_D, clean_D]
  have j0 : ∀ r ∈ [List.replicate cols.length (0 : Int), List.replicate cols.length 1, [], [1]], Jd 1000 r := fun r hr => by
    simp only [List.mem_cons, List.not_mem_nil, or_false] at hr
    rcases hr with rfl | rfl | rfl | rfl
    · exact jd_rep (by omega) (bd_small (by decide) (by decide))
    · exact jd_rep (by omega) (bd_small (by decide) (by decide))
    · exact ⟨by decide, fun _ h => (nomatch h)⟩
    · exact jd_rep (n := 1) (x := 1) (by decide) (bd_small (by decide) (by decide))
  refine nocut ?_
  simp_all! only [res_D, clean_D]
  refine IfK.bool (fun q0 => ?_) fun q0 => ?_
  · have fp := ne_pos q0
    simp_all! only [res_D, clean_D]
    refine pickL_spec hs ⟨fp, by omega⟩ fun one st1 hs1 ho => ?_
    have one2 := hfs one ho
    simp_all! only [res_D, clean_D]
    refine take_spec hs1 (by decide) fun v st2 hs2 _ v2 => ?_
    have v2 := v2 (by decide)
    have hz : ∃ z : Int, z.natAbs < 4 ∧ atI [int 2, int (-1), int 3, int 1] v = some (int z) := by
      have : v = 0 ∨ v = 1 ∨ v = 2 ∨ v = 3 := by omega
      rcases this with rfl | rfl | rfl | rfl
      · exact ⟨2, by decide, rfl⟩
      · exact ⟨-1, by decide, rfl⟩
      · exact ⟨3, by decide, rfl⟩
      · exact ⟨1, by decide, rfl⟩
    obtain ⟨z, hz, e1⟩ := hz
    simp_all! only [res_D, clean_D, e1]
    refine pickL_spec hs2 ⟨fp, by omega⟩ fun more st3 hs3 hm => ?_
    have more2 := hfs more hm
    simp_all! only [res_D, clean_D]
    have op := hc.dd
    have np : 0 < cols.length := by
      have := List.length_pos_of_mem ho
      omega
    refine ⟨by unfold R62; omega, ?_⟩
    rw [rgD_nat]
    refine lc_map (List.range cols.length) _ (fun k => int (one.getD k 0 + z * more.getD k 0)) (by rw [List.length_range]; omega) (fun k hk K F kn => ?_) ?_
    · have hk := List.mem_range.mp hk
      have b1 := getD_at (l := one) (i := k) (by omega)
      have b2 := getD_at (l := more) (i := k) (by omega)
      simp_all! only [res_D, clean_D, b1, b2]
      exact ⟨Kv.mulL (by omega), kn⟩
    rw [mapNI]
    have bb : Bd 338 ((List.range cols.length).map fun k => one.getD k 0 + z * more.getD k 0) := fun x hx => by
      obtain ⟨k, _, rfl⟩ := List.mem_map.mp hx
      have h1 := one2.2.getD k
      have h2 := more2.2.getD k
      generalize one.getD k 0 = x at h1
      generalize more.getD k 0 = y at h2
      have h3 : (z * y).natAbs ≤ 3 * y.natAbs := by rw [Int.natAbs_mul]; exact Nat.mul_le_mul_right _ (by omega)
      have e : 2 ^ 338 = 8 * 2 ^ 335 := by rw [show 338 = 335 + 3 from rfl, Nat.pow_add, Nat.mul_comm]
      rw [e]
      generalize 2 ^ 335 = M at *
      omega
    have bl : ((List.range cols.length).map fun k => one.getD k 0 + z * more.getD k 0).length = cols.length := by rw [List.length_map, List.length_range]
    generalize ((List.range cols.length).map fun k => one.getD k 0 + z * more.getD k 0) = both at bb bl
    simp_all! only [res_D, clean_D]
    refine cut (fun e => ∃ (st : Sto) (R : List (List Int)) (one : List Int) (m4 : Nat) (o6 o7 o8 : Option (D × Nat)), (m4 = 0 ∨ m4 = 1) ∧ st.Ok ∧ (∀ r ∈ R, Jd 1000 r) ∧ R.length ≤ 5 ∧ one.length = cols.length ∧ Bd 338 one ∧ e = [some (st.D, 2), some (.lst (cols.map tI), 0), some (.lst (fs.map lI), 0), some (int cols.length, 0), some (.lst (R.map lI), m4), some (lI one, 0), o6, o7, o8, none, none, none, none]) (fun K k => ?_) ?_
    · simp_all! only [res_D, clean_D]
      refine common_law bb (by decide) ?_
      simp_all! only [res_D, clean_D]
      refine IfK.dec (fun q1 => ?_) fun q1 => ?_
      · obtain ⟨⟨i1, f1⟩, e2⟩ := gf_pos_fpz (l := both) (by omega)
        have pb := prim_Bd e2 bb
        simp_all! only [res_D, clean_D]
        refine clean_law e2 bb (by decide) (by omega) ?_
        simp_all! only [res_D, clean_D]
        refine ⟨by decide, ?_⟩
        simp_all! only [res_D, clean_D, at_last5]
        refine take_spec hs3 (by decide) fun v st4 hs4 _ v2 => ?_
        have v2 := v2 (by decide)
        have j1 : ∀ r ∈ [List.replicate cols.length (0 : Int), List.replicate cols.length 1, [], [1], prim both f1], Jd 1000 r := fun r hr => by
          rw [show [List.replicate cols.length (0 : Int), List.replicate cols.length 1, [], [1], prim both f1] = [List.replicate cols.length (0 : Int), List.replicate cols.length 1, [], [1]] ++ [prim both f1] from rfl] at hr
          rcases List.mem_append.mp hr with hr | hr
          · exact j0 r hr
          · rw [List.mem_singleton.mp hr]
            exact ⟨by rw [pb.2]; omega, pb.1.mono (by decide)⟩
        have : v = 0 ∨ v = 1 := by omega
        rcases this with rfl | rfl
        · simp_all! only [res_D, clean_D]
          exact ⟨show ∀ j ∈ [4], ¬ j ∈ [0] by decide, k _ ⟨st4, [List.replicate cols.length (0 : Int), List.replicate cols.length 1, [], [1], prim both f1], one, 0, _, _, _, .inl rfl, hs4, j1, by show 5 ≤ 5; decide, one2.1, one2.2.mono (by decide), rfl⟩⟩
        · simp_all! only [res_D, clean_D]
          exact ⟨show ∀ j ∈ [4], ¬ j ∈ [0] by decide, k _ ⟨st4, [List.replicate cols.length (0 : Int), List.replicate cols.length 1, [], [1], prim both f1], prim both f1, 0, _, _, _, .inl rfl, hs4, j1, by show 5 ≤ 5; decide, by rw [pb.2]; exact bl, pb.1, rfl⟩⟩
      · simp_all! only [res_D, clean_D]
        exact k _ ⟨st3, _, one, 1, _, _, _, .inr rfl, hs3, j0, by show 4 ≤ 5; decide, one2.1, one2.2.mono (by decide), rfl⟩
    rintro e ⟨st5, R, one, m4, o6, o7, o8, hm4, hs5, hR, hRl, hol, hob, rfl⟩
    rcases hm4 with rfl | rfl
    all_goals
      simp_all! only [res_D, clean_D]
      refine take_spec hs5 (log_len (by omega)) fun at_ st6 hs6 v1 v2 => ?_
      have hat : 0 ≤ at_ ∧ at_ < cols.length := by
        by_cases q : (cols.length : Int) < 2
        · rw [v1 q]; omega
        · exact v2 (by omega)
      simp_all! only [res_D, clean_D]
      refine take_spec hs6 (log_len (by omega)) fun to_ st7 hs7 v1 v2 => ?_
      have hto : 0 ≤ to_ ∧ to_ < cols.length := by
        by_cases q : (cols.length : Int) < 2
        · rw [v1 q]; omega
        · exact v2 (by omega)
      obtain ⟨A, rfl⟩ := Int.eq_ofNat_of_zero_le hat.1
      obtain ⟨T, rfl⟩ := Int.eq_ofNat_of_zero_le hto.1
      have a1 := getD_at (l := one) (i := A) (by omega)
      have a2 := getD_at (l := one) (i := T) (by omega)
      simp_all! only [res_D, clean_D, a1, a2]
      refine putI_spec (by omega) (by omega) (by omega) ?_
      simp_all! only [res_D, clean_D, a1, a2]
      refine putI_spec (by omega) (by omega) (by omega) ?_
      simp_all! only [res_D, clean_D, a1, a2]
      refine putI_spec (by omega) (by omega) (by omega) ?_
      simp_all! only [res_D, clean_D, a1, a2]
      refine ⟨by omega, ?_⟩
      refine lc_map one _ (fun x => int (x * 2)) (by omega) (fun x hx K F k => ?_) ?_
      · simp_all! only [res_D, clean_D]
        exact ⟨mulR (by decide), k⟩
      rw [mapII one (fun x => x * 2)]
      simp_all! only [res_D, clean_D]
      refine lc_map one _ (fun x => int (x * 1000000000000000000000000000000)) (by omega) (fun x hx K F k => ?_) ?_
      · simp_all! only [res_D, clean_D]
        exact ⟨by decide, mulC6 ⟨Nat.lt_of_lt_of_le (hob x hx) (Nat.pow_le_pow_right (by decide) (by decide)), Nat.lt_of_lt_of_le (show _ < 2 ^ 100 by decide) (Nat.pow_le_pow_right (by decide) (by decide))⟩, k⟩
      rw [mapII one (fun x => x * 1000000000000000000000000000000)]
      simp_all! only [res_D, clean_D]
      refine lc_map one _ (fun x => int (0 - x)) (by omega) (fun x hx K F k => ?_) ?_
      · simp_all! only [res_D, clean_D]
        exact k
      rw [mapII one (fun x => 0 - x)]
      simp_all! only [res_D, clean_D, cut_map, a1, a2]
      refine ⟨by omega, ?_, ?_, ?_⟩
      · show ∀ j ∈ [4], ¬ j ∈ [12, 12, 12]
        decide
      · rw [List.length_append, List.length_map]
        show R.length + 4 ≤ _
        omega
      simp_all! only [res_D, clean_D, cut_map, a1, a2]
      refine putI_spec (by omega) (by omega) (by omega) ?_
      simp_all! only [res_D, clean_D, cut_map, a1, a2]
      refine putI_spec (by omega) (by rw [List.length_set]; omega) (by rw [List.length_set]; omega) ?_
      simp_all! only [res_D, clean_D, cut_map, a1, a2]
      have lA : ∀ (x y : List D), x.length = R.length + 4 → (x ++ y).length = R.length + 4 + y.length := fun x y h => by rw [List.length_append, h]
      have l0 : ∀ a b c d : D, (R.map lI ++ [a, b, c, d]).length = R.length + 4 := fun a b c d => by rw [List.length_append, List.length_map]; rfl
      refine ⟨by rw [lA _ _ (l0 _ _ _ _)]; show R.length + 4 + 5 < _; omega, by have := cut_len (l := one) (lo := some 1) (hi := none); have := cut_len (l := one) (lo := none) (hi := some 1); omega, by rw [List.length_append, lA _ _ (l0 _ _ _ _)]; show R.length + 4 + 5 + 1 < _; omega, ?_⟩
      have hh := h (R ++ [one, one.set A (one.getD A 0 + 1), one.set A (one.getD A 0 - 1), one.set A 0] ++ [one.map fun x => x * 2, one.map fun x => x * 1000000000000000000000000000000, one.map fun x => 0 - x, one ++ [0], cutD one none (some (-1))] ++ [(one.set A (one.getD T 0)).set T (one.getD A 0)] ++ [cutD one (some 1) none ++ cutD one none (some 1)]) st7 hs7 ?_ ?_
      · simp only [List.map_append, List.map_cons, List.map_nil, lI] at hh
        exact hh
      · exact rows_jd hR (by omega) hob
      · rw [List.length_append, List.length_append, List.length_append, List.length_append]
        show R.length + 4 + 5 + 1 + 1 ≤ 100
        omega
  · simp_all! only [res_D, clean_D]
    exact h _ st hs j0 (by show 4 ≤ 100; decide)

end Lk

namespace Lk
open PySem PySem.Spec L2 Kv
local macro_rules
  | `(tactic| simp_all! only [$ls,*]) => `(tactic| simp only [↓e_ifT, ↓e_ifF, ↓e_at0, ↓e_atS, ↓e_nx, ↓e_vN, ↓e_vC, ↓e_frzN, ↓e_frzC, ↓e_frz10, ↓e_frz1N, ↓e_frz1S, ↓e_asg, ↓e_set0, ↓e_setS, ↓e_wipeN, ↓e_wipeC, ↓e_resN, ↓e_resC, ↓e_gD0, ↓e_gDS, ↓e_lowN, ↓e_lowC, ↓e_low1N, ↓e_low1S, ↓e_gX0, ↓e_gXS, ↓e_fin, ↓e_vUn, ↓e_vBin, ↓e_vOp, ↓e_apN, ↓e_apI, ↓e_asN, ↓e_asE, ↓e_asI, ↓e_tv, ↓e_tvK, ↓e_trB, ↓e_truB, ↓e_truI, ↓e_andT, ↓e_orT, ↓e_notT, ↓e_ifE, ↓e_bvK, ↓e_andV, ↓e_orV, ↓e_yes, ↓e_skip, ↓e_seq, ↓e_brk, ↓e_cont, ↓e_drop, ↓e_ret, ↓e_retN, ↓e_retV, ↓e_if, ↓e_set, ↓e_for, ↓e_own0, ↓e_ownS, ↓e_olK, ↓e_sixK, ↓e_setIx, ↓e_mut, ↓e_finM, ↓e_app, ↓e_call, ↓e_argN, ↓e_argE, ↓e_argI, ↓e_setON, ↓e_setOE, ↓e_setOI, ↓e_put0, ↓e_putS, ↓e_memN, ↓e_niN, ↓e_ndN, ↓e_nd1, ↓e_ioN, ↓e_ioE, ↓e_ioI, ↓e_run, ↓e_outN, ↓e_out0, ↓e_out1, ↓e_aeN, ↓e_aeC, ↓e_add, ↓e_sub, ↓e_mul, ↓e_div, ↓e_mod, ↓e_pow, ↓e_neg, ↓e_lt, ↓e_le, ↓e_gt, ↓e_ge, ↓e_eq, ↓e_ne, ↓e_not, ↓e_is, ↓e_nA1, ↓e_nA2, ↓e_nA3, ↓e_nA4, ↓e_nA5, ↓e_nA6, ↓e_nA7, ↓e_nA8, ↓e_isN, ↓e_notN, ↓e_ixL, ↓e_ixT, ↓e_ixU, ↓e_tup, ↓e_lst, ↓e_one, ↓e_two, ↓e_mapII, ↓e_mapIf, ↓e_mk0, ↓e_mk1, ↓e_mk2, ↓e_mk3, ↓e_mk4, ↓e_mkM, ↓e_mulT, ↓e_mulL, ↓e_mkR, ↓e_addL, ↓e_addT, ↓e_sl0, ↓e_slL, ↓e_slH, ↓e_slLH, ↓e_slvL, ↓e_slvT, ↓e_slvU, ↓e_intK, ↓e_intsM, ↓e_max, ↓e_min, ↓e_sum, ↓e_lenL, ↓e_lenU, ↓e_lenT, ↓e_abs, ↓e_int, ↓e_intB, ↓e_tupL, ↓e_lstL, ↓e_lstT, ↓e_aI0, ↓e_aI1, ↓e_aI2, ↓e_aI3, ↓e_aI4, ↓e_sI0, ↓e_sI1, ↓e_sI2, ↓e_sI3, ↓e_sI4, ↓e_agN, ↓e_agE, ↓e_agI, ↓e_rg1, ↓e_rgK, ↓e_zip, ↓e_zipT, ↓e_zipL, ↓e_zipI, ↓e_rg2, ↓e_rgKK, ↓e_itE, ↓e_itK, ↓e_sqL, ↓e_sqF, ↓e_sqT, ↓e_sqU, ↓e_lc, ↓e_lcN, ↓e_lcC, ↓e_nm, ↓e_tp, ↓e_tpU, ↓e_bdN, ↓e_bdC, ↓e_forN, ↓e_forC, ↓e_while, ↓e_rev, ↓e_ltX, ↓e_ltT, ↓e_in, ↓e_ni, ↓e_srtI, ↓e_truL, ↓e_truT, ↓e_par, ↓e_eqB, ↓e_cast, ↓e_cast0, ↓e_cast1, ↓e_res0, ↓e_rd0, ↓e_oc0, ↓e_ocN, ↓e_ocS, ↓e_clI, ↓e_clL, ↓e_clM, ↓e_clN, ↓e_clC, ↓e_eqT, ↓e_neT, ↓e_ox0, ↓e_oxS, ↓e_sxK, ↓e_setX, ↓e_lst2, ↓e_vCl, ↓e_clK0, ↓e_clKT, ↓e_clKF, ↓e_mkL, ↓e_clU, ↓e_okN, ↓e_okC, ↓e_okI, ↓e_okL, ↓e_sX0, ↓e_sX1, ↓e_sX2, ↓e_sX3, ↓e_sX4, ↓e_asgT, ↓e_lc2c, ↓e_eqS, ↓e_neS, ↓e_boolM, ↓e_all, ↓e_any, ↓e_lrg, ↓e_ins, ↓e_rgL, ↓e_rgKL, ↓e_eqLI, ↓e_neLT, ↓e_try, ↓e_tryK, ↓e_raise, ↓e_isX, ↓e_con, ↓e_mv, ↓e_ix2, ↓e_ix20, ↓e_ix21, ↓e_tup2, ↓e_enum, ↓e_enumK, ↓e_divX, ↓e_forO, ↓e_owO, ↓e_owOS, res_im, res_lst, res_tup, rdN_im, rdN_lst0, rdN_lst1, rdN_tup0, rdN_tup1, List.map_cons, List.map_nil, List.flatMap_cons, List.flatMap_nil, List.append_nil, List.nil_append, List.cons_append, and_true, true_and, List.filter_nil, List.tail_cons, Option.map_some, List.replicate_succ, List.replicate_zero, List.length_cons, List.length_nil, List.length_map, decide_true, decide_false, Bool.not_true, Bool.not_false, Bool.not_not, true_or, or_true, Bool.and_true, Bool.true_and, Bool.and_self, implies_true, Int.reduceEq, Int.reduceAdd, Int.reduceSub, reduceIte, if_true, eq_self, ite_self, isT, Kv.isNon, Nat.reduceLeDiff, Nat.reduceAdd, Nat.reduceSub, List.flatten_replicate_singleton, Int.reduceLT, Int.reduceLE, Int.reducePow, Int.reduceToNat, Int.reduceNeg, io_divisor_of_two, io_common_divisor, io_one_length, io_first_place, io_primitive, io_cancelled, io_swept, io_dependence, io_is_dependence, io_rank, io__law_mix, io__law_store, io__law_take, io__law_span, io__law_pick, io__law_put, io__law_whole, io__law_same, io__law_nil, io__law_multiple, io__law_far, io__law_columns, io__law_bad_counts, io__law_common, io__law_depends, io__law_clean, io__law_eliminated, io__law_try, io__law_lists_of, io__law_columns_right, io__law_unlike_right, io_law, $ls,*])

theorem sm_leaf {n : Nat} {d : D} (h : Leaf d) : Sm n d := by
  cases n with
  | zero => exact h
  | succ n => exact .inl h
theorem sm_I (n : Nat) {l : List Int} (h : l.length ≤ 16777216) : Sm (n + 1) (lI l) := .inr (.inr (.inr ⟨_, rfl, by rw [List.length_map]; exact h, fun x hx => by
  obtain ⟨i, _, rfl⟩ := List.mem_map.mp hx
  exact sm_leaf (.inl ⟨i, rfl⟩)⟩))
theorem sm_tI (n : Nat) {p : List Int} (h : p.length ≤ 16777216) : Sm (n + 1) (tI p) := .inr (.inl ⟨_, rfl, by rw [List.length_map]; exact h, fun i hi => by
  obtain ⟨x, _, rfl⟩ := List.mem_map.mp hi
  exact sm_leaf (.inl ⟨x, rfl⟩)⟩)
def refD : D := .im (.tup [.str "refused"])
theorem sh_ref : shD refD := by
  show _ = true
  decide +kernel
theorem ne_ref : oNe (.im (.tup [.str "refused"])) (.im (.tup [.str "refused"])) = some ⟨shD refD ∧ shD refD, bl false, 0⟩ := by
  show some (⟨_, bl (!eqD refD refD), 0⟩ : Rs) = _
  rw [show eqD refD refD = true by decide +kernel]
  rfl
theorem two_le {α : Type} {a b : α} : [a, b].length ≤ 16777216 := by simp
theorem sh_got : shD (.im (.str "got")) := by
  show _ = true
  decide +kernel
theorem sm_gotI (n : Nat) {i : Int} : Sm (n + 1) (.im (.tup [.str "got", .int i])) := .inr (.inl ⟨_, rfl, two_le, fun x hx => by
  simp only [List.mem_cons, List.not_mem_nil, or_false] at hx
  rcases hx with rfl | rfl
  · exact sm_leaf (.inr (.inr (.inr ⟨_, rfl, sh_got⟩)))
  · exact sm_leaf (.inl ⟨_, rfl⟩)⟩)
theorem sm_gotB (n : Nat) {b : Bool} : Sm (n + 1) (.im (.tup [.str "got", .bl b])) := .inr (.inl ⟨_, rfl, two_le, fun x hx => by
  simp only [List.mem_cons, List.not_mem_nil, or_false] at hx
  rcases hx with rfl | rfl
  · exact sm_leaf (.inr (.inr (.inr ⟨_, rfl, sh_got⟩)))
  · exact sm_leaf (.inr (.inr (.inl ⟨_, rfl⟩)))⟩)
theorem sm_gotL (n : Nat) {l : List Int} (h : l.length ≤ 16777216) : Sm (n + 2) (.tup [.im (.str "got"), lI l]) := .inr (.inr (.inl ⟨_, rfl, two_le, fun x hx => by
  simp only [List.mem_cons, List.not_mem_nil, or_false] at hx
  rcases hx with rfl | rfl
  · exact sm_leaf (.inr (.inr (.inr ⟨_, rfl, sh_got⟩)))
  · exact sm_I n h⟩))
theorem sm_cols (n : Nat) {cols : List (List Int)} (h : cols.length ≤ 16777216) (hs : ∀ s ∈ cols, s.length ≤ 16777216) : Sm (n + 2) (.lst (cols.map tI)) := .inr (.inr (.inr ⟨_, rfl, by rw [List.length_map]; exact h, fun x hx => by
  obtain ⟨s, hs', rfl⟩ := List.mem_map.mp hx
  exact sm_tI n (hs s hs')⟩))
theorem found_bd {cols : List (List Int)} {d : Nat} (hc : Cols cols d) : ∀ j, j ≤ cols.length → ∀ l, foundAt cols j = some l → l.length = cols.length ∧ Bd 335 l
  | 0, _, _, h => by cases h
  | j + 1, hj, l, h => by
    have ih := found_bd hc j (by omega)
    have dp := dep_of hc hj (good_all hc j (by omega))
    unfold foundAt at h
    cases e : foundAt cols j with
    | some l2 =>
      rw [e] at h
      cases h
      exact ih _ e
    | none =>
      rw [e] at h
      cases e2 : fpz (elim (cols.getD j [], unitL cols.length j) (rowsAt cols j)).1 with
      | some z => rw [e2] at h; cases h
      | none =>
        rw [e2] at h
        obtain ⟨i, f, f1, f2, f3, _⟩ := dp e2
        rw [f1] at h
        cases h
        have := prim_Bd f1 f2
        exact ⟨this.2.trans f3, this.1⟩
theorem isDep_nil {d : Nat} {l : List Int} : isDep [] d l = false := isDep_f fun z => by
  obtain ⟨i, x, f, _⟩ := z.f
  have := z.n
  have : l = [] := List.length_eq_zero_iff.mp this
  subst this
  cases f
theorem head_len {cols : List (List Int)} {d : Nat} (hc : Cols cols d) (h : 0 < cols.length) : (cols.headD []).length = d := by
  cases cols with
  | nil => cases h
  | cons c cols => exact hc.head
def ansD : Option (List Int) → D
  | none => .im (.tup [.str "refused"])
  | some l => .tup [.im (.str "got"), lI l]
def ansN : Option (List Int) → Nat
  | none => 0
  | some _ => 1
theorem clean_ans {o : Option (List Int)} : clean (ansN o) (ansD o) = true := by
  cases o with
  | none => exact e_clI
  | some l => simp only [ansN, ansD, e_clU, e_clC, e_clI, e_clL, e_clM, e_clN, Bool.and_true]
theorem res_ans {o : Option (List Int)} : res (ansD o, ansN o) [] = ⟨ansD o, ansN o, []⟩ := by cases o <;> rfl
theorem try0_spec {cols : List (List Int)} {d : Nat} {Qn Qx} (hc : Cols cols d) (h : ∀ o : Option (List Int), (o = none → ¬ d < cols.length) → (∀ l, o = some l → d < cols.length ∧ foundAt cols cols.length = some l ∧ Dep cols d l) → Qn ⟨ansD o, ansN o, []⟩ [int 0, .lst (cols.map tI), .lst []]) : run__law_try [int 0, .lst (cols.map tI), .lst []] Qn Qx := by
  have hn := hc.n
  by_cases hdn : d < cols.length
  · refine try0_ok hc hdn fun l h1 h2 => ?_
    exact h (some l) (fun z => (nomatch z)) (fun l' e => by cases e; exact ⟨hdn, h1, h2⟩)
  · refine try0_no (by omega) (by
        by_cases q : cols = []
        · exact .inl q
        · have : 0 < cols.length := List.length_pos_iff.mpr q
          have := head_len hc this
          exact .inr (.inr (by omega))) ?_
    exact h none (fun _ => hdn) (fun l' e => (nomatch e))
theorem at_head {cols : List (List Int)} (h : 0 < cols.length) : atI (cols.map tI) 0 = some (tI (cols.headD [])) := by
  cases cols with
  | nil => cases h
  | cons c cols => rw [List.map_cons, e_aI0]; rfl
theorem right_law {st : Sto} {cols : List (List Int)} {d : Nat} {Qn Qx} (hs : st.Ok) (hc : Cols cols d) (h : ∀ st : Sto, st.Ok → Qn ⟨bl true, 0, []⟩ [st.D, .lst (cols.map tI)]) : run__law_columns_right [st.D, .lst (cols.map tI)] Qn Qx := by
  unfold run__law_columns_right m__law_columns_right
  have hn := hc.n
  have hd := hc.dd
  simp_all! only [res_D, clean_D]
  refine elim_law hc fun fs hf hfs => ?_
  simp_all! only [res_D, clean_D]
  unfold CallK
  refine try2_ok hc ?_
  simp_all! only [res_D, clean_D]
  refine same_refl (sm_gotI 2) ?_
  simp_all! only [res_D, clean_D]
  unfold CallK
  refine try0_spec hc fun o o1 o2 => ?_
  simp_all! only [res_D, clean_D, clean_ans, res_ans]
  refine cut (fun e => ∃ (rs : List (List Int)) (m4 : Nat) (o5 o7 o8 o9 : Option (D × Nat)), (m4 = 0 ∨ m4 = 1) ∧ rs.length ≤ 100 ∧ (∀ r ∈ rs, Jd 1000 r) ∧ e = [some (st.D, 2), some (.lst (cols.map tI), 0), some (.tup [int (rowsAt cols cols.length).length, .lst (fs.map lI)], 0), some (.lst (rs.map lI), 1), some (.lst (cols.map tI), m4), o5, none, o7, o8, o9, none, none]) (fun K k => ?_) ?_
  · cases o with
    | none =>
      have hdn := o1 rfl
      simp only [ansD, ansN]
      have fin : ∀ e : En, (∃ o5, e = [some (st.D, 2), some (.lst (cols.map tI), 0), some (.tup [int (rowsAt cols cols.length).length, .lst (fs.map lI)], 0), some (.lst (fs.map lI), 1), some (.lst (cols.map tI), 1), o5, none, none, none, none, none, none]) → K e := fun e ⟨o5, he⟩ => k e ⟨fs, 1, o5, _, _, _, .inr rfl, by omega, fun r hr => ⟨by rw [(hfs r hr).1]; omega, (hfs r hr).2.mono (by decide)⟩, he⟩
      simp_all! only [res_D, clean_D]
      refine IfK.bool (fun q => ?_) fun q => ?_
      · simp_all! only [res_D, clean_D, ne_ref]
        exact ⟨⟨sh_ref, sh_ref⟩, fin _ ⟨_, rfl⟩⟩
      · have c0 : 0 < cols.length := by
          cases cols with
          | nil => cases q
          | cons _ _ => exact Nat.succ_pos _
        have ah := at_head c0
        have hh := head_len hc c0
        simp_all! only [res_D, clean_D, ah]
        refine IfK.dec (fun q => ?_) fun q => ?_
        · simp_all! only [res_D, clean_D, ne_ref]
          exact ⟨⟨sh_ref, sh_ref⟩, fin _ ⟨_, rfl⟩⟩
        · omega
    | some l =>
      obtain ⟨hdn, hl1, hl2⟩ := o2 l rfl
      have c0 : 0 < cols.length := by omega
      have hh := head_len hc c0
      have ah := at_head c0
      have lb := found_bd hc _ (Nat.le_refl _) l hl1
      simp only [ansD, ansN]
      simp_all! only [res_D, clean_D]
      refine IfK.bool (fun q => ?_) fun q => ?_
      · cases cols with
        | nil => cases c0
        | cons _ _ => cases q
      simp_all! only [res_D, clean_D, ah]
      refine IfK.dec (fun q => ?_) fun q => ?_
      · omega
      simp_all! only [res_D, clean_D, beq_self_eq_true]
      refine ⟨⟨sh_got, sh_got⟩, ?_⟩
      unfold CallK
      refine depends_law hc c0 (by omega) (lb.2.mono (by decide)) ?_
      rw [isDep_t hl2]
      simp_all! only [res_D, clean_D]
      refine ⟨by omega, by omega, ?_⟩
      unfold CallK
      refine try0_ok hc hdn fun l2 h1 h2 => ?_
      rw [hl1] at h1
      cases h1
      simp_all! only [res_D, clean_D]
      refine same_refl (n := 3) (sm_gotL 1 (by omega)) ?_
      simp_all! only [res_D, clean_D]
      exact k _ ⟨l :: fs, 1, _, _, _, _, .inr rfl, by rw [List.length_cons]; omega, fun r hr => by
        rcases List.mem_cons.mp hr with rfl | hr
        · exact ⟨by omega, lb.2.mono (by decide)⟩
        · exact ⟨by rw [(hfs r hr).1]; omega, (hfs r hr).2.mono (by decide)⟩, rfl⟩
  rintro e ⟨rs, m4, o5, o7, o8, o9, hm4, hrl, hrs, rfl⟩
  rcases hm4 with rfl | rfl
  all_goals
    simp_all! only [res_D, clean_D]
    refine lists_law hs hc hf hfs fun R st2 hs2 hR hRl => ?_
    simp_all! only [res_D, clean_D, cut_map]
    have c6 : cutD rs none (some 6) = rs.take 6 := cut_hi (by decide)
    rw [c6]
    have ht : (rs.take 6).length ≤ 6 := by rw [List.length_take]; omega
    have hts : ∀ r ∈ rs.take 6, Jd 1000 r := fun r hr => hrs r (List.mem_of_mem_take hr)
    generalize rs.take 6 = T at ht hts
    cases cleans 0 (List.map lI T)
    all_goals
      simp_all! only [res_D, clean_D]
      refine ⟨by omega, ?_⟩
      refine for_ind (fun ds e => ∃ (L : List (List Int)) (m4 : Nat) (o3 o6 o10 o11 : Option (D × Nat)), (m4 = 0 ∨ m4 = 1) ∧ ds = L.map lI ∧ (∀ r ∈ L, Jd 1000 r) ∧ e = [some (st2.D, 2), some (.lst (cols.map tI), 0), some (.tup [int (rowsAt cols cols.length).length, .lst (fs.map lI)], 0), o3, some (.lst (cols.map tI), m4), o5, o6, o7, o8, o9, o10, o11]) (fun d' r e ⟨L, m4, o3, o6, o10, o11, hm4, h1, h2, he⟩ K k => ?_) (fun e ⟨L, m4, o3, o6, o10, o11, hm4, h1, h2, he⟩ => ?_) ⟨R ++ T, _, _, _, _, _, by decide, by rw [List.map_append], fun r hr => (List.mem_append.mp hr).elim (hR r) (hts r), rfl⟩
      · subst he
        cases L with
        | nil => cases h1
        | cons l L =>
          cases h1
          have jl := h2 l List.mem_cons_self
          rcases hm4 with rfl | rfl
          all_goals
            simp_all! only [res_D, clean_D]
            refine IfK.dec (fun c0 => ?_) fun c0 => ?_
            · simp_all! only [res_D, clean_D]
              unfold CallK
              refine depends_law hc (by omega) (by have := jl.1; omega) (jl.2.mono (by decide)) ?_
              simp_all! only [res_D, clean_D]
              unfold CallK
              refine try1_ok hc (by have := jl.1; omega) (jl.2.mono (by decide)) ?_
              simp_all! only [res_D, clean_D]
              refine same_refl (n := 3) (sm_gotB 2) ?_
              simp_all! only [res_D, clean_D]
              refine same_refl (n := 3) (sm_I 2 (by have := jl.1; omega)) ?_
              simp_all! only [res_D, clean_D]
              exact k _ ⟨L, _, _, _, _, _, by decide, rfl, fun r hr => h2 r (List.mem_cons_of_mem _ hr), rfl⟩
            · have : cols = [] := by
                cases cols with
                | nil => rfl
                | cons _ _ => exact absurd (by rw [List.length_cons]; omega) c0
              subst this
              simp_all! only [res_D, clean_D]
              unfold CallK
              refine try1_ok (cols := []) hc (by have := jl.1; omega) (jl.2.mono (by decide)) ?_
              rw [isDep_nil]
              simp_all! only [res_D, clean_D]
              refine same_refl (n := 3) (sm_gotB 2) ?_
              simp_all! only [res_D, clean_D]
              refine same_refl (n := 3) (sm_I 2 (by have := jl.1; omega)) ?_
              simp_all! only [res_D, clean_D]
              exact k _ ⟨L, _, _, _, _, _, by decide, rfl, fun r hr => h2 r (List.mem_cons_of_mem _ hr), rfl⟩
      · subst he
        rcases hm4 with rfl | rfl
        all_goals
          simp_all! only [res_D, clean_D]
          refine same_refl (n := 3) (sm_cols 1 (by omega) fun s hs => by rw [(hc.c s hs).1]; omega) ?_
          simp_all! only [res_D, clean_D]
          exact h st2 hs2

end Lk

namespace Lk
open PySem PySem.Spec L2 Kv
local macro_rules
  | `(tactic| simp_all! only [$ls,*]) => `(tactic| simp only [↓e_ifT, ↓e_ifF, ↓e_at0, ↓e_atS, ↓e_nx, ↓e_vN, ↓e_vC, ↓e_frzN, ↓e_frzC, ↓e_frz10, ↓e_frz1N, ↓e_frz1S, ↓e_asg, ↓e_set0, ↓e_setS, ↓e_wipeN, ↓e_wipeC, ↓e_resN, ↓e_resC, ↓e_gD0, ↓e_gDS, ↓e_lowN, ↓e_lowC, ↓e_low1N, ↓e_low1S, ↓e_gX0, ↓e_gXS, ↓e_fin, ↓e_vUn, ↓e_vBin, ↓e_vOp, ↓e_apN, ↓e_apI, ↓e_asN, ↓e_asE, ↓e_asI, ↓e_tv, ↓e_tvK, ↓e_trB, ↓e_truB, ↓e_truI, ↓e_andT, ↓e_orT, ↓e_notT, ↓e_ifE, ↓e_bvK, ↓e_andV, ↓e_orV, ↓e_yes, ↓e_skip, ↓e_seq, ↓e_brk, ↓e_cont, ↓e_drop, ↓e_ret, ↓e_retN, ↓e_retV, ↓e_if, ↓e_set, ↓e_for, ↓e_own0, ↓e_ownS, ↓e_olK, ↓e_sixK, ↓e_setIx, ↓e_mut, ↓e_finM, ↓e_app, ↓e_call, ↓e_argN, ↓e_argE, ↓e_argI, ↓e_setON, ↓e_setOE, ↓e_setOI, ↓e_put0, ↓e_putS, ↓e_memN, ↓e_niN, ↓e_ndN, ↓e_nd1, ↓e_ioN, ↓e_ioE, ↓e_ioI, ↓e_run, ↓e_outN, ↓e_out0, ↓e_out1, ↓e_aeN, ↓e_aeC, ↓e_add, ↓e_sub, ↓e_mul, ↓e_div, ↓e_mod, ↓e_pow, ↓e_neg, ↓e_lt, ↓e_le, ↓e_gt, ↓e_ge, ↓e_eq, ↓e_ne, ↓e_not, ↓e_is, ↓e_nA1, ↓e_nA2, ↓e_nA3, ↓e_nA4, ↓e_nA5, ↓e_nA6, ↓e_nA7, ↓e_nA8, ↓e_isN, ↓e_notN, ↓e_ixL, ↓e_ixT, ↓e_ixU, ↓e_tup, ↓e_lst, ↓e_one, ↓e_two, ↓e_mapII, ↓e_mapIf, ↓e_mk0, ↓e_mk1, ↓e_mk2, ↓e_mk3, ↓e_mk4, ↓e_mkM, ↓e_mulT, ↓e_mulL, ↓e_mkR, ↓e_addL, ↓e_addT, ↓e_sl0, ↓e_slL, ↓e_slH, ↓e_slLH, ↓e_slvL, ↓e_slvT, ↓e_slvU, ↓e_intK, ↓e_intsM, ↓e_max, ↓e_min, ↓e_sum, ↓e_lenL, ↓e_lenU, ↓e_lenT, ↓e_abs, ↓e_int, ↓e_intB, ↓e_tupL, ↓e_lstL, ↓e_lstT, ↓e_aI0, ↓e_aI1, ↓e_aI2, ↓e_aI3, ↓e_aI4, ↓e_sI0, ↓e_sI1, ↓e_sI2, ↓e_sI3, ↓e_sI4, ↓e_agN, ↓e_agE, ↓e_agI, ↓e_rg1, ↓e_rgK, ↓e_zip, ↓e_zipT, ↓e_zipL, ↓e_zipI, ↓e_rg2, ↓e_rgKK, ↓e_itE, ↓e_itK, ↓e_sqL, ↓e_sqF, ↓e_sqT, ↓e_sqU, ↓e_lc, ↓e_lcN, ↓e_lcC, ↓e_nm, ↓e_tp, ↓e_tpU, ↓e_bdN, ↓e_bdC, ↓e_forN, ↓e_forC, ↓e_while, ↓e_rev, ↓e_ltX, ↓e_ltT, ↓e_in, ↓e_ni, ↓e_srtI, ↓e_truL, ↓e_truT, ↓e_par, ↓e_eqB, ↓e_cast, ↓e_cast0, ↓e_cast1, ↓e_res0, ↓e_rd0, ↓e_oc0, ↓e_ocN, ↓e_ocS, ↓e_clI, ↓e_clL, ↓e_clM, ↓e_clN, ↓e_clC, ↓e_eqT, ↓e_neT, ↓e_ox0, ↓e_oxS, ↓e_sxK, ↓e_setX, ↓e_lst2, ↓e_vCl, ↓e_clK0, ↓e_clKT, ↓e_clKF, ↓e_mkL, ↓e_clU, ↓e_okN, ↓e_okC, ↓e_okI, ↓e_okL, ↓e_sX0, ↓e_sX1, ↓e_sX2, ↓e_sX3, ↓e_sX4, ↓e_asgT, ↓e_lc2c, ↓e_eqS, ↓e_neS, ↓e_boolM, ↓e_all, ↓e_any, ↓e_lrg, ↓e_ins, ↓e_rgL, ↓e_rgKL, ↓e_eqLI, ↓e_neLT, ↓e_try, ↓e_tryK, ↓e_raise, ↓e_isX, ↓e_con, ↓e_mv, ↓e_ix2, ↓e_ix20, ↓e_ix21, ↓e_tup2, ↓e_enum, ↓e_enumK, ↓e_divX, ↓e_forO, ↓e_owO, ↓e_owOS, res_im, res_lst, res_tup, rdN_im, rdN_lst0, rdN_lst1, rdN_tup0, rdN_tup1, List.map_cons, List.map_nil, List.flatMap_cons, List.flatMap_nil, List.append_nil, List.nil_append, List.cons_append, and_true, true_and, List.filter_nil, List.tail_cons, Option.map_some, List.replicate_succ, List.replicate_zero, List.length_cons, List.length_nil, List.length_map, decide_true, decide_false, Bool.not_true, Bool.not_false, Bool.not_not, true_or, or_true, Bool.and_true, Bool.true_and, Bool.and_self, implies_true, Int.reduceEq, Int.reduceAdd, Int.reduceSub, reduceIte, if_true, eq_self, ite_self, isT, Kv.isNon, Nat.reduceLeDiff, Nat.reduceAdd, Nat.reduceSub, List.flatten_replicate_singleton, Int.reduceLT, Int.reduceLE, Int.reducePow, Int.reduceToNat, Int.reduceNeg, io_divisor_of_two, io_common_divisor, io_one_length, io_first_place, io_primitive, io_cancelled, io_swept, io_dependence, io_is_dependence, io_rank, io__law_mix, io__law_store, io__law_take, io__law_span, io__law_pick, io__law_put, io__law_whole, io__law_same, io__law_nil, io__law_multiple, io__law_far, io__law_columns, io__law_bad_counts, io__law_common, io__law_depends, io__law_clean, io__law_eliminated, io__law_try, io__law_lists_of, io__law_columns_right, io__law_unlike_right, io_law, $ls,*])

theorem setT {cols : List (List Int)} {i : Nat} {c : List Int} : (cols.map tI).set i (tI c) = (cols.set i c).map tI := by rw [List.map_set]
theorem bent_false {cols : List (List Int)} {d A : Nat} {c : List Int} (hc : Cols cols d) (h2 : 1 < cols.length) (hA : A < cols.length) (hl : c.length ≠ d) : ((cols.set A c).all fun x => decide (x.length = ((cols.set A c).headD []).length)) = false := by
  refine Bool.eq_false_iff.mpr fun h => ?_
  rw [List.all_eq_true] at h
  have g : ∀ i (hi : i < cols.length), ((cols.set A c)[i]'(by rw [List.length_set]; exact hi)).length = (if i = A then c.length else d) := fun i hi => by
    rw [List.getElem_set]
    by_cases q : A = i
    · subst q; rw [if_pos rfl, if_pos rfl]
    · rw [if_neg q, if_neg (fun z => q z.symm)]
      exact (hc.c _ (List.getElem_mem hi)).1
  have g0 : ((cols.set A c).headD []).length = (if 0 = A then c.length else d) := by
    rw [← g 0 (by omega)]
    have hp : 0 < (cols.set A c).length := by rw [List.length_set]; omega
    show ((cols.set A c).headD []).length = ((cols.set A c)[0]'hp).length
    generalize cols.set A c = B at hp
    cases B with
    | nil => cases hp
    | cons x l => rfl
  have k := fun i hi => of_decide_eq_true (h _ (List.getElem_mem (l := cols.set A c) (n := i) hi))
  have k1 := k 1 (by rw [List.length_set]; exact h2)
  have kA := k A (by rw [List.length_set]; exact hA)
  rw [g 1 h2, g0] at k1
  rw [g A hA, g0, if_pos rfl] at kA
  by_cases q : 0 = A
  · subst q
    rw [if_neg (by decide), if_pos rfl] at k1
    exact hl k1.symm
  · rw [if_neg q] at kA
    exact hl kA
theorem unlike_law {st : Sto} {cols : List (List Int)} {d : Nat} {Qn Qx} (hs : st.Ok) (hc : Cols cols d) (h2 : 1 < cols.length) (h : ∀ st : Sto, st.Ok → Qn ⟨bl true, 0, []⟩ [st.D, .lst (cols.map tI)]) : run__law_unlike_right [st.D, .lst (cols.map tI)] Qn Qx := by
  unfold run__law_unlike_right m__law_unlike_right
  have hn := hc.n
  have hd := hc.dd
  simp_all! only [res_D, clean_D]
  refine take_spec hs (log_len (n := cols.length) (by omega)) fun at_ st1 hs1 v1 v2 => ?_
  have v2 := v2 (by omega)
  obtain ⟨A, rfl⟩ := Int.eq_ofNat_of_zero_le v2.1
  have hA : A < cols.length := by omega
  have ha := hc.at hA
  have a1 := atI_get (f := tI) hA
  generalize cols.getD A [] = c at ha a1
  have hz : ∃ z : Int, (if decide (((c.length : Nat) : Int) < 2) = true then (1 : Int) else 0) = z ∧ 0 ≤ z ∧ z ≤ 1 ∧ (z = 1 ↔ c.length < 2) := by
    by_cases q : ((c.length : Nat) : Int) < 2
    · exact ⟨1, by rw [if_pos (decide_eq_true q)], by decide, by decide, by omega⟩
    · exact ⟨0, by rw [if_neg (by rw [decide_eq_false q]; decide)], by decide, by decide, by omega⟩
  obtain ⟨z, ez, z0, z1, z2⟩ := hz
  have e1 := cut_lo (l := c) (i := 1) (by decide)
  have em : mkTup (List.map (fun i => D.im (I.int i)) (List.drop (Int.toNat 1) c) ++ List.map D.im (List.replicate (2 * z).toNat (I.int 0))) = tI (c.drop 1 ++ List.replicate (2 * z).toNat 0) := by
    rw [show List.map D.im (List.replicate (2 * z).toNat (I.int 0)) = List.map (fun i => D.im (I.int i)) (List.replicate (2 * z).toNat 0) by rw [List.map_replicate, List.map_replicate], ← List.map_append]
    exact e_mkM
  have cl : (c.drop 1 ++ List.replicate (2 * z).toNat (0 : Int)).length ≠ d := by
    rw [List.length_append, List.length_drop, List.length_replicate]
    by_cases q : c.length < 2
    · have := z2.2 q
      omega
    · have : z = 0 := by
        by_cases q2 : z = 1
        · exact absurd (z2.1 q2) q
        · omega
      omega
  have cl2 : (List.drop 1 c).length + (List.replicate (2 * z).toNat (I.int 0)).length ≤ 16777216 := by
    rw [List.length_drop, List.length_replicate]
    omega
  have bf := bent_false hc h2 hA cl
  simp_all! only [res_D, clean_D, a1, ez, cut_map, e1]
  refine ⟨Kv.mulL (by decide), ⟨by omega, by omega⟩, cl2, ?_⟩
  rw [show List.drop 1 c = List.drop (Int.toNat 1) c from rfl, em]
  generalize c.drop 1 ++ List.replicate (2 * z).toNat (0 : Int) = c2 at bf cl
  unfold CallK
  refine put_spec (l := cols.map tI) (by omega) (by rw [List.length_map]; omega) (by rw [List.length_map]; omega) ?_
  rw [show ((A : Nat) : Int).toNat = A from rfl, setT]
  have bl : (cols.set A c2).length ≤ 1000 := by rw [List.length_set]; omega
  have bl2 : (cols.set A c2).length = cols.length := List.length_set ..
  generalize cols.set A c2 = B at bf bl bl2
  simp_all! only [res_D, clean_D]
  unfold CallK
  refine try0_no bl (.inr (.inl bf)) ?_
  simp_all! only [res_D, clean_D, ne_ref]
  refine ⟨⟨sh_ref, sh_ref⟩, ?_⟩
  unfold CallK
  refine try2_no bl bf ?_
  simp_all! only [res_D, clean_D, ne_ref]
  refine ⟨⟨sh_ref, sh_ref⟩, ?_⟩
  refine ⟨by unfold R62; omega, ?_⟩
  rw [rgD_nat]
  refine lc_map (List.range cols.length) _ (fun k => int (if k = A then 1 else 0)) (by rw [List.length_range]; omega) (fun a ha K F k => ?_) ?_
  · simp_all! only [res_D, clean_D]
    have e : (if decide ((a : Int) = (A : Int)) = true then (1 : Int) else 0) = if a = A then 1 else 0 := by
      by_cases q : a = A
      · simp [q]
      · have : ¬ (a : Int) = A := by omega
        simp [q, this]
    rw [e]
    exact k
  rw [unit_D]
  simp_all! only [res_D, clean_D]
  unfold CallK
  refine try1_no bl bf ?_
  simp_all! only [res_D, clean_D]
  refine same_refl (n := 3) (sm_gotB 2) ?_
  simp_all! only [res_D, clean_D]
  exact h st1 hs1
def colsD (c : List (List Int)) : D := .lst (c.map tI)
theorem clm_cols {cols : List (List Int)} {d : Nat} (hd : 1 ≤ d ∧ d ≤ 4) (hn : cols.length ≤ 60) (h : ∀ c ∈ cols, Clm d 1000000 c) : Cols cols d := ⟨hd, hn, fun c hc => ⟨(h c hc).1, fun x hx => by
  have := (h c hc).2 x hx
  omega⟩⟩
theorem spec (ns : List Int) (h : ns.length ≤ 63) : run_law [.im (.fl ns)] (fun t _ => t.d = .im (.bl true)) (fun _ _ => False) := by
  unfold run_law m_law
  simp_all! only [res_D, clean_D]
  refine store_spec (by omega) ?_
  simp_all! only [res_D, clean_D]
  refine ⟨by unfold R62; decide, ?_⟩
  refine for_rg (fun i e => ∃ (st : Sto) (Ls : List (List (List Int))) (o3 o4 o5 : Option (D × Nat)), 0 ≤ i ∧ i ≤ 2 ∧ Ls.length = i.toNat ∧ st.Ok ∧ (∀ L ∈ Ls, ∃ d, Cols L d) ∧ e = [some (.im (.fl ns), 0), some (st.D, 2), some (.lst (Ls.map colsD), 1), o3, o4, o5, none]) (fun i e hi ⟨st, Ls, o3, o4, o5, p0, p1, p2, hs, p3, he⟩ K k => ?_) (fun i e hi ⟨st, Ls, o3, o4, o5, p0, p1, p2, hs, p3, he⟩ => ?_) ⟨Sto.mk ns 0 0 0 271828, [], none, none, none, by omega, by omega, rfl, (Int.le_refl 0 : (Sto.mk ns 0 0 0 271828).Ok), fun _ h => (nomatch h), rfl⟩
  · subst he
    simp_all! only [res_D, clean_D]
    refine take_spec hs (by decide) fun v st1 hs1 _ v2 => ?_
    have v2 := v2 (by decide)
    simp_all! only [res_D, clean_D]
    refine cut (fun e => ∃ (st : Sto) (v : Nat), st.Ok ∧ v ≤ 45 ∧ e = [some (.im (.fl ns), 0), some (st.D, 2), some (.lst (Ls.map colsD), 1), some (int i, 0), some (int v, 0), o5, none]) (fun K k => ?_) ?_
    · simp_all! only [res_D, clean_D]
      refine take_spec hs1 (by decide) fun w st2 hs2 _ w2 => ?_
      simp_all! only [res_D, clean_D]
      refine IfK.dec (fun q => ?_) fun q => ?_
      · simp_all! only [res_D, clean_D]
        refine span_spec hs2 (by decide) fun u st3 hs3 hu => ?_
        simp_all! only [res_D, clean_D]
        obtain ⟨u', rfl⟩ := Int.eq_ofNat_of_zero_le (show 0 ≤ u by omega)
        exact k _ ⟨st3, u', hs3, by omega, rfl⟩
      · simp_all! only [res_D, clean_D]
        obtain ⟨v', rfl⟩ := Int.eq_ofNat_of_zero_le v2.1
        exact k _ ⟨st2, v', hs2, by omega, rfl⟩
    rintro e ⟨st4, m, hs4, hm, rfl⟩
    simp_all! only [res_D, clean_D]
    refine take_spec hs4 (by decide) fun v st5 hs5 _ v3 => ?_
    have v3 := v3 (by decide)
    obtain ⟨d, ed⟩ := Int.eq_ofNat_of_zero_le (show 0 ≤ 1 + v by omega)
    simp_all! only [res_D, clean_D, ed]
    unfold CallK
    refine columns_law hs5 (by omega) (by omega) fun cols st6 hs6 hl hc => ?_
    simp_all! only [res_D, clean_D]
    refine cut (fun e => ∃ (st : Sto) (cols : List (List Int)), st.Ok ∧ cols.length ≤ 60 ∧ (∀ c ∈ cols, Clm d 1000000 c) ∧ e = [some (.im (.fl ns), 0), some (st.D, 2), some (.lst (Ls.map colsD), 1), some (int i, 0), some (int m, 0), some (colsD cols, 1), none]) (fun K k => ?_) ?_
    · simp_all! only [res_D, clean_D]
      refine take_spec hs6 (by decide) fun w st7 hs7 _ w2 => ?_
      simp_all! only [res_D, clean_D]
      refine IfK.dec (fun q => ?_) fun q => ?_
      · simp_all! only [res_D, clean_D]
        refine lc_map cols _ (fun c => tI (mulL c 9)) (by omega) (fun c hcc K F kk => ?_) ?_
        · simp_all! only [res_D, clean_D]
          refine multiple_spec (by rw [(hc c hcc).1]; omega) (fun a _ => mulR (by decide)) ?_
          simp_all! only [res_D, clean_D]
          exact kk
        simp_all! only [res_D, clean_D]
        rw [show (cols.map fun c => tI (mulL c 9)) = (cols.map fun c => mulL c 9).map tI by rw [List.map_map]; rfl]
        refine k _ ⟨st7, cols.map fun c => mulL c 9, hs7, by rw [List.length_map]; omega, fun c hcc => ?_, rfl⟩
        obtain ⟨c0, h0, rfl⟩ := List.mem_map.mp hcc
        refine ⟨by unfold mulL; rw [List.length_map]; exact (hc c0 h0).1, fun x hx => ?_⟩
        unfold mulL at hx
        obtain ⟨y, hy, rfl⟩ := List.mem_map.mp hx
        have := (hc c0 h0).2 y hy
        omega
      · simp_all! only [res_D, clean_D]
        exact k _ ⟨st7, cols, hs7, by omega, fun c hcc => ⟨(hc c hcc).1, fun x hx => by have := (hc c hcc).2 x hx; omega⟩, rfl⟩
    rintro e ⟨st7, cols, hs7, hl, hc, rfl⟩
    simp only [colsD]
    simp_all! only [res_D, clean_D]
    refine ⟨by decide, by omega, k _ ⟨st7, Ls ++ [cols], some (int i, 0), some (int m, 0), some (.lst (cols.map tI), 0), by omega, by omega, by rw [List.length_append]; show Ls.length + 1 = _; omega, hs7, fun L hL => ?_, by rw [List.map_append]; rfl⟩⟩
    rcases List.mem_append.mp hL with hL | hL
    · exact p3 L hL
    · rw [List.mem_singleton.mp hL]
      exact ⟨d, clm_cols (by omega) hl hc⟩
  · subst he
    have hi2 : i = 2 := by omega
    subst hi2
    match Ls, p2, p3 with
    | [A, B], _, p3 =>
    obtain ⟨dA, hA⟩ := p3 A List.mem_cons_self
    obtain ⟨dB, hB⟩ := p3 B (List.mem_cons_of_mem _ List.mem_cons_self)
    simp only [List.map_cons, List.map_nil, colsD]
    simp_all! only [res_D, clean_D]
    refine ⟨by decide, ?_⟩
    unfold CallK
    refine right_law hs hA fun t0 ht0 => ?_
    simp_all! only [res_D, clean_D]
    refine IfK.dec (fun q0 => ?_) fun q0 => ?_
    · simp_all! only [res_D, clean_D]
      refine ⟨by decide, ?_⟩
      unfold CallK
      refine unlike_law ht0 hA (by omega) fun u0 hu0 => ?_
      simp_all! only [res_D, clean_D]
      refine ⟨by decide, ?_⟩
      unfold CallK
      refine right_law hu0 hB fun t1 ht1 => ?_
      simp_all! only [res_D, clean_D]
      refine IfK.dec (fun q1 => ?_) fun q1 => ?_
      · simp_all! only [res_D, clean_D]
        refine ⟨by decide, ?_⟩
        unfold CallK
        refine unlike_law ht1 hB (by omega) fun u1 hu1 => ?_
        simp_all! only [res_D, clean_D]
        refine ⟨by decide, ?_⟩
        unfold CallK
        refine right_law hu1 hA fun t2 ht2 => ?_
        simp_all! only [res_D, clean_D]
        refine IfK.dec (fun q2 => ?_) fun q2 => ?_
        · simp_all! only [res_D, clean_D]
          refine ⟨by decide, ?_⟩
          unfold CallK
          refine unlike_law ht2 hA (by omega) fun u2 hu2 => ?_
          simp_all! only [res_D, clean_D]
        · simp_all! only [res_D, clean_D]
      · simp_all! only [res_D, clean_D]
        refine ⟨by decide, ?_⟩
        unfold CallK
        refine right_law ht1 hA fun t2 ht2 => ?_
        simp_all! only [res_D, clean_D]
        refine IfK.dec (fun q2 => ?_) fun q2 => ?_
        · simp_all! only [res_D, clean_D]
          refine ⟨by decide, ?_⟩
          unfold CallK
          refine unlike_law ht2 hA (by omega) fun u2 hu2 => ?_
          simp_all! only [res_D, clean_D]
        · simp_all! only [res_D, clean_D]
    · simp_all! only [res_D, clean_D]
      refine ⟨by decide, ?_⟩
      unfold CallK
      refine right_law ht0 hB fun t1 ht1 => ?_
      simp_all! only [res_D, clean_D]
      refine IfK.dec (fun q1 => ?_) fun q1 => ?_
      · simp_all! only [res_D, clean_D]
        refine ⟨by decide, ?_⟩
        unfold CallK
        refine unlike_law ht1 hB (by omega) fun u1 hu1 => ?_
        simp_all! only [res_D, clean_D]
        refine ⟨by decide, ?_⟩
        unfold CallK
        refine right_law hu1 hA fun t2 ht2 => ?_
        simp_all! only [res_D, clean_D]
        refine IfK.dec (fun q2 => ?_) fun q2 => ?_
        · simp_all! only [res_D, clean_D]
          refine ⟨by decide, ?_⟩
          unfold CallK
          refine unlike_law ht2 hA (by omega) fun u2 hu2 => ?_
          simp_all! only [res_D, clean_D]
        · simp_all! only [res_D, clean_D]
      · simp_all! only [res_D, clean_D]
        refine ⟨by decide, ?_⟩
        unfold CallK
        refine right_law ht1 hA fun t2 ht2 => ?_
        simp_all! only [res_D, clean_D]
        refine IfK.dec (fun q2 => ?_) fun q2 => ?_
        · simp_all! only [res_D, clean_D]
          refine ⟨by decide, ?_⟩
          unfold CallK
          refine unlike_law ht2 hA (by omega) fun u2 hu2 => ?_
          simp_all! only [res_D, clean_D]
        · simp_all! only [res_D, clean_D]

end Lk

namespace Lk
open PySem PySem.Spec L2 Kv
open PyProof.Rows hiding St
/-! ### the head -/
def dd_common_divisor : He.DefD := ⟨("common_divisor", none), "common_divisor", "common_divisor", defArgs s_common_divisor, defBody s_common_divisor, defScope s_common_divisor, [], []⟩
def dd_divisor_of_two : He.DefD := ⟨("divisor_of_two", none), "divisor_of_two", "divisor_of_two", defArgs s_divisor_of_two, defBody s_divisor_of_two, defScope s_divisor_of_two, [], []⟩
def dd_one_length : He.DefD := ⟨("one_length", none), "one_length", "one_length", defArgs s_one_length, defBody s_one_length, defScope s_one_length, [], []⟩
def dd_first_place : He.DefD := ⟨("first_place", none), "first_place", "first_place", defArgs s_first_place, defBody s_first_place, defScope s_first_place, [], []⟩
def dd_primitive : He.DefD := ⟨("primitive", none), "primitive", "primitive", defArgs s_primitive, defBody s_primitive, defScope s_primitive, [], []⟩
def dd_cancelled : He.DefD := ⟨("cancelled", none), "cancelled", "cancelled", defArgs s_cancelled, defBody s_cancelled, defScope s_cancelled, [], []⟩
def dd_swept : He.DefD := ⟨("swept", none), "swept", "swept", defArgs s_swept, defBody s_swept, defScope s_swept, [], []⟩
def dd_dependence : He.DefD := ⟨("dependence", none), "dependence", "dependence", defArgs s_dependence, defBody s_dependence, defScope s_dependence, [], []⟩
def dd_is_dependence : He.DefD := ⟨("is_dependence", none), "is_dependence", "is_dependence", defArgs s_is_dependence, defBody s_is_dependence, defScope s_is_dependence, [], []⟩
def dd_rank : He.DefD := ⟨("rank", none), "rank", "rank", defArgs s_rank, defBody s_rank, defScope s_rank, [], []⟩
def dd__law_mix : He.DefD := ⟨("_law_mix", none), "_law_mix", "_law_mix", defArgs s__law_mix, defBody s__law_mix, defScope s__law_mix, [], []⟩
def dd__law_store : He.DefD := ⟨("_law_store", none), "_law_store", "_law_store", defArgs s__law_store, defBody s__law_store, defScope s__law_store, [], []⟩
def dd__law_take : He.DefD := ⟨("_law_take", none), "_law_take", "_law_take", defArgs s__law_take, defBody s__law_take, defScope s__law_take, [], []⟩
def dd__law_span : He.DefD := ⟨("_law_span", none), "_law_span", "_law_span", defArgs s__law_span, defBody s__law_span, defScope s__law_span, [], []⟩
def dd__law_pick : He.DefD := ⟨("_law_pick", none), "_law_pick", "_law_pick", defArgs s__law_pick, defBody s__law_pick, defScope s__law_pick, [], []⟩
def dd__law_put : He.DefD := ⟨("_law_put", none), "_law_put", "_law_put", defArgs s__law_put, defBody s__law_put, defScope s__law_put, [], []⟩
def dd__law_whole : He.DefD := ⟨("_law_whole", none), "_law_whole", "_law_whole", defArgs s__law_whole, defBody s__law_whole, defScope s__law_whole, [], []⟩
def dd__law_same : He.DefD := ⟨("_law_same", none), "_law_same", "_law_same", defArgs s__law_same, defBody s__law_same, defScope s__law_same, [], []⟩
def dd__law_nil : He.DefD := ⟨("_law_nil", none), "_law_nil", "_law_nil", defArgs s__law_nil, defBody s__law_nil, defScope s__law_nil, [], []⟩
def dd__law_multiple : He.DefD := ⟨("_law_multiple", none), "_law_multiple", "_law_multiple", defArgs s__law_multiple, defBody s__law_multiple, defScope s__law_multiple, [], []⟩
def dd__law_far : He.DefD := ⟨("_law_far", none), "_law_far", "_law_far", defArgs s__law_far, defBody s__law_far, defScope s__law_far, [], []⟩
def dd__law_columns : He.DefD := ⟨("_law_columns", none), "_law_columns", "_law_columns", defArgs s__law_columns, defBody s__law_columns, defScope s__law_columns, [], []⟩
def dd__law_bad_counts : He.DefD := ⟨("_law_bad_counts", none), "_law_bad_counts", "_law_bad_counts", defArgs s__law_bad_counts, defBody s__law_bad_counts, defScope s__law_bad_counts, [], []⟩
def dd__law_common : He.DefD := ⟨("_law_common", none), "_law_common", "_law_common", defArgs s__law_common, defBody s__law_common, defScope s__law_common, [], []⟩
def dd__law_depends : He.DefD := ⟨("_law_depends", none), "_law_depends", "_law_depends", defArgs s__law_depends, defBody s__law_depends, defScope s__law_depends, [], []⟩
def dd__law_clean : He.DefD := ⟨("_law_clean", none), "_law_clean", "_law_clean", defArgs s__law_clean, defBody s__law_clean, defScope s__law_clean, [], []⟩
def dd__law_eliminated : He.DefD := ⟨("_law_eliminated", none), "_law_eliminated", "_law_eliminated", defArgs s__law_eliminated, defBody s__law_eliminated, defScope s__law_eliminated, [], []⟩
def dd__law_try : He.DefD := ⟨("_law_try", none), "_law_try", "_law_try", defArgs s__law_try, defBody s__law_try, defScope s__law_try, [], []⟩
def dd__law_lists_of : He.DefD := ⟨("_law_lists_of", none), "_law_lists_of", "_law_lists_of", defArgs s__law_lists_of, defBody s__law_lists_of, defScope s__law_lists_of, [], []⟩
def dd__law_columns_right : He.DefD := ⟨("_law_columns_right", none), "_law_columns_right", "_law_columns_right", defArgs s__law_columns_right, defBody s__law_columns_right, defScope s__law_columns_right, [], []⟩
def dd__law_unlike_right : He.DefD := ⟨("_law_unlike_right", none), "_law_unlike_right", "_law_unlike_right", defArgs s__law_unlike_right, defBody s__law_unlike_right, defScope s__law_unlike_right, [], []⟩
def dd_law : He.DefD := ⟨("law", none), "law", "law", defArgs s_law, defBody s_law, defScope s_law, [], []⟩
def fn : List He.DefD := [dd_common_divisor, dd_divisor_of_two, dd_one_length, dd_first_place, dd_primitive, dd_cancelled, dd_swept, dd_dependence, dd_is_dependence, dd_rank, dd__law_mix, dd__law_store, dd__law_take, dd__law_span, dd__law_pick, dd__law_put, dd__law_whole, dd__law_same, dd__law_nil, dd__law_multiple, dd__law_far, dd__law_columns, dd__law_bad_counts, dd__law_common, dd__law_depends, dd__law_clean, dd__law_eliminated, dd__law_try, dd__law_lists_of, dd__law_columns_right, dd__law_unlike_right, dd_law]
def fa : List He.Fa := [.glo "common_divisor", .glo "divisor_of_two", .glo "one_length", .glo "first_place", .glo "primitive", .glo "cancelled", .glo "swept", .glo "dependence", .glo "is_dependence", .glo "rank", .glo "_law_mix", .glo "_law_store", .glo "_law_take", .glo "_law_span", .glo "_law_pick", .glo "_law_put", .glo "_law_whole", .glo "_law_same", .glo "_law_nil", .glo "_law_multiple", .glo "_law_far", .glo "_law_columns", .glo "_law_bad_counts", .glo "_law_common", .glo "_law_depends", .glo "_law_clean", .glo "_law_eliminated", .glo "_law_try", .glo "_law_lists_of", .glo "_law_columns_right", .glo "_law_unlike_right", .glo "law", .glo "BadCounts", .glo "BadEnds", .glo "BadLine", .glo "BadName", .glo "BadPaper", .glo "BadRig", .glo "BadStep", .glo "BadWindow", .glo "DayClosed", .glo "NotAllEnds", .glo "NotAnEnd", .glo "NotLaid", .glo "NotPlain", .glo "NothingToUndo", .glo "OffLedger", .glo "QuayError", .glo "TooLong", .exc "BadCounts", .exm "BadCounts" "QuayError" true, .free "ValueError", .free "abs", .free "all", .free "any", .free "bool", .free "enumerate", .free "int", .free "isinstance", .free "len", .free "list", .free "max", .free "min", .free "range", .free "str", .free "sum", .free "tuple", .free "zip"]
abbrev R : PySem.W.OpenRow := PySem.W.OpenLaw.row PySem.Challenge.rw_nevertipped_k24_dependences_of_columns
def rsL : List Str := ["BadCounts"]
def askL : List Str := [("BadCounts" : Str), ("BadEnds" : Str), ("BadLine" : Str), ("BadName" : Str), ("BadPaper" : Str), ("BadRig" : Str), ("BadStep" : Str), ("BadWindow" : Str), ("DayClosed" : Str), ("NotAllEnds" : Str), ("NotAnEnd" : Str), ("NotLaid" : Str), ("NotPlain" : Str), ("NothingToUndo" : Str), ("OffLedger" : Str), ("TooLong" : Str), ("ValueError" : Str)]
abbrev hk : PySem.W.Hook := hookY 4 fa fn (exB rsL askL)
def ob (s : PySem.W.SharedT) : He.AlD × Bool := obsY 4 fa fn (exB rsL askL) (HandSHeadRun.getT s)
theorem ob_eq (s : PySem.W.SharedT) : ob s = hk.obs s.abs := obsY_eq (HandSHeadRun.getT_eq s)
def looseL : List Str := ("QuayError" : Str) :: "BadLine" :: "DayClosed" :: "NothingToUndo" :: "NotPlain" :: "NotAllEnds" :: "BadCounts" :: "NotAnEnd" :: "BadName" :: "BadStep" :: "BadWindow" :: "BadRig" :: "BadEnds" :: "OffLedger" :: "TooLong" :: "NotLaid" :: "BadPaper" :: "common_divisor" :: "divisor_of_two" :: "one_length" :: "first_place" :: "primitive" :: "cancelled" :: "swept" :: "dependence" :: "is_dependence" :: "rank" :: "_law_mix" :: "_law_store" :: "_law_take" :: "_law_span" :: "_law_pick" :: "_law_put" :: "_law_whole" :: "_law_same" :: "_law_nil" :: "_law_multiple" :: "_law_far" :: "_law_columns" :: "_law_bad_counts" :: "_law_common" :: "_law_depends" :: "_law_clean" :: "_law_eliminated" :: "_law_try" :: "_law_lists_of" :: "_law_columns_right" :: "_law_unlike_right" :: []
theorem run (w : World) : HandSHeadRun.RunEq R (PySem.W.view R.prog [52]) hk ob 20000 looseL w := by
  intro os
  kernel_rfl
theorem facts {K : PySem.W.Frag} {h : Heap} {mg : Str → Option Value} (X : K.In h) (G : h.Ns mainGlobals mg) (c : He.SaysD fa fn K) (ex : exB rsL askL K = true) : Nonempty (Cs K mg) := by
  obtain ⟨d0, F0⟩ := c.def_ 0 (d := dd_common_divisor) rfl
  obtain ⟨d1, F1⟩ := c.def_ 1 (d := dd_divisor_of_two) rfl
  obtain ⟨d2, F2⟩ := c.def_ 2 (d := dd_one_length) rfl
  obtain ⟨d3, F3⟩ := c.def_ 3 (d := dd_first_place) rfl
  obtain ⟨d4, F4⟩ := c.def_ 4 (d := dd_primitive) rfl
  obtain ⟨d5, F5⟩ := c.def_ 5 (d := dd_cancelled) rfl
  obtain ⟨d6, F6⟩ := c.def_ 6 (d := dd_swept) rfl
  obtain ⟨d7, F7⟩ := c.def_ 7 (d := dd_dependence) rfl
  obtain ⟨d8, F8⟩ := c.def_ 8 (d := dd_is_dependence) rfl
  obtain ⟨d9, F9⟩ := c.def_ 9 (d := dd_rank) rfl
  obtain ⟨d10, F10⟩ := c.def_ 10 (d := dd__law_mix) rfl
  obtain ⟨d11, F11⟩ := c.def_ 11 (d := dd__law_store) rfl
  obtain ⟨d12, F12⟩ := c.def_ 12 (d := dd__law_take) rfl
  obtain ⟨d13, F13⟩ := c.def_ 13 (d := dd__law_span) rfl
  obtain ⟨d14, F14⟩ := c.def_ 14 (d := dd__law_pick) rfl
  obtain ⟨d15, F15⟩ := c.def_ 15 (d := dd__law_put) rfl
  obtain ⟨d16, F16⟩ := c.def_ 16 (d := dd__law_whole) rfl
  obtain ⟨d17, F17⟩ := c.def_ 17 (d := dd__law_same) rfl
  obtain ⟨d18, F18⟩ := c.def_ 18 (d := dd__law_nil) rfl
  obtain ⟨d19, F19⟩ := c.def_ 19 (d := dd__law_multiple) rfl
  obtain ⟨d20, F20⟩ := c.def_ 20 (d := dd__law_far) rfl
  obtain ⟨d21, F21⟩ := c.def_ 21 (d := dd__law_columns) rfl
  obtain ⟨d22, F22⟩ := c.def_ 22 (d := dd__law_bad_counts) rfl
  obtain ⟨d23, F23⟩ := c.def_ 23 (d := dd__law_common) rfl
  obtain ⟨d24, F24⟩ := c.def_ 24 (d := dd__law_depends) rfl
  obtain ⟨d25, F25⟩ := c.def_ 25 (d := dd__law_clean) rfl
  obtain ⟨d26, F26⟩ := c.def_ 26 (d := dd__law_eliminated) rfl
  obtain ⟨d27, F27⟩ := c.def_ 27 (d := dd__law_try) rfl
  obtain ⟨d28, F28⟩ := c.def_ 28 (d := dd__law_lists_of) rfl
  obtain ⟨d29, F29⟩ := c.def_ 29 (d := dd__law_columns_right) rfl
  obtain ⟨d30, F30⟩ := c.def_ 30 (d := dd__law_unlike_right) rfl
  obtain ⟨d31, F31⟩ := c.def_ 31 (d := dd_law) rfl
  exact ⟨⟨_, d0, F0, He.glo_ok X G (c.fact 0 (f := .glo "common_divisor") rfl), _, d1, F1, He.glo_ok X G (c.fact 1 (f := .glo "divisor_of_two") rfl), _, d2, F2, He.glo_ok X G (c.fact 2 (f := .glo "one_length") rfl), _, d3, F3, He.glo_ok X G (c.fact 3 (f := .glo "first_place") rfl), _, d4, F4, He.glo_ok X G (c.fact 4 (f := .glo "primitive") rfl), _, d5, F5, He.glo_ok X G (c.fact 5 (f := .glo "cancelled") rfl), _, d6, F6, He.glo_ok X G (c.fact 6 (f := .glo "swept") rfl), _, d7, F7, He.glo_ok X G (c.fact 7 (f := .glo "dependence") rfl), _, d8, F8, He.glo_ok X G (c.fact 8 (f := .glo "is_dependence") rfl), _, d9, F9, He.glo_ok X G (c.fact 9 (f := .glo "rank") rfl), _, d10, F10, He.glo_ok X G (c.fact 10 (f := .glo "_law_mix") rfl), _, d11, F11, He.glo_ok X G (c.fact 11 (f := .glo "_law_store") rfl), _, d12, F12, He.glo_ok X G (c.fact 12 (f := .glo "_law_take") rfl), _, d13, F13, He.glo_ok X G (c.fact 13 (f := .glo "_law_span") rfl), _, d14, F14, He.glo_ok X G (c.fact 14 (f := .glo "_law_pick") rfl), _, d15, F15, He.glo_ok X G (c.fact 15 (f := .glo "_law_put") rfl), _, d16, F16, He.glo_ok X G (c.fact 16 (f := .glo "_law_whole") rfl), _, d17, F17, He.glo_ok X G (c.fact 17 (f := .glo "_law_same") rfl), _, d18, F18, He.glo_ok X G (c.fact 18 (f := .glo "_law_nil") rfl), _, d19, F19, He.glo_ok X G (c.fact 19 (f := .glo "_law_multiple") rfl), _, d20, F20, He.glo_ok X G (c.fact 20 (f := .glo "_law_far") rfl), _, d21, F21, He.glo_ok X G (c.fact 21 (f := .glo "_law_columns") rfl), _, d22, F22, He.glo_ok X G (c.fact 22 (f := .glo "_law_bad_counts") rfl), _, d23, F23, He.glo_ok X G (c.fact 23 (f := .glo "_law_common") rfl), _, d24, F24, He.glo_ok X G (c.fact 24 (f := .glo "_law_depends") rfl), _, d25, F25, He.glo_ok X G (c.fact 25 (f := .glo "_law_clean") rfl), _, d26, F26, He.glo_ok X G (c.fact 26 (f := .glo "_law_eliminated") rfl), _, d27, F27, He.glo_ok X G (c.fact 27 (f := .glo "_law_try") rfl), _, d28, F28, He.glo_ok X G (c.fact 28 (f := .glo "_law_lists_of") rfl), _, d29, F29, He.glo_ok X G (c.fact 29 (f := .glo "_law_columns_right") rfl), _, d30, F30, He.glo_ok X G (c.fact 30 (f := .glo "_law_unlike_right") rfl), _, d31, F31, He.glo_ok X G (c.fact 31 (f := .glo "law") rfl), He.glo_ok X G (c.fact 32 (f := .glo "BadCounts") rfl), He.glo_ok X G (c.fact 33 (f := .glo "BadEnds") rfl), He.glo_ok X G (c.fact 34 (f := .glo "BadLine") rfl), He.glo_ok X G (c.fact 35 (f := .glo "BadName") rfl), He.glo_ok X G (c.fact 36 (f := .glo "BadPaper") rfl), He.glo_ok X G (c.fact 37 (f := .glo "BadRig") rfl), He.glo_ok X G (c.fact 38 (f := .glo "BadStep") rfl), He.glo_ok X G (c.fact 39 (f := .glo "BadWindow") rfl), He.glo_ok X G (c.fact 40 (f := .glo "DayClosed") rfl), He.glo_ok X G (c.fact 41 (f := .glo "NotAllEnds") rfl), He.glo_ok X G (c.fact 42 (f := .glo "NotAnEnd") rfl), He.glo_ok X G (c.fact 43 (f := .glo "NotLaid") rfl), He.glo_ok X G (c.fact 44 (f := .glo "NotPlain") rfl), He.glo_ok X G (c.fact 45 (f := .glo "NothingToUndo") rfl), He.glo_ok X G (c.fact 46 (f := .glo "OffLedger") rfl), He.glo_ok X G (c.fact 47 (f := .glo "QuayError") rfl), He.glo_ok X G (c.fact 48 (f := .glo "TooLong") rfl), excF_ok (c.fact 49 (f := .exc "BadCounts") rfl), List.forall_mem_cons.mpr ⟨He.exm_ok (c.fact 50 (f := .exm "BadCounts" "QuayError" true) rfl), fun _ h => nomatch h⟩, exB_c ex, exB_k ex (by decide +kernel) (by decide +kernel), exB_k ex (by decide +kernel) (by decide +kernel), exB_k ex (by decide +kernel) (by decide +kernel), exB_k ex (by decide +kernel) (by decide +kernel), exB_k ex (by decide +kernel) (by decide +kernel), exB_k ex (by decide +kernel) (by decide +kernel), exB_k ex (by decide +kernel) (by decide +kernel), exB_k ex (by decide +kernel) (by decide +kernel), exB_k ex (by decide +kernel) (by decide +kernel), exB_k ex (by decide +kernel) (by decide +kernel), exB_k ex (by decide +kernel) (by decide +kernel), exB_k ex (by decide +kernel) (by decide +kernel), exB_k ex (by decide +kernel) (by decide +kernel), exB_k ex (by decide +kernel) (by decide +kernel), exB_k ex (by decide +kernel) (by decide +kernel), exB_k ex (by decide +kernel) (by decide +kernel), exB_v ex (by decide +kernel), He.free_ok X G (c.fact 51 (f := .free "ValueError") rfl), He.free_ok X G (c.fact 52 (f := .free "abs") rfl), He.free_ok X G (c.fact 53 (f := .free "all") rfl), He.free_ok X G (c.fact 54 (f := .free "any") rfl), He.free_ok X G (c.fact 55 (f := .free "bool") rfl), He.free_ok X G (c.fact 56 (f := .free "enumerate") rfl), He.free_ok X G (c.fact 57 (f := .free "int") rfl), He.free_ok X G (c.fact 58 (f := .free "isinstance") rfl), He.free_ok X G (c.fact 59 (f := .free "len") rfl), He.free_ok X G (c.fact 60 (f := .free "list") rfl), He.free_ok X G (c.fact 61 (f := .free "max") rfl), He.free_ok X G (c.fact 62 (f := .free "min") rfl), He.free_ok X G (c.fact 63 (f := .free "range") rfl), He.free_ok X G (c.fact 64 (f := .free "str") rfl), He.free_ok X G (c.fact 65 (f := .free "sum") rfl), He.free_ok X G (c.fact 66 (f := .free "tuple") rfl), He.free_ok X G (c.fact 67 (f := .free "zip") rfl)⟩⟩
end Lk

open PySem PySem.W PySem.Calls PyProof.Rows
theorem PySem.Challenge.cw_nevertipped_k24_dependences_of_columns_holds : PySem.Challenge.rw_nevertipped_k24_dependences_of_columns.Holds := by
  w_on; o_law
  refine HandSHeadRun.head_any (r := OpenLaw.row PySem.Challenge.rw_nevertipped_k24_dependences_of_columns) (q := view (OpenLaw.row PySem.Challenge.rw_nevertipped_k24_dependences_of_columns).prog [52]) (H := Lk.hk) (ob := Lk.ob) (M := 20000) (loose := Lk.looseL) (d := HandSHeadRun.topDef (OpenLaw.row PySem.Challenge.rw_nevertipped_k24_dependences_of_columns).prog 52) (kwd := []) Lk.ob_eq
    (by kernel_rfl) (fun s => by kernel_rfl) Lk.run (by kernel_rfl) (by kernel_rfl) (by kernel_rfl) (by rfl) (by first | assumption | decide +kernel) (by decide +kernel) ⟨rfl, rfl, rfl, rfl, rfl, by decide +kernel⟩ ?hw ?hc
  case hw => w_witness2
  case hc =>
    refine L2.walk_ofE (l := PySem.Challenge.rw_nevertipped_k24_dependences_of_columns) (n := 63) (k := 8) (x := "script") (CX := L2.CX0) rfl (by decide) (by kernel_rfl) ⟨rfl, by decide, by decide⟩ ?F (fun _ _ _ _ z => z)
    intro w mg fa h Y G hmg0
    obtain ⟨K, KX, c, ex⟩ := Y
    obtain ⟨C⟩ := Lk.facts KX G c ex
    have hmg : mg ("law" : PySem.Str) = some (.ref fa) := by
      have e : (HandSHeadRun.topDef (OpenLaw.row PySem.Challenge.rw_nevertipped_k24_dependences_of_columns).prog 52).name = ("law" : PySem.Str) := by kernel_rfl
      rw [← e]
      exact hmg0
    have e := hmg.symm.trans C.g_law
    cases e
    have b := L2.FunD.bindsA (ps := ["script"]) C.F_law fun _ _ _ _ _ _ us hl => match us, hl with | [_], _ => rfl
    exact ⟨K, C.d_law, fun vs H Q _ => Kv.spOf K [0] Lk.run_law vs H Q L2.E0, KX, fun s v => b s [v] rfl, fun H a ns hl hO hS => Kv.law_sp (Lk.spec ns hl) hO hS, fun base _ _ => Kv.fnOk0 (Lk.ok_law C)⟩

