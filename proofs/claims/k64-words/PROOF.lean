import PyProof.Rows.All
import Wide.All
import OpenK.AllK
import Wide.FinOn
import HandS.ForMost
import HandS.ForExc
import HandS.Evl
import HandS.HeadHook2
import HandS.CallSlots
import HandS.IsInst
import HandS.TupAny
import HandS.Codes
import HandS.More
import HandS.Deep
import KE.GoesEnum
import HandS.Style
import HandS.Head0
import HandS.Head1
import HandS.Head2
import HandS.HeadEnd
import HandS.HeadHook1
import HandS.Defaults
import KE.KStateDown
import PySem.Challenge.RW_scanpages_k64_words
set_option Elab.async false
set_option linter.all false
set_option maxRecDepth 100000
set_option maxHeartbeats 0
namespace VL
open PySem PySem.Spec PyProof.Rows L2
open Evl (Ex)
/-- p, decided by no reckoning -/
noncomputable def cdec (p : Prop) : Bool := @decide p (Classical.propDecidable p)
theorem cdec_iff {p : Prop} : cdec p = true ↔ p := ⟨fun h => @of_decide_eq_true p (Classical.propDecidable p) h, fun h => @decide_eq_true p (Classical.propDecidable p) h⟩
@[simp] theorem cdec_pos {p : Prop} (h : p) : cdec p = true := cdec_iff.mpr h
@[simp] theorem cdec_neg {p : Prop} (h : ¬p) : cdec p = false := @decide_eq_false p (Classical.propDecidable p) h
theorem cdec_eq {p : Prop} [d : Decidable p] : cdec p = decide p := by
  by_cases h : p
  · rw [cdec_pos h, decide_eq_true h]
  · rw [cdec_neg h, decide_eq_false h]

/-! ### plain data, deep -/
inductive D where
  | non | bl (b : Bool) | int (i : Int) | str (s : Str)
  | lst (xs : List D) | frl (xs : List D) | tup (xs : List D) | dic (kvs : List (L2.Key × D)) | dit (kvs : List (List L2.Key × D)) | obj (c : Str) (fs : List (Str × D))

section
variable (K : PySem.W.Frag)
mutual
/-- v stands for d in the part S of the heap, which nobody changes -/
def Rep (S : Hp) : D → V → Prop
  | .non, v => v = .non
  | .bl b, v => v = .bl b
  | .int i, v => v = .int i
  | .str s, v => v = .str s
  | .lst ds, v => ∃ a vs, v = .ref a ∧ S a = some (.lst vs) ∧ Reps S ds vs
  | .frl ds, v => ∃ a vs, v = .ref a ∧ SqL K S a vs ∧ Reps S ds vs
  | .tup ds, v => ∃ a vs, v = .ref a ∧ SqT K S a vs ∧ Reps S ds vs
  | .dic kvs, v => ∃ a ws, v = .ref a ∧ S a = some (.dK ws) ∧ RepK S kvs ws
  | .dit kvs, v => ∃ a ws, v = .ref a ∧ S a = some (.dT ws) ∧ RepT S kvs ws
  | .obj c fs, v => ∃ a dx ws, v = .ref a ∧ S a = some (.ins (He.ga K c) dx ws) ∧ S dx = some (.own a) ∧ RepF S fs ws
def Reps (S : Hp) : List D → List V → Prop
  | [], vs => vs = []
  | d :: ds, vs => ∃ v r, vs = v :: r ∧ Rep S d v ∧ Reps S ds r
def RepK (S : Hp) : List (L2.Key × D) → List (L2.Key × V) → Prop
  | [], vs => vs = []
  | (k, d) :: ds, vs => ∃ v r, vs = (k, v) :: r ∧ Rep S d v ∧ RepK S ds r
def RepT (S : Hp) : List (List L2.Key × D) → List (List L2.Key × V) → Prop
  | [], vs => vs = []
  | (k, d) :: ds, vs => ∃ v r, vs = (k, v) :: r ∧ Rep S d v ∧ RepT S ds r
def RepF (S : Hp) : List (Str × D) → List (Str × V) → Prop
  | [], vs => vs = []
  | (k, d) :: ds, vs => ∃ v r, vs = (k, v) :: r ∧ Rep S d v ∧ RepF S ds r
end

/-- how a value is held: s: shared, never changed again; the others: held by this slot alone -/
inductive Sh where
  | s | L (e : Sh) | M (e : Sh) | T (es : List Sh) | O (fs : List Sh)

/-- all of one kind, each with its own addresses -/
def All3 (P : D → V → List Addr → Prop) : List D → List V → List Addr → Prop
  | [], vs, A => vs = [] ∧ A = []
  | d :: ds, vs, A => ∃ v r A1 A2, vs = v :: r ∧ A = A1 ++ A2 ∧ P d v A1 ∧ All3 P ds r A2
mutual
/-- v stands for d; the addresses A are its own -/
def Own (S H : Hp) : Sh → D → V → List Addr → Prop
  | .s, d, v, A => A = [] ∧ Rep K S d v
  | .L e, d, v, A => ∃ a vs ds B, d = .lst ds ∧ v = .ref a ∧ H a = some (.lst vs) ∧ A = a :: B ∧ All3 (Own S H e) ds vs B
  | .M e, d, v, A => ∃ a ws kvs B, d = .dic kvs ∧ v = .ref a ∧ H a = some (.dK ws) ∧ A = a :: B ∧ kvs.map (·.1) = ws.map (·.1) ∧ All3 (Own S H e) (kvs.map (·.2)) (ws.map (·.2)) B
  | .T es, d, v, A => ∃ a vs ds B, d = .tup ds ∧ v = .ref a ∧ H a = some (.tup vs) ∧ A = a :: B ∧ OwnT S H es ds vs B
  | .O es, d, v, A => ∃ a dx ws c fs B, d = .obj c fs ∧ v = .ref a ∧ H a = some (.ins (He.ga K c) dx ws) ∧ H dx = some (.own a) ∧ dx ≠ a ∧ A = a :: dx :: B ∧ fs.map (·.1) = ws.map (·.1) ∧ OwnT S H es (fs.map (·.2)) (ws.map (·.2)) B
/-- of various kinds -/
def OwnT (S H : Hp) : List Sh → List D → List V → List Addr → Prop
  | [], ds, vs, A => ds = [] ∧ vs = [] ∧ A = []
  | e :: es, ds, vs, A => ∃ d ds' v r A1 A2, ds = d :: ds' ∧ vs = v :: r ∧ A = A1 ++ A2 ∧ Own S H e d v A1 ∧ OwnT S H es ds' r A2
end
end

section
variable {K : PySem.W.Frag}
mutual
theorem Rep.mono {S S' : Hp} (e : Ex S S') : ∀ {d : D} {v : V}, Rep K S d v → Rep K S' d v
  | .non, _, h => h
  | .bl _, _, h => h
  | .int _, _, h => h
  | .str _, _, h => h
  | .lst ds, v, ⟨a, vs, h1, h2, h3⟩ => ⟨a, vs, h1, e _ _ h2, Reps.mono e h3⟩
  | .frl ds, v, ⟨a, vs, h1, h2, h3⟩ => ⟨a, vs, h1, Evl.ex_l e h2, Reps.mono e h3⟩
  | .tup ds, v, ⟨a, vs, h1, h2, h3⟩ => ⟨a, vs, h1, Evl.ex_t e h2, Reps.mono e h3⟩
  | .dic kvs, v, ⟨a, vs, h1, h2, h3⟩ => ⟨a, vs, h1, e _ _ h2, RepK.mono e h3⟩
  | .dit kvs, v, ⟨a, vs, h1, h2, h3⟩ => ⟨a, vs, h1, e _ _ h2, RepT.mono e h3⟩
  | .obj c fs, v, ⟨a, dx, vs, h1, h2, h3, h4⟩ => ⟨a, dx, vs, h1, e _ _ h2, e _ _ h3, RepF.mono e h4⟩
theorem Reps.mono {S S' : Hp} (e : Ex S S') : ∀ {ds : List D} {vs : List V}, Reps K S ds vs → Reps K S' ds vs
  | [], _, h => h
  | _ :: _, _, ⟨v, r, h1, h2, h3⟩ => ⟨v, r, h1, Rep.mono e h2, Reps.mono e h3⟩
theorem RepK.mono {S S' : Hp} (e : Ex S S') : ∀ {ds : List (L2.Key × D)} {vs : List (L2.Key × V)}, RepK K S ds vs → RepK K S' ds vs
  | [], _, h => h
  | (_, _) :: _, _, ⟨v, r, h1, h2, h3⟩ => ⟨v, r, h1, Rep.mono e h2, RepK.mono e h3⟩
theorem RepT.mono {S S' : Hp} (e : Ex S S') : ∀ {ds : List (List L2.Key × D)} {vs : List (List L2.Key × V)}, RepT K S ds vs → RepT K S' ds vs
  | [], _, h => h
  | (_, _) :: _, _, ⟨v, r, h1, h2, h3⟩ => ⟨v, r, h1, Rep.mono e h2, RepT.mono e h3⟩
theorem RepF.mono {S S' : Hp} (e : Ex S S') : ∀ {ds : List (Str × D)} {vs : List (Str × V)}, RepF K S ds vs → RepF K S' ds vs
  | [], _, h => h
  | (_, _) :: _, _, ⟨v, r, h1, h2, h3⟩ => ⟨v, r, h1, Rep.mono e h2, RepF.mono e h3⟩
end

theorem All3.imp {P Q : D → V → List Addr → Prop} : ∀ {ds : List D} {vs : List V} {A : List Addr}, (∀ d v A', (∀ a ∈ A', a ∈ A) → P d v A' → Q d v A') → All3 P ds vs A → All3 Q ds vs A
  | [], _, _, _, h => h
  | _ :: _, _, _, f, ⟨v, r, A1, A2, h1, h2, h3, h4⟩ => ⟨v, r, A1, A2, h1, h2, f _ _ _ (fun a ha => by rw [h2]; exact List.mem_append_left _ ha) h3, All3.imp (fun d v A' hA => f d v A' fun a ha => by rw [h2]; exact List.mem_append_right _ (hA a ha)) h4⟩
theorem All3.length {P : D → V → List Addr → Prop} : ∀ {ds : List D} {vs : List V} {A : List Addr}, All3 P ds vs A → ds.length = vs.length
  | [], _, _, ⟨h, _⟩ => by rw [h]; rfl
  | _ :: _, _, _, ⟨v, r, A1, A2, h1, h2, h3, h4⟩ => by rw [h1, List.length_cons, List.length_cons, All3.length h4]
theorem Reps.length {S : Hp} : ∀ {ds : List D} {vs : List V}, Reps K S ds vs → ds.length = vs.length
  | [], _, h => by rw [show _ = [] from h]; rfl
  | _ :: _, _, ⟨v, r, h1, _, h3⟩ => by rw [h1, List.length_cons, List.length_cons, Reps.length h3]

mutual
theorem Own.mono {S S' H H' : Hp} (e : Ex S S') : ∀ {sh : Sh} {d : D} {v : V} {A : List Addr}, (∀ a ∈ A, H' a = H a) → Own K S H sh d v A → Own K S' H' sh d v A
  | .s, _, _, _, _, ⟨h1, h2⟩ => ⟨h1, h2.mono e⟩
  | .L sh, _, _, A, g, ⟨a, vs, ds, B, h1, h2, h3, h4, h5⟩ => ⟨a, vs, ds, B, h1, h2, (g a (by rw [h4]; exact List.mem_cons_self)).trans h3, h4, h5.imp fun d v A' hA q => Own.mono e (fun b hb => g b (by rw [h4]; exact List.mem_cons_of_mem _ (hA b hb))) q⟩
  | .M sh, _, _, A, g, ⟨a, vs, ds, B, h1, h2, h3, h4, h5, h6⟩ => ⟨a, vs, ds, B, h1, h2, (g a (by rw [h4]; exact List.mem_cons_self)).trans h3, h4, h5, h6.imp fun d v A' hA q => Own.mono e (fun b hb => g b (by rw [h4]; exact List.mem_cons_of_mem _ (hA b hb))) q⟩
  | .T es, _, _, A, g, ⟨a, vs, ds, B, h1, h2, h3, h4, h5⟩ => ⟨a, vs, ds, B, h1, h2, (g a (by rw [h4]; exact List.mem_cons_self)).trans h3, h4, OwnT.mono e (fun b hb => g b (by rw [h4]; exact List.mem_cons_of_mem _ hb)) h5⟩
  | .O es, _, _, A, g, ⟨a, dx, vs, c, ds, B, h1, h2, h3, h4, h5, h6, h7, h8⟩ => ⟨a, dx, vs, c, ds, B, h1, h2, (g a (by rw [h6]; exact List.mem_cons_self)).trans h3, (g dx (by rw [h6]; exact List.mem_cons_of_mem _ List.mem_cons_self)).trans h4, h5, h6, h7,
      OwnT.mono e (fun b hb => g b (by rw [h6]; exact List.mem_cons_of_mem _ (List.mem_cons_of_mem _ hb))) h8⟩
theorem OwnT.mono {S S' H H' : Hp} (e : Ex S S') : ∀ {sh : List Sh} {d : List D} {v : List V} {A : List Addr}, (∀ a ∈ A, H' a = H a) → OwnT K S H sh d v A → OwnT K S' H' sh d v A
  | [], _, _, _, _, h => h
  | sh :: es, _, _, A, g, ⟨d, ds', v, r, A1, A2, h1, h2, h3, h4, h5⟩ => ⟨d, ds', v, r, A1, A2, h1, h2, h3, Own.mono e (fun a ha => g a (by rw [h3]; exact List.mem_append_left _ ha)) h4, OwnT.mono e (fun a ha => g a (by rw [h3]; exact List.mem_append_right _ ha)) h5⟩
end

/-- what A holds becomes part of what nobody changes -/
def frz (S H : Hp) (A : List Addr) : Hp := fun a => if a ∈ A then H a else S a
theorem frz_in {S H : Hp} {A : List Addr} {a : Addr} (h : a ∈ A) : frz S H A a = H a := if_pos h
theorem frz_out {S H : Hp} {A : List Addr} {a : Addr} (h : a ∉ A) : frz S H A a = S a := if_neg h
theorem frz_nil {S H : Hp} : frz S H [] = S := by
  funext a
  exact frz_out (by simp)
theorem frz_ex {S H : Hp} {A : List Addr} (h : ∀ a ∈ A, S a = none) : Ex S (frz S H A) := fun a o e => by
  by_cases q : a ∈ A
  · rw [h a q] at e; cases e
  · rw [frz_out q]; exact e
theorem frz_sub {S H : Hp} {A : List Addr} (h : Ex S H) : Ex (frz S H A) H := fun a o e => by
  by_cases q : a ∈ A
  · rw [frz_in q] at e; exact e
  · rw [frz_out q] at e; exact h a o e

theorem All3.reps {P : D → V → List Addr → Prop} {S : Hp} : ∀ {ds : List D} {vs : List V} {A : List Addr}, (∀ d v A', (∀ a ∈ A', a ∈ A) → P d v A' → Rep K S d v) → All3 P ds vs A → Reps K S ds vs
  | [], _, _, _, h => h.1
  | _ :: _, _, _, f, ⟨v, r, A1, A2, h1, h2, h3, h4⟩ => ⟨v, r, h1, f _ _ A1 (fun a ha => by rw [h2]; exact List.mem_append_left _ ha) h3, All3.reps (fun d v A' hA => f d v A' fun a ha => by rw [h2]; exact List.mem_append_right _ (hA a ha)) h4⟩
theorem repK_of {S : Hp} : ∀ {kvs : List (L2.Key × D)} {ws : List (L2.Key × V)}, kvs.map (·.1) = ws.map (·.1) → Reps K S (kvs.map (·.2)) (ws.map (·.2)) → RepK K S kvs ws
  | [], [], _, _ => rfl
  | [], _ :: _, h, _ => by cases h
  | _ :: _, [], h, _ => by cases h
  | (k, d) :: r, (k', v) :: r', h, ⟨v', q, h1, h2, h3⟩ => by
    rw [List.map_cons, List.map_cons] at h
    rw [List.map_cons] at h1
    obtain ⟨e1, e2⟩ := List.cons.inj h
    obtain ⟨e3, e4⟩ := List.cons.inj h1
    have e1' : k = k' := e1
    subst e1'
    have e3' : v = v' := e3
    subst e3'
    exact ⟨v, r', rfl, h2, repK_of e2 (by rw [e4]; exact h3)⟩
theorem repF_of {S : Hp} : ∀ {kvs : List (Str × D)} {ws : List (Str × V)}, kvs.map (·.1) = ws.map (·.1) → Reps K S (kvs.map (·.2)) (ws.map (·.2)) → RepF K S kvs ws
  | [], [], _, _ => rfl
  | [], _ :: _, h, _ => by cases h
  | _ :: _, [], h, _ => by cases h
  | (k, d) :: r, (k', v) :: r', h, ⟨v', q, h1, h2, h3⟩ => by
    rw [List.map_cons, List.map_cons] at h
    rw [List.map_cons] at h1
    obtain ⟨e1, e2⟩ := List.cons.inj h
    obtain ⟨e3, e4⟩ := List.cons.inj h1
    have e1' : k = k' := e1
    subst e1'
    have e3' : v = v' := e3
    subst e3'
    exact ⟨v, r', rfl, h2, repF_of e2 (by rw [e4]; exact h3)⟩
theorem reps_of_K {S : Hp} : ∀ {kvs : List (L2.Key × D)} {ws : List (L2.Key × V)}, RepK K S kvs ws → kvs.map (·.1) = ws.map (·.1) ∧ Reps K S (kvs.map (·.2)) (ws.map (·.2))
  | [], _, h => by rw [show _ = [] from h]; exact ⟨rfl, rfl⟩
  | (k, d) :: r, _, ⟨v, q, h1, h2, h3⟩ => by
    obtain ⟨e1, e2⟩ := reps_of_K h3
    rw [h1]
    exact ⟨by rw [List.map_cons, List.map_cons, e1], v, _, rfl, h2, e2⟩
theorem reps_of_F {S : Hp} : ∀ {kvs : List (Str × D)} {ws : List (Str × V)}, RepF K S kvs ws → kvs.map (·.1) = ws.map (·.1) ∧ Reps K S (kvs.map (·.2)) (ws.map (·.2))
  | [], _, h => by rw [show _ = [] from h]; exact ⟨rfl, rfl⟩
  | (k, d) :: r, _, ⟨v, q, h1, h2, h3⟩ => by
    obtain ⟨e1, e2⟩ := reps_of_F h3
    rw [h1]
    exact ⟨by rw [List.map_cons, List.map_cons, e1], v, _, rfl, h2, e2⟩
mutual
theorem Own.frz {S H : Hp} {F : List Addr} (e : Ex S (frz S H F)) : ∀ {sh : Sh} {d : D} {v : V} {A : List Addr}, (∀ a ∈ A, a ∈ F) → Own K S H sh d v A → Rep K (frz S H F) d v
  | .s, _, _, _, _, ⟨h1, h2⟩ => h2.mono e
  | .L sh, _, _, A, g, ⟨a, vs, ds, B, h1, h2, h3, h4, h5⟩ => by
    subst h1 h4
    exact ⟨a, vs, h2, (by rw [frz_in (g a List.mem_cons_self)]; exact h3), h5.reps fun d v A' hA q => Own.frz e (fun b hb => g b (List.mem_cons_of_mem _ (hA b hb))) q⟩
  | .M sh, _, _, A, g, ⟨a, vs, ds, B, h1, h2, h3, h4, h5, h6⟩ => by
    subst h1 h4
    exact ⟨a, vs, h2, by rw [frz_in (g a List.mem_cons_self)]; exact h3, repK_of h5 (h6.reps fun d v A' hA q => Own.frz e (fun b hb => g b (List.mem_cons_of_mem _ (hA b hb))) q)⟩
  | .T es, _, _, A, g, ⟨a, vs, ds, B, h1, h2, h3, h4, h5⟩ => by
    subst h1 h4
    exact ⟨a, vs, h2, .inl (.inl (by rw [frz_in (g a List.mem_cons_self)]; exact h3)), OwnT.frz e (fun b hb => g b (List.mem_cons_of_mem _ hb)) h5⟩
  | .O es, _, _, A, g, ⟨a, dx, vs, c, ds, B, h1, h2, h3, h4, h5, h6, h7, h8⟩ => by
    subst h1 h6
    exact ⟨a, dx, vs, h2, by rw [frz_in (g a List.mem_cons_self)]; exact h3, by rw [frz_in (g dx (List.mem_cons_of_mem _ List.mem_cons_self))]; exact h4, repF_of h7 (OwnT.frz e (fun b hb => g b (List.mem_cons_of_mem _ (List.mem_cons_of_mem _ hb))) h8)⟩
theorem OwnT.frz {S H : Hp} {F : List Addr} (e : Ex S (frz S H F)) : ∀ {sh : List Sh} {d : List D} {v : List V} {A : List Addr}, (∀ a ∈ A, a ∈ F) → OwnT K S H sh d v A → Reps K (frz S H F) d v
  | [], _, _, _, _, ⟨h1, h2, _⟩ => by subst h1; exact h2
  | sh :: es, _, _, A, g, ⟨d, ds', v, r, A1, A2, h1, h2, h3, h4, h5⟩ => by
    subst h1 h3
    exact ⟨v, r, h2, Own.frz e (fun a ha => g a (List.mem_append_left _ ha)) h4, OwnT.frz e (fun a ha => g a (List.mem_append_right _ ha)) h5⟩
end
end
end VL

namespace VL
open PySem PySem.Spec PyProof.Rows L2
open Evl (Ex)

/-! ### what a piece of the program gives, over plain data -/
structure Exn where
  cls : Str
  arg : Option (Str × D) := none
inductive R (α : Type) where
  | fail | ok (a : α) | exc (x : Exn)
@[reducible] def R.bind {α β : Type} (r : R α) (f : α → R β) : R β := match r with
  | .fail => .fail
  | .ok a => f a
  | .exc x => .exc x
abbrev Env := List (Option D)
abbrev ME := Env → R D
inductive O where
  | fail | nx (ρ : Env) | rt (d : D) (ρ : Env) | bk (ρ : Env) | ct (ρ : Env) | ex (x : Exn) (ρ : Env)
abbrev MS := Env → O

/-! ### the slots -/
section
variable (K : PySem.W.Frag)
def Slots (S H : Hp) : List Sh → Env → L2.St → List Addr → Prop
  | [], [], [], A => A = []
  | _ :: Γ, none :: ρ, _ :: σ, A => Slots S H Γ ρ σ A
  | sh :: Γ, some d :: ρ, x :: σ, A => ∃ v A1 A2, x = some v ∧ A = A1 ++ A2 ∧ Own K S H sh d v A1 ∧ Slots S H Γ ρ σ A2
  | _, _, _, _ => False
structure Gh where
  B : Hp
  S0 : Hp
  vp : List V
structure Rel (p : Nat) (g : Gh) (Γ : List Sh) (ρ : Env) (σ : L2.St) (S H : Hp) (A : List Addr) : Prop where
  slots : Slots K S H Γ ρ σ A
  nd : A.Nodup
  fr : ∀ a ∈ A, S a = none ∧ g.B a = none
  sH : Ex S H
  bH : Ex g.B H
  s0 : Ex g.S0 S
  nw : ∀ a o, S a = some o → g.S0 a = some o ∨ g.B a = none
  par : ∀ (i : Nat) (v : V), g.vp[i]? = some v → σ[i]? = some (some v)
  pl : g.vp.length = p
end
section
variable {K : PySem.W.Frag} {S S' H H' : Hp}
mutual
theorem Own.live : ∀ {sh : Sh} {d : D} {v : V} {A : List Addr}, Own K S H sh d v A → ∀ a ∈ A, ∃ o, H a = some o
  | .s, _, _, _, ⟨h1, _⟩, a, ha => by rw [h1] at ha; cases ha
  | .L sh, _, _, A, ⟨a, vs, ds, B, h1, h2, h3, h4, h5⟩, b, hb => by
    rw [h4] at hb
    rcases List.mem_cons.mp hb with e | hb
    · rw [e]; exact ⟨_, h3⟩
    · exact All3.live (fun d v A' q b hb => Own.live q b hb) h5 b hb
  | .M sh, _, _, A, ⟨a, vs, ds, B, h1, h2, h3, h4, h5, h6⟩, b, hb => by
    rw [h4] at hb
    rcases List.mem_cons.mp hb with e | hb
    · rw [e]; exact ⟨_, h3⟩
    · exact All3.live (fun d v A' q b hb => Own.live q b hb) h6 b hb
  | .T es, _, _, A, ⟨a, vs, ds, B, h1, h2, h3, h4, h5⟩, b, hb => by
    rw [h4] at hb
    rcases List.mem_cons.mp hb with e | hb
    · rw [e]; exact ⟨_, h3⟩
    · exact OwnT.live h5 b hb
  | .O es, _, _, A, ⟨a, dx, vs, c, ds, B, h1, h2, h3, h4, h5, h6, h7, h8⟩, b, hb => by
    rw [h6] at hb
    rcases List.mem_cons.mp hb with e | hb
    · rw [e]; exact ⟨_, h3⟩
    · rcases List.mem_cons.mp hb with e | hb
      · rw [e]; exact ⟨_, h4⟩
      · exact OwnT.live h8 b hb
theorem OwnT.live : ∀ {sh : List Sh} {d : List D} {v : List V} {A : List Addr}, OwnT K S H sh d v A → ∀ a ∈ A, ∃ o, H a = some o
  | [], _, _, _, ⟨_, _, h⟩, a, ha => by rw [h] at ha; cases ha
  | sh :: es, _, _, A, ⟨d, ds', v, r, A1, A2, h1, h2, h3, h4, h5⟩, a, ha => by
    rw [h3] at ha
    rcases List.mem_append.mp ha with ha | ha
    · exact Own.live h4 a ha
    · exact OwnT.live h5 a ha
theorem All3.live {P : D → V → List Addr → Prop} (f : ∀ d v A', P d v A' → ∀ a ∈ A', ∃ o, H a = some o) : ∀ {ds : List D} {vs : List V} {A : List Addr}, All3 P ds vs A → ∀ a ∈ A, ∃ o, H a = some o
  | [], _, _, ⟨_, h⟩, a, ha => by rw [h] at ha; cases ha
  | _ :: _, _, _, ⟨v, r, A1, A2, h1, h2, h3, h4⟩, a, ha => by
    rw [h2] at ha
    rcases List.mem_append.mp ha with ha | ha
    · exact f _ _ _ h3 a ha
    · exact All3.live f h4 a ha
end
theorem Slots.live : ∀ {Γ : List Sh} {ρ : Env} {σ : L2.St} {A : List Addr}, Slots K S H Γ ρ σ A → ∀ a ∈ A, ∃ o, H a = some o
  | [], [], [], _, h, a, ha => by rw [show _ = [] from h] at ha; cases ha
  | _ :: Γ, none :: ρ, _ :: σ, A, h, a, ha => Slots.live (Γ := Γ) (ρ := ρ) (σ := σ) (A := A) h a ha
  | _ :: _, some _ :: _, _ :: _, _, ⟨v, A1, A2, h1, h2, h3, h4⟩, a, ha => by
    rw [h2] at ha
    rcases List.mem_append.mp ha with ha | ha
    · exact h3.live a ha
    · exact Slots.live h4 a ha
  | [], [], _ :: _, _, h, _, _ => h.elim
  | [], _ :: _, _, _, h, _, _ => by cases h
  | _ :: _, [], _, _, h, _, _ => by cases h
  | _ :: _, none :: _, [], _, h, _, _ => by cases h
  | _ :: _, some _ :: _, [], _, h, _, _ => by cases h
theorem Slots.mono (e : Ex S S') : ∀ {Γ : List Sh} {ρ : Env} {σ : L2.St} {A : List Addr}, (∀ a ∈ A, H' a = H a) → Slots K S H Γ ρ σ A → Slots K S' H' Γ ρ σ A
  | [], [], [], _, _, h => h
  | _ :: Γ, none :: ρ, _ :: σ, A, g, h => Slots.mono (Γ := Γ) (ρ := ρ) (σ := σ) (A := A) e g h
  | _ :: _, some _ :: _, _ :: _, _, g, ⟨v, A1, A2, h1, h2, h3, h4⟩ => ⟨v, A1, A2, h1, h2, h3.mono e fun a ha => g a (by rw [h2]; exact List.mem_append_left _ ha), Slots.mono e (fun a ha => g a (by rw [h2]; exact List.mem_append_right _ ha)) h4⟩
  | [], [], _ :: _, _, _, h => h.elim
  | [], _ :: _, _, _, _, h => by cases h
  | _ :: _, [], _, _, _, h => by cases h
  | _ :: _, none :: _, [], _, _, h => by cases h
  | _ :: _, some _ :: _, [], _, _, h => by cases h
/-- the place i taken out -/
theorem Slots.at_ : ∀ {Γ : List Sh} {ρ : Env} {σ : L2.St} {A : List Addr} {i : Nat} {sh : Sh}, Slots K S H Γ ρ σ A → Γ[i]? = some sh →
    ∃ P A1 Q, A = P ++ (A1 ++ Q) ∧ i < ρ.length ∧ i < σ.length ∧ (∀ d, ρ[i]? = some (some d) → ∃ v, σ[i]? = some (some v) ∧ Own K S H sh d v A1) ∧
      (∀ S' H' sh' d' v' A', Ex S S' → (∀ a ∈ P ++ Q, H' a = H a) → Own K S' H' sh' d' v' A' → Slots K S' H' (Γ.set i sh') (ρ.set i (some d')) (σ.set i (some v')) (P ++ (A' ++ Q))) ∧
      (∀ S' H' sh' x', Ex S S' → (∀ a ∈ P ++ Q, H' a = H a) → Slots K S' H' (Γ.set i sh') (ρ.set i none) (σ.set i x') (P ++ Q))
  | [], [], [], _, _, _, h, e => by simp at e
  | sh1 :: Γ, none :: ρ, x :: σ, A, 0, sh, h, e => by
    refine ⟨[], [], A, rfl, Nat.zero_lt_succ _, Nat.zero_lt_succ _, fun d hd => by simp at hd, fun S' H' sh' d' v' A' e g o => ?_, fun S' H' sh' x' e g => ?_⟩
    · exact ⟨v', A', A, rfl, rfl, o, Slots.mono e g (show Slots K S H _ _ _ _ from h)⟩
    · exact Slots.mono e g (show Slots K S H _ _ _ _ from h)
  | sh1 :: Γ, some d1 :: ρ, x :: σ, A, 0, sh, ⟨v, A1, A2, h1, h2, h3, h4⟩, e => by
    have e' : sh1 = sh := by simpa using e
    subst e'
    refine ⟨[], A1, A2, h2, Nat.zero_lt_succ _, Nat.zero_lt_succ _, fun d hd => ?_, fun S' H' sh' d' v' A' e g o => ?_, fun S' H' sh' x' e g => ?_⟩
    · have hd' : d1 = d := by simpa using hd
      subst hd'
      exact ⟨v, by rw [h1]; rfl, h3⟩
    · exact ⟨v', A', A2, rfl, rfl, o, Slots.mono e g h4⟩
    · exact Slots.mono e g h4
  | sh1 :: Γ, none :: ρ, x :: σ, A, i + 1, sh, h, e => by
    obtain ⟨P, A1, Q, q1, q2, q3, q4, q5, q6⟩ := Slots.at_ (i := i) (sh := sh) (show Slots K S H Γ ρ σ A from h) (by simpa using e)
    refine ⟨P, A1, Q, q1, Nat.succ_lt_succ q2, Nat.succ_lt_succ q3, fun d hd => q4 d (by simpa using hd), fun S' H' sh' d' v' A' e g o => q5 S' H' sh' d' v' A' e g o, fun S' H' sh' x' e g => q6 S' H' sh' x' e g⟩
  | sh1 :: Γ, some d1 :: ρ, x :: σ, A, i + 1, sh, ⟨v, B1, B2, h1, h2, h3, h4⟩, e => by
    obtain ⟨P, A1, Q, q1, q2, q3, q4, q5, q6⟩ := Slots.at_ (i := i) (sh := sh) h4 (by simpa using e)
    refine ⟨B1 ++ P, A1, Q, by rw [h2, q1, List.append_assoc], Nat.succ_lt_succ q2, Nat.succ_lt_succ q3, fun d hd => q4 d (by simpa using hd), fun S' H' sh' d' v' A' e g o => ?_, fun S' H' sh' x' e g => ?_⟩
    · exact ⟨v, B1, P ++ (A' ++ Q), h1, by rw [List.append_assoc], h3.mono e fun a ha => g a (by simp [ha]), q5 S' H' sh' d' v' A' e (fun a ha => g a (by rcases List.mem_append.mp ha with z | z <;> simp [z])) o⟩
    · exact ⟨v, B1, P ++ Q, h1, by rw [List.append_assoc], h3.mono e fun a ha => g a (by simp [ha]), q6 S' H' sh' x' e (fun a ha => g a (by rcases List.mem_append.mp ha with z | z <;> simp [z]))⟩
  | [], [], _ :: _, _, _, _, h, _ => h.elim
  | [], _ :: _, _, _, _, _, h, _ => by cases h
  | _ :: _, [], _, _, _, _, h, _ => by cases h
  | _ :: _, none :: _, [], _, _, _, h, _ => by cases h
  | _ :: _, some _ :: _, [], _, _, _, h, _ => by cases h
end
end VL

namespace VL
open PySem PySem.Spec PyProof.Rows L2
open Evl (Ex)

/-- what is wanted of exceptions; how many slots are lent -/
structure Wp where
  W : WX
  p : Nat
section
variable (K : PySem.W.Frag)
/-- the exception x: its class, its own dict -/
def ExcIs (S : Hp) (x : Exn) (c : Value) (dd : Option Addr) : Prop := c = .ref (He.ga K x.cls) ∧ match x.arg with
  | none => True
  | some (f, d) => ∃ a v, dd = some a ∧ S a = some (.xd [(f, v)]) ∧ Rep K S d v
/-- what a piece without side effects may do: new objects alone -/
structure Gw (S H S' H' : Hp) : Prop where
  e : Ex S S'
  eH : Ex H H'
  sH : Ex S' H'
  nw : ∀ a o, S' a = some o → S a = some o ∨ H a = none
def Thrown (W : Wp) (σ : L2.St) (S H : Hp) (x : Exn) : Prop := ∀ c dd S' H', Gw S H S' H' → ExcIs K S' x c dd → W.W c dd σ H'
/-- all that a value without side effects may do -/
def Gr (S H : Hp) (sh : Sh) (d : D) (Q : VK) : Prop := ∀ v S' H' A1, Gw S H S' H' → Own K S' H' sh d v A1 → A1.Nodup → (∀ a ∈ A1, H a = none ∧ S' a = none) → Q v H'
def tV (W : Wp) (Γ : List Sh) (sh : Sh) (m : ME) : TE := fun σ H Q => ∃ ρ g S A, Rel K W.p g Γ ρ σ S H A ∧ match m ρ with
  | .fail => False
  | .ok d => Gr K S H sh d Q
  | .exc x => Thrown K W σ S H x
def tVT (W : Wp) (Γ : List Sh) (m : Env → R Bool) : TT := fun σ H Q => ∃ ρ g S A, Rel K W.p g Γ ρ σ S H A ∧ match m ρ with
  | .fail => False
  | .ok b => ∀ S' H', Gw S H S' H' → Q b H'
  | .exc x => Thrown K W σ S H x
def tVA (W : Wp) (Γ : List Sh) (m : Env → R (List D)) : TA := fun σ H Q => ∃ ρ g S A, Rel K W.p g Γ ρ σ S H A ∧ match m ρ with
  | .fail => False
  | .ok ds => ∀ vs S' H', Gw S H S' H' → Reps K S' ds vs → Q vs H'
  | .exc x => Thrown K W σ S H x
end
abbrev VE (X : Cx) (W : Wp) (Γ : List Sh) (e : Expr) (sh : Sh) (m : ME) : Prop := PE X e (tV X.K W Γ sh m)
abbrev VT (X : Cx) (W : Wp) (Γ : List Sh) (e : Expr) (m : Env → R Bool) : Prop := PT X e (tVT X.K W Γ m)
abbrev VA (X : Cx) (W : Wp) (Γ : List Sh) (es : List Expr) (m : Env → R (List D)) : Prop := PA X es (tVA X.K W Γ m)

section
variable {X : Cx}
theorem peImp {e : Expr} {t t' : TE} (h : PE X e t) (f : ∀ σ H Q, t' σ H Q → t σ H Q) : PE X e t' := ⟨fun pins s σ H Q I q => h.run pins s σ H Q I (f σ H Q q)⟩
theorem ptImp {e : Expr} {t t' : TT} (h : PT X e t) (f : ∀ σ H Q, t' σ H Q → t σ H Q) : PT X e t' := ⟨fun pins s σ H Q I q => h.run pins s σ H Q I (f σ H Q q)⟩
theorem pwImp {e : Expr} {t t' : TT} (h : PW X e t) (f : ∀ σ H Q, t' σ H Q → t σ H Q) : PW X e t' := ⟨fun wh pins s σ H Q I q => h.run wh pins s σ H Q I (f σ H Q q)⟩
theorem paImp {e : List Expr} {t t' : TA} (h : PA X e t) (f : ∀ σ H Q, t' σ H Q → t σ H Q) : PA X e t' := ⟨fun pos pins s σ H Q I q => h.run pos pins s σ H Q I (f σ H Q q)⟩
theorem psImp {e : Stmt} {t t' : TS} (h : PS X e t) (f : ∀ D σ H, t' D σ H → t D σ H) : PS X e t' := ⟨fun pins s σ H D I q => h.run pins s σ H D I (f D σ H q)⟩
theorem pssImp {e : List Stmt} {t t' : TS} (h : PSs X e t) (f : ∀ D σ H, t' D σ H → t D σ H) : PSs X e t' := ⟨fun pins s σ H D I q => h.run pins s σ H D I (f D σ H q)⟩
theorem peOr {e : Expr} {t u : TE} (h : PE X e t) (h' : PE X e u) : PE X e (fun σ H Q => t σ H Q ∨ u σ H Q) := ⟨fun pins s σ H Q I q => q.elim (h.run pins s σ H Q I) (h'.run pins s σ H Q I)⟩
theorem ptOr {e : Expr} {t u : TT} (h : PT X e t) (h' : PT X e u) : PT X e (fun σ H Q => t σ H Q ∨ u σ H Q) := ⟨fun pins s σ H Q I q => q.elim (h.run pins s σ H Q I) (h'.run pins s σ H Q I)⟩
end

section
variable {K : PySem.W.Frag} {p : Nat} {g : Gh} {Γ : List Sh} {ρ : Env} {σ : L2.St} {S S' H H' : Hp} {A : List Addr} {sh : Sh} {d : D} {v : V} {Q : VK} {W : Wp}
theorem Ex.rfl' : Ex H H := fun _ _ h => h
theorem exTrans {a b d : Hp} (h : Ex a b) (h' : Ex b d) : Ex a d := fun x o z => h' x o (h x o z)
theorem Gw.rfl' (sH : Ex S H) : Gw S H S H := ⟨Ex.rfl', Ex.rfl', sH, fun _ _ z => .inl z⟩
theorem Gw.trans {S1 H1 : Hp} (a : Gw S H S1 H1) (b : Gw S1 H1 S' H') : Gw S H S' H' := ⟨exTrans a.e b.e, exTrans a.eH b.eH, b.sH, fun x o z => by
  rcases b.nw x o z with y | y
  · exact a.nw x o y
  · refine .inr ?_
    cases q : H x with
    | none => rfl
    | some u => rw [a.eH x u q] at y; cases y⟩
/-- the slots stand while nothing of theirs is touched -/
theorem Rel.grow (r : Rel K p g Γ ρ σ S H A) (w : Gw S H S' H') : Rel K p g Γ ρ σ S' H' A where
  slots := r.slots.mono w.e fun a ha => by
    obtain ⟨o, ho⟩ := r.slots.live a ha
    rw [ho, w.eH a o ho]
  nd := r.nd
  fr := fun a ha => by
    refine ⟨?_, (r.fr a ha).2⟩
    cases q : S' a with
    | none => rfl
    | some o =>
      obtain ⟨u, hu⟩ := r.slots.live a ha
      rcases w.nw a o q with z | z
      · rw [(r.fr a ha).1] at z; cases z
      · rw [hu] at z; cases z
  sH := w.sH
  bH := fun a o h => w.eH a o (r.bH a o h)
  s0 := fun a o h => w.e a o (r.s0 a o h)
  nw := fun a o h => by
    rcases w.nw a o h with z | z
    · exact r.nw a o z
    · refine .inr ?_
      cases q : g.B a with
      | none => rfl
      | some u => rw [r.bH a u q] at z; cases z
  par := r.par
  pl := r.pl
/-- new addresses of one's own beside the slots' -/
theorem Rel.apart (r : Rel K p g Γ ρ σ S H A) {A1 : List Addr} (nd : A1.Nodup) (fr : ∀ a ∈ A1, H a = none ∧ S' a = none) : (A1 ++ A).Nodup ∧ ∀ a ∈ A1, S' a = none ∧ g.B a = none := by
  refine ⟨List.nodup_append.mpr ⟨nd, r.nd, fun a ha b hb z => ?_⟩, fun a ha => ⟨(fr a ha).2, ?_⟩⟩
  · subst z
    obtain ⟨u, hu⟩ := r.slots.live a hb
    rw [(fr a ha).1] at hu; cases hu
  · cases q : g.B a with
    | none => rfl
    | some u => have z := r.bH a u q; rw [(fr a ha).1] at z; cases z
theorem Gr.trans {S1 H1 : Hp} (w : Gw S H S1 H1) (q : Gr K S H sh d Q) : Gr K S1 H1 sh d Q := fun v S' H' A1 w' o nd fr => q v S' H' A1 (w.trans w') o nd fun a ha => by
  refine ⟨?_, (fr a ha).2⟩
  cases y : H a with
  | none => rfl
  | some u => have z := w.eH a u y; rw [(fr a ha).1] at z; cases z
theorem Thrown.trans {S1 H1 : Hp} {x : Exn} (w : Gw S H S1 H1) (h : Thrown K W σ S H x) : Thrown K W σ S1 H1 x := fun c dd S' H' w' i => h c dd S' H' (w.trans w') i
/-- a value that is there already -/
theorem Gr.same (q : Gr K S H .s d Q) (sH : Ex S H) (h : Rep K S d v) : Q v H := q v S H [] (.rfl' sH) ⟨rfl, h⟩ List.nodup_nil (fun _ z => nomatch z)
theorem sub_new {p : Addr} (sH : Ex S H) (hp : H p = none) : S p = none := by
  cases q : S p with
  | none => rfl
  | some u => rw [sH p u q] at hp; cases hp
theorem Gw.new (sH : Ex S H) {p : Addr} {o : HO} (hp : H p = none) : Gw S H (upd S p o) (upd H p o) := ⟨Evl.Ex.new (sub_new sH hp), Evl.Ex.new hp, fun a u e => by
  by_cases z : a = p
  · subst z; rw [upd_same] at e ⊢; exact e
  · rw [upd_ne z] at e ⊢; exact sH a u e, fun a u e => by
  by_cases z : a = p
  · subst z; exact .inr hp
  · rw [upd_ne z] at e; exact .inl e⟩
theorem Gw.newO (sH : Ex S H) {p : Addr} {o : HO} (hp : H p = none) : Gw S H S (upd H p o) := ⟨Ex.rfl', Evl.Ex.new hp, fun a u e => by
  rw [upd_ne (ne_of_none (sH a u e) hp)]; exact sH a u e, fun a u e => .inl e⟩
/-- a new shared object -/
theorem Gr.new (q : Gr K S H .s d Q) (sH : Ex S H) {p : Addr} {o : HO} (hp : H p = none) (h : Rep K (upd S p o) d (.ref p)) : Q (.ref p) (upd H p o) :=
  q _ (upd S p o) _ [] (.new sH hp) ⟨rfl, h⟩ List.nodup_nil (fun _ z => nomatch z)
theorem all3_s : ∀ {ds : List D} {vs : List V}, Reps K S ds vs → All3 (Own K S H .s) ds vs []
  | [], _, h => ⟨h, rfl⟩
  | _ :: _, _, ⟨v, r, h1, h2, h3⟩ => ⟨v, r, [], [], h1, rfl, ⟨rfl, h2⟩, all3_s h3⟩
theorem all3_s_reps : ∀ {ds : List D} {vs : List V} {B : List Addr}, All3 (Own K S H .s) ds vs B → B = [] ∧ Reps K S ds vs
  | [], _, _, ⟨h, h'⟩ => ⟨h', h⟩
  | _ :: _, _, _, ⟨v, r, A1, A2, h1, h2, ⟨h3, h3'⟩, h4⟩ => by
    obtain ⟨e, q⟩ := all3_s_reps h4
    exact ⟨by rw [h2, h3, e]; rfl, v, r, h1, h3', q⟩
/-- a new list of shared values -/
theorem Gr.lst {ds : List D} {vs : List V} (q : Gr K S H (.L .s) (.lst ds) Q) (sH : Ex S H) (h : Reps K S ds vs) {p : Addr} (hp : H p = none) : Q (.ref p) (upd H p (.lst vs)) := by
  refine q _ S _ [p] (.newO sH hp) ⟨p, vs, ds, [], rfl, rfl, upd_same, rfl, all3_s h⟩ (by simp) (fun a ha => ?_)
  have e : a = p := by simpa using ha
  subst e
  exact ⟨hp, sub_new sH hp⟩
theorem Gr.tup {ds : List D} {vs : List V} (q : Gr K S H .s (.tup ds) Q) (sH : Ex S H) (h : Reps K S ds vs) {p : Addr} (hp : H p = none) : Q (.ref p) (upd H p (.tup vs)) :=
  q.new sH hp ⟨p, vs, rfl, .inl (.inl upd_same), h.mono (Evl.Ex.new (sub_new sH hp))⟩
/-- what is held alone may be given to all -/
theorem Gr.frz (q : Gr K S H .s d Q) : Gr K S H sh d Q := fun v S' H' A1 w o nd fr => by
  have e2 : Ex S' (VL.frz S' H' A1) := frz_ex fun a ha => (fr a ha).2
  refine q v (VL.frz S' H' A1) H' [] ⟨exTrans w.e e2, w.eH, frz_sub w.sH, fun a o z => ?_⟩ ⟨rfl, o.frz e2 fun _ z => z⟩ List.nodup_nil fun _ z => nomatch z
  by_cases y : a ∈ A1
  · exact .inr (fr a y).1
  · rw [frz_out y] at z
    exact w.nw a o z
end

/-! ### rules: expressions -/
section
variable {X : Cx} {W : Wp} {Γ : List Sh} {a b e : Expr} {ma mb m : ME} {pos : Pos} {sh : Sh}
theorem ve_frz (h : VE X W Γ e sh m) : VE X W Γ e .s m := peImp h fun σ H Q ⟨ρ, g, S, A, r, q⟩ => ⟨ρ, g, S, A, r, by
  cases q' : m ρ with
  | fail => rw [q'] at q; exact q
  | exc x => rw [q'] at q; exact q
  | ok d => rw [q'] at q; exact q.frz⟩
def mVar (i : Nat) : ME := fun ρ => match ρ[i]? with
  | some (some d) => .ok d
  | _ => .fail
def mC (d : D) : ME := fun _ => .ok d
theorem ve_var (i : Nat) {x : Str} (hN : X.N[i]? = some x := by rfl) (hv : Vis X.env.scope x := by first | exact Or.inl rfl | exact Or.inr (Or.inl rfl) | exact Or.inr (Or.inr rfl)) (hs : Γ[i]? = some .s := by rfl) (hd : (x == ("__debug__" : Str)) = false := by decide)
    (hcd : (x == ("__classdict__" : Str)) = false := by decide) : VE X W Γ (.Name x pos) .s (mVar i) := peImp (pe_var hN hv hd hcd) fun σ H Q ⟨ρ, g, S, A, r, q⟩ => by
  unfold mVar at q
  obtain ⟨P, A1, Q', q1, q2, q3, q4, _⟩ := r.slots.at_ hs
  cases z : ρ[i]? with
  | none => rw [z] at q; exact q.elim
  | some o =>
    cases o with
    | none => rw [z] at q; exact q.elim
    | some d =>
      rw [z] at q
      obtain ⟨v, hv, _, hr⟩ := q4 d z
      exact ⟨v, hv, Gr.same q r.sH hr⟩
theorem ve_c {t : TE} {d : D} {v : V} (h : PE X e t) (ht : ∀ σ H Q, Q v H → t σ H Q) (hr : ∀ S, Rep X.K S d v) : VE X W Γ e .s (mC d) := peImp h fun σ H Q ⟨ρ, g, S, A, r, q⟩ => ht σ H Q (Gr.same q r.sH (hr S))
theorem ve_int {i : Int} {j : Nat} : VE X W Γ (.Constant (.int i) j pos) .s (mC (.int i)) := ve_c pe_int (fun _ _ _ h => h) fun _ => rfl
theorem ve_bl {i : Bool} {j : Nat} : VE X W Γ (.Constant (.bool i) j pos) .s (mC (.bl i)) := ve_c pe_bl (fun _ _ _ h => h) fun _ => rfl
theorem ve_non {j : Nat} : VE X W Γ (.Constant .none j pos) .s (mC .non) := ve_c pe_non (fun _ _ _ h => h) fun _ => rfl
theorem ve_str {i : Str} {j : Nat} : VE X W Γ (.Constant (.str i) j pos) .s (mC (.str i)) := ve_c pe_str (fun _ _ _ h => h) fun _ => rfl
/-- what the module's name x holds, plain data -/
def GCon (K : PySem.W.Frag) (mg : Str → Option Value) (x : Str) (d : D) : Prop := ∃ u v, mg x = some u ∧ RelV v u ∧ ∀ S, Rep K S d v
theorem ve_glob {x : Str} {d : D} (hg : Gl X x) (c : GCon X.K X.mg x d) (hd : (x == ("__debug__" : Str)) = false := by decide) : VE X W Γ (.Name x pos) .s (mC d) := by
  obtain ⟨u, v, h1, h2, h3⟩ := c
  exact ve_c (pe_glob hg h1 h2 hd) (fun _ _ _ h => h) h3

/-- two operands -/
def mBin (f : D → D → Option D) (a b : ME) : ME := fun ρ => match a ρ with
  | .fail => .fail
  | .exc x => .exc x
  | .ok x => match b ρ with
    | .fail => .fail
    | .exc x => .exc x
    | .ok y => match f x y with
      | none => .fail
      | some d => .ok d
def mUn (f : D → Option D) (a : ME) : ME := fun ρ => match a ρ with
  | .fail => .fail
  | .exc x => .exc x
  | .ok x => match f x with
    | none => .fail
    | some d => .ok d
/-- r does what f says -/
def ROk (K : PySem.W.Frag) (r : R2) (f : D → D → Option D) (sh : Sh) : Prop := ∀ S H dx dy x y d Q, Ex S H → Rep K S dx x → Rep K S dy y → f dx dy = some d → Gr K S H sh d Q → r x y H Q
def UOk (K : PySem.W.Frag) (r : V → Hp → VK → Prop) (f : D → Option D) (sh : Sh) : Prop := ∀ S H dx x d Q, Ex S H → Rep K S dx x → f dx = some d → Gr K S H sh d Q → r x H Q
def COk (K : PySem.W.Frag) (r : List V → Hp → VK → Prop) (f : List D → Option D) (sh : Sh) : Prop := ∀ S H dx x d Q, Ex S H → Reps K S dx x → f dx = some d → Gr K S H sh d Q → r x H Q
theorem bin_ok {r : R2} {f : D → D → Option D} (hr : ROk X.K r f sh) {σ : L2.St} {H : Hp} {Q : VK} (h : tV X.K W Γ sh (mBin f ma mb) σ H Q) : tOp r (tV X.K W Γ .s ma) (tV X.K W Γ .s mb) σ H Q := by
  obtain ⟨ρ, g, S, A, rel, q⟩ := h
  unfold mBin at q
  refine ⟨ρ, g, S, A, rel, ?_⟩
  cases e1 : ma ρ with
  | fail => rw [e1] at q; exact q
  | exc x => rw [e1] at q; exact q
  | ok dx =>
    rw [e1] at q
    intro x S1 H1 B1 w1 ⟨_, p1⟩ _ _
    have r1 := rel.grow w1
    refine ⟨ρ, g, S1, A, r1, ?_⟩
    cases e2 : mb ρ with
    | fail => simp only [e2] at q
    | exc z => simp only [e2] at q; exact Thrown.trans w1 q
    | ok dy =>
      simp only [e2] at q
      intro y S2 H2 B2 w2 ⟨_, p2⟩ _ _
      have r2 := r1.grow w2
      cases e3 : f dx dy with
      | none => simp only [e3] at q
      | some dd =>
        simp only [e3] at q
        exact hr S2 H2 dx dy x y dd Q r2.sH (p1.mono w2.e) p2 e3 (Gr.trans (w1.trans w2) q)
theorem un_ok {r : V → Hp → VK → Prop} {f : D → Option D} (hr : UOk X.K r f sh) {σ : L2.St} {H : Hp} {Q : VK} (h : tV X.K W Γ sh (mUn f ma) σ H Q) : tV X.K W Γ .s ma σ H fun x H1 => r x H1 Q := by
  obtain ⟨ρ, g, S, A, rel, q⟩ := h
  unfold mUn at q
  refine ⟨ρ, g, S, A, rel, ?_⟩
  cases e1 : ma ρ with
  | fail => rw [e1] at q; exact q
  | exc x => rw [e1] at q; exact q
  | ok dx =>
    rw [e1] at q
    intro x S1 H1 B1 w1 ⟨_, p1⟩ _ _
    have r1 := rel.grow w1
    cases e3 : f dx with
    | none => simp only [e3] at q
    | some dd =>
      simp only [e3] at q
      exact hr S1 H1 dx x dd Q r1.sH p1 e3 (Gr.trans w1 q)
theorem ve_op {op : Operator} {r : R2} {f : D → D → Option D} (ho : OpR X (binaryOp op) r) (hr : ROk X.K r f sh) (ha : VE X W Γ a .s ma) (hb : VE X W Γ b .s mb) : VE X W Γ (.BinOp a op b pos) sh (mBin f ma mb) :=
  peImp (pe_op ho ha hb) fun _ _ _ h => bin_ok hr h
theorem ve_cmp {op : CmpOp} {r : R2} {f : D → D → Option D} (ho : OpR X (compareOp op) r) (hr : ROk X.K r f sh) (ha : VE X W Γ a .s ma) (hb : VE X W Γ b .s mb) (hm : behindInMarks op b = false) : VE X W Γ (.Compare a [op] [b] pos) sh (mBin f ma mb) :=
  peImp (pe_cmpR ho ha hb hm) fun _ _ _ h => bin_ok hr h
theorem ve_un {op : UnaryOp} {r : V → Hp → VK → Prop} {f : D → Option D} (ho : UnR X (unaryOp op) r) (hr : UOk X.K r f sh) (ha : VE X W Γ a .s ma) : VE X W Γ (.UnaryOp op a pos) sh (mUn f ma) :=
  peImp (pe_un ho ha) fun _ _ _ h => un_ok hr h
theorem ve_ix {r : R2} {f : D → D → Option D} (hi : IxR X r) (hr : ROk X.K r f sh) (ha : VE X W Γ a .s ma) (hb : VE X W Γ b .s mb) (hs : PlainIx b) : VE X W Γ (.Subscript a b pos) sh (mBin f ma mb) :=
  peImp (pe_ix hi ha hb hs) fun _ _ _ h => bin_ok hr h

/-! ### tests -/
def mTest (f : D → Option Bool) (a : ME) : Env → R Bool := fun ρ => match a ρ with
  | .fail => .fail
  | .exc x => .exc x
  | .ok x => match f x with
    | none => .fail
    | some b => .ok b
def dBool : D → Option Bool
  | .bl b => some b
  | _ => none
theorem test_ok {σ : L2.St} {H : Hp} {Q : Bool → Hp → Prop} (h : tVT X.K W Γ (mTest dBool m) σ H Q) : tTest (tV X.K W Γ .s m) σ H Q := by
  obtain ⟨ρ, g, S, A, rel, q⟩ := h
  unfold mTest at q
  refine ⟨ρ, g, S, A, rel, ?_⟩
  cases e1 : m ρ with
  | fail => rw [e1] at q; exact q
  | exc x => rw [e1] at q; exact q
  | ok dx =>
    rw [e1] at q
    intro x S1 H1 B1 w1 ⟨_, p1⟩ _ _
    have r1 := rel.grow w1
    cases dx with
    | bl b => exact ⟨b, p1, q S1 H1 w1⟩
    | _ => exact q.elim
theorem vt_cmp {op : CmpOp} {r : R2} {f : D → D → Option D} (ho : OpR X (compareOp op) r) (hr : ROk X.K r f .s) (ha : VE X W Γ a .s ma) (hb : VE X W Γ b .s mb) (hm : behindInMarks op b = false) : VT X W Γ (.Compare a [op] [b] pos) (mTest dBool (mBin f ma mb)) :=
  ptImp (pt_cmpR ho ha hb hm) fun σ H Q h => by
    obtain ⟨ρ, g, S, A, rel, q⟩ := test_ok h
    exact bin_ok hr ⟨ρ, g, S, A, rel, q⟩
theorem vt_val (h : VE X W Γ e .s m) (he : ∀ whole, isTrue e X.env whole = (do let v ← whole; standAt e.pos; holding [v] (truthy v)) := by intro _; rfl) : VT X W Γ e (mTest dBool m) := ptImp (pt_val h he) fun σ H Q h => test_ok h
def dTruth : D → Option Bool
  | .bl b => some b
  | .non => some false
  | .int i => some (i != 0)
  | .str x => if x.length ≤ sizeLine then some (x.length != 0) else none
  | .lst xs => some (!xs.isEmpty)
  | .tup xs => some (!xs.isEmpty)
  | .dic xs => some (!xs.isEmpty)
  | _ => none
variable {tA tB : Env → R Bool} {rest : List Expr}
def mAndT (a b : Env → R Bool) : Env → R Bool := fun ρ => match a ρ with
  | .ok true => b ρ
  | o => o
def mOrT (a b : Env → R Bool) : Env → R Bool := fun ρ => match a ρ with
  | .ok false => b ρ
  | o => o
def mNotT (a : Env → R Bool) : Env → R Bool := fun ρ => match a ρ with
  | .ok b => .ok (!b)
  | o => o
theorem vt_not (ha : VT X W Γ a tA) : VT X W Γ (.UnaryOp .Not a pos) (mNotT tA) := ptImp (pt_not ha) fun σ H Q ⟨ρ, g, S, A, rel, q⟩ => by
  unfold mNotT at q
  refine ⟨ρ, g, S, A, rel, ?_⟩
  cases e1 : tA ρ with
  | fail => rw [e1] at q; exact q
  | exc x => rw [e1] at q; exact q
  | ok b => rw [e1] at q; exact q
theorem and_ok {σ : L2.St} {H : Hp} {Q : Bool → Hp → Prop} (h : tVT X.K W Γ (mAndT tA tB) σ H Q) : tAnd (tVT X.K W Γ tA) (tVT X.K W Γ tB) σ H Q := by
  obtain ⟨ρ, g, S, A, rel, q⟩ := h
  unfold mAndT at q
  refine ⟨ρ, g, S, A, rel, ?_⟩
  cases e1 : tA ρ with
  | fail => rw [e1] at q; exact q
  | exc x => rw [e1] at q; exact q
  | ok c =>
    rw [e1] at q
    intro S1 H1 w1
    have r1 := rel.grow w1
    cases c with
    | false => exact iteF (q S1 H1 w1)
    | true =>
      refine iteT ⟨ρ, g, S1, A, r1, ?_⟩
      cases e2 : tB ρ with
      | fail => simp only [e2] at q
      | exc z => simp only [e2] at q; exact Thrown.trans w1 q
      | ok b => simp only [e2] at q; exact fun S2 H2 w2 => q S2 H2 (w1.trans w2)
theorem or_ok {σ : L2.St} {H : Hp} {Q : Bool → Hp → Prop} (h : tVT X.K W Γ (mOrT tA tB) σ H Q) : tOr (tVT X.K W Γ tA) (tVT X.K W Γ tB) σ H Q := by
  obtain ⟨ρ, g, S, A, rel, q⟩ := h
  unfold mOrT at q
  refine ⟨ρ, g, S, A, rel, ?_⟩
  cases e1 : tA ρ with
  | fail => rw [e1] at q; exact q
  | exc x => rw [e1] at q; exact q
  | ok c =>
    rw [e1] at q
    intro S1 H1 w1
    have r1 := rel.grow w1
    cases c with
    | true => exact iteT (q S1 H1 w1)
    | false =>
      refine iteF ⟨ρ, g, S1, A, r1, ?_⟩
      cases e2 : tB ρ with
      | fail => simp only [e2] at q
      | exc z => simp only [e2] at q; exact Thrown.trans w1 q
      | ok b => simp only [e2] at q; exact fun S2 H2 w2 => q S2 H2 (w1.trans w2)
abbrev VW (X : Cx) (W : Wp) (Γ : List Sh) (e : Expr) (m : Env → R Bool) : Prop := PW X e (tVT X.K W Γ m)
theorem vw_and1 (ha : VT X W Γ a tA) : VW X W Γ (.BoolOp .And [a] pos) tA := pw_and1 ha
theorem vw_or1 (ha : VT X W Γ a tA) : VW X W Γ (.BoolOp .Or [a] pos) tA := pw_or1 ha
theorem vw_and (ha : VT X W Γ a tA) (hb : VW X W Γ (.BoolOp .And (b :: rest) pos) tB) : VW X W Γ (.BoolOp .And (a :: b :: rest) pos) (mAndT tA tB) := pwImp (pw_and ha hb) fun _ _ _ h => and_ok h
theorem vw_or (ha : VT X W Γ a tA) (hb : VW X W Γ (.BoolOp .Or (b :: rest) pos) tB) : VW X W Γ (.BoolOp .Or (a :: b :: rest) pos) (mOrT tA tB) := pwImp (pw_or ha hb) fun _ _ _ h => or_ok h
theorem vt_w (h : VW X W Γ e tA) : VT X W Γ e tA := h.pt
end
end VL

namespace VL
open PySem PySem.Spec PyProof.Rows L2
open Evl (Ex)
section
variable {X : Cx} {W : Wp} {Γ : List Sh} {a b c e : Expr} {ma mb mc m : ME} {pos : Pos} {sh : Sh} {tA tB : Env → R Bool} {es : List Expr} {mas : Env → R (List D)} {rest : List Expr}

/-! ### arguments, displays -/
def mNil : Env → R (List D) := fun _ => .ok []
def mCons (a : ME) (r : Env → R (List D)) : Env → R (List D) := fun ρ => match a ρ with
  | .fail => .fail
  | .exc x => .exc x
  | .ok x => match r ρ with
    | .fail => .fail
    | .exc x => .exc x
    | .ok xs => .ok (x :: xs)
theorem va_nil : VA X W Γ [] mNil := paImp pa_nil fun σ H Q ⟨ρ, g, S, A, r, q⟩ => q [] S H (.rfl' r.sH) rfl
theorem va_cons (ha : VE X W Γ e .s ma) (hr : VA X W Γ es mas) (hs : starEach (e :: es) X.env = (false, eval e X.env) :: starEach es X.env := by rfl) : VA X W Γ (e :: es) (mCons ma mas) := paImp (pa_cons ha hr hs) fun σ H Q ⟨ρ, g, S, A, rel, q⟩ => by
  unfold mCons at q
  refine ⟨ρ, g, S, A, rel, ?_⟩
  cases e1 : ma ρ with
  | fail => rw [e1] at q; exact q
  | exc x => rw [e1] at q; exact q
  | ok dx =>
    rw [e1] at q
    intro x S1 H1 B1 w1 ⟨_, p1⟩ _ _
    have r1 := rel.grow w1
    refine ⟨ρ, g, S1, A, r1, ?_⟩
    cases e2 : mas ρ with
    | fail => simp only [e2] at q
    | exc z => simp only [e2] at q; exact Thrown.trans w1 q
    | ok ds =>
      simp only [e2] at q
      intro vs S2 H2 w2 p2
      exact q (x :: vs) S2 H2 (w1.trans w2) ⟨x, vs, rfl, p1.mono w2.e, p2⟩
def mArgs (f : List D → Option D) (a : Env → R (List D)) : ME := fun ρ => match a ρ with
  | .fail => .fail
  | .exc x => .exc x
  | .ok xs => match f xs with
    | none => .fail
    | some d => .ok d
theorem args_ok {r : List V → Hp → VK → Prop} {f : List D → Option D} (hr : COk X.K r f sh) {σ : L2.St} {H : Hp} {Q : VK} (h : tV X.K W Γ sh (mArgs f mas) σ H Q) : tVA X.K W Γ mas σ H fun vs H1 => r vs H1 Q := by
  obtain ⟨ρ, g, S, A, rel, q⟩ := h
  unfold mArgs at q
  refine ⟨ρ, g, S, A, rel, ?_⟩
  cases e1 : mas ρ with
  | fail => rw [e1] at q; exact q
  | exc x => rw [e1] at q; exact q
  | ok ds =>
    rw [e1] at q
    intro vs S1 H1 w1 p1
    have r1 := rel.grow w1
    cases e3 : f ds with
    | none => simp only [e3] at q
    | some dd =>
      simp only [e3] at q
      exact hr S1 H1 ds vs dd Q r1.sH p1 e3 (Gr.trans w1 q)
def dTup (ds : List D) : Option D := if ds.length ≤ sizeLine then some (.tup ds) else none
def dLst (ds : List D) : Option D := if ds.length ≤ sizeLine then some (.lst ds) else none
theorem ve_tup {k : Nat} (h : VA X W Γ es mas) : VE X W Γ (.Tuple es k pos) .s (mArgs dTup mas) := peImp (pe_tup h) fun σ H Q q =>
  args_ok (r := fun xs H1 Q => xs.length ≤ sizeLine ∧ ∀ p, H1 p = none → Q (.ref p) (upd H1 p (.tup xs))) (fun S H ds vs d Q sH p e gr => by
    unfold dTup at e
    by_cases z : ds.length ≤ sizeLine
    · rw [if_pos z] at e
      cases e
      exact ⟨by rw [← p.length]; exact z, fun q hq => gr.tup sH p hq⟩
    · rw [if_neg z] at e; cases e) q
theorem ve_lst (h : VA X W Γ es mas) : VE X W Γ (.List es pos) (.L .s) (mArgs dLst mas) := peImp (pe_lst h) fun σ H Q q =>
  args_ok (r := fun xs H1 Q => xs.length ≤ sizeLine ∧ ∀ p, H1 p = none → Q (.ref p) (upd H1 p (.lst xs))) (fun S H ds vs d Q sH p e gr => by
    unfold dLst at e
    by_cases z : ds.length ≤ sizeLine
    · rw [if_pos z] at e
      cases e
      exact ⟨by rw [← p.length]; exact z, fun q hq => gr.lst sH p hq⟩
    · rw [if_neg z] at e; cases e) q

/-! ### calls of built-ins, methods of built-in types -/
theorem ve_callB {id : String} {r : List V → Hp → VK → Prop} {f : List D → Option D} {x : Str} {p : Pos} (hc : CallR X (.builtin id) r) (hr : COk X.K r f sh) (hg : Gl X x) (hm : X.mg x = none) (hv : bootBuiltins x = some (.builtin id)) (ha : VA X W Γ (e :: es) mas)
    (hn : x ≠ "__name__" := by decide) (hdb : (x == ("__debug__" : Str)) = false := by decide)
    (he : starEach (e :: es) X.env = (false, eval e X.env) :: starEach es X.env := by rfl) (hpl : (backTo pos (starEach es X.env)).any (·.1) = false := by rfl) : VE X W Γ (.Call (.Name x p) (e :: es) [] pos) sh (mArgs f mas) :=
  peImp (pe_callB hc hg hm hv ha hn hdb he hpl) fun _ _ _ h => args_ok hr h
theorem ve_callTy {T : String} {r : List V → Hp → VK → Prop} {f : List D → Option D} {x : Str} {p : Pos} (hc : CallR X (.type T) r) (hr : COk X.K r f sh) (hg : Gl X x) (hm : X.mg x = none) (hv : bootBuiltins x = some (.type T)) (ha : VA X W Γ (e :: es) mas)
    (hn : x ≠ "__name__" := by decide) (hdb : (x == ("__debug__" : Str)) = false := by decide)
    (he : starEach (e :: es) X.env = (false, eval e X.env) :: starEach es X.env := by rfl) (hpl : (backTo pos (starEach es X.env)).any (·.1) = false := by rfl) : VE X W Γ (.Call (.Name x p) (e :: es) [] pos) sh (mArgs f mas) :=
  peImp (pe_callTy hc hg hm hv ha hn hdb he hpl) fun _ _ _ h => args_ok hr h
/-- r: a method of the type T; f: the object, then the arguments -/
def MOk (K : PySem.W.Frag) (T : String) (r : V → List V → Hp → VK → Prop) (f : D → List D → Option D) (sh : Sh) : Prop :=
  ∀ dx ds d, f dx ds = some d → (∀ S H x, Ex S H → Rep K S dx x → tyV K T x H) ∧ ∀ S H x vs Q, Ex S H → Rep K S dx x → Reps K S ds vs → Gr K S H sh d Q → r x vs H Q
def mMeth (ty : D → Bool) (f : D → List D → Option D) (o : ME) (a : Env → R (List D)) : ME := fun ρ => match o ρ with
  | .fail => .fail
  | .exc x => .exc x
  | .ok x => if ty x = true then (match a ρ with
    | .fail => .fail
    | .exc x => .exc x
    | .ok xs => match f x xs with
      | none => .fail
      | some d => .ok d) else .fail
/-- what ty says yes to is of the type T -/
def TyOk (K : PySem.W.Frag) (T : String) (ty : D → Bool) : Prop := ∀ dx S H x, ty dx = true → Ex S H → Rep K S dx x → tyV K T x H
def isStrD : D → Bool
  | .str _ => true
  | _ => false
def isLstD : D → Bool
  | .lst _ => true
  | .frl _ => true
  | _ => false
def isDicD : D → Bool
  | .dic _ => true
  | .dit _ => true
  | _ => false
theorem ty_str {K : PySem.W.Frag} : TyOk K "str" isStrD := fun dx S H x h sH r => by
  cases dx with
  | str z => rw [show x = _ from r]; rfl
  | _ => cases h
theorem ty_lst {K : PySem.W.Frag} : TyOk K "list" isLstD := fun dx S H x h sH r => by
  cases dx with
  | lst z =>
    obtain ⟨a, xs, h1, h2, h3⟩ := r
    rw [h1]
    exact .inl ⟨rfl, xs, SqL.of (sH _ _ h2)⟩
  | frl z =>
    obtain ⟨a, xs, h1, h2, h3⟩ := r
    rw [h1]
    exact .inl ⟨rfl, xs, Evl.ex_l sH h2⟩
  | _ => cases h
theorem ty_dic {K : PySem.W.Frag} : TyOk K "dict" isDicD := fun dx S H x h sH r => by
  cases dx with
  | dic z =>
    obtain ⟨a, xs, h1, h2, h3⟩ := r
    rw [h1]
    exact .inr (.inr (.inl ⟨rfl, .inl ⟨xs, sH _ _ h2⟩⟩))
  | dit z =>
    obtain ⟨a, xs, h1, h2, h3⟩ := r
    rw [h1]
    exact .inr (.inr (.inl ⟨rfl, .inr ⟨xs, sH _ _ h2⟩⟩))
  | _ => cases h
theorem meth_ok {T : String} {ty : D → Bool} {r : V → List V → Hp → VK → Prop} {f : D → List D → Option D} (ht : TyOk X.K T ty) (hr : MOk X.K T r f sh) {σ : L2.St} {H : Hp} {Q : VK} (h : tV X.K W Γ sh (mMeth ty f m mas) σ H Q) :
    tBM X.K T r (tV X.K W Γ .s m) (tVA X.K W Γ mas) σ H Q := by
  obtain ⟨ρ, g, S, A, rel, q⟩ := h
  unfold mMeth at q
  refine ⟨ρ, g, S, A, rel, ?_⟩
  cases e1 : m ρ with
  | fail => rw [e1] at q; exact q
  | exc x => rw [e1] at q; exact q
  | ok dx =>
    rw [e1] at q
    intro x S1 H1 B1 w1 ⟨_, p1⟩ _ _
    have r1 := rel.grow w1
    by_cases hty : ty dx = true
    · simp only [if_pos hty] at q
      refine ⟨ht dx S1 H1 x hty r1.sH p1, ρ, g, S1, A, r1, ?_⟩
      cases e2 : mas ρ with
      | fail => simp only [e2] at q
      | exc z => simp only [e2] at q; exact Thrown.trans w1 q
      | ok ds =>
        simp only [e2] at q
        cases e3 : f dx ds with
        | none => simp only [e3] at q
        | some dd =>
          simp only [e3] at q
          obtain ⟨t1, t2⟩ := hr dx ds dd e3
          intro vs S2 H2 w2 p2
          exact t2 S2 H2 x vs Q w2.sH (p1.mono w2.e) p2 (Gr.trans (w1.trans w2) q)
    · simp only [if_neg hty] at q
theorem mNil_nx : ∀ (ρ : Env) x, mNil ρ ≠ .exc x := fun _ _ h => by cases h
def NoX (m : ME) : Prop := ∀ ρ x, m ρ ≠ .exc x
def NoXs (m : Env → R (List D)) : Prop := ∀ ρ x, m ρ ≠ .exc x
theorem nx_nil : NoXs mNil := fun _ _ h => by cases h
theorem nx_cons (h : NoX ma) (h' : NoXs mas) : NoXs (mCons ma mas) := fun ρ x e => by
  unfold mCons at e
  cases e1 : ma ρ with
  | fail => rw [e1] at e; cases e
  | exc z => exact h ρ z e1
  | ok d =>
    rw [e1] at e
    cases e2 : mas ρ with
    | fail => simp only [e2] at e; cases e
    | exc z => exact h' ρ z e2
    | ok ds => simp only [e2] at e; cases e
theorem nx_var {i : Nat} : NoX (mVar i) := fun ρ x e => by
  unfold mVar at e
  split at e <;> cases e
theorem nx_c {d : D} : NoX (mC d) := fun ρ x e => by cases e
theorem nx_bin {f : D → D → Option D} (h : NoX ma) (h' : NoX mb) : NoX (mBin f ma mb) := fun ρ x e => by
  unfold mBin at e
  cases e1 : ma ρ with
  | fail => rw [e1] at e; cases e
  | exc z => exact h ρ z e1
  | ok d =>
    rw [e1] at e
    cases e2 : mb ρ with
    | fail => simp only [e2] at e; cases e
    | exc z => exact h' ρ z e2
    | ok d2 =>
      simp only [e2] at e
      split at e <;> cases e
theorem nx_un {f : D → Option D} (h : NoX ma) : NoX (mUn f ma) := fun ρ x e => by
  unfold mUn at e
  cases e1 : ma ρ with
  | fail => rw [e1] at e; cases e
  | exc z => exact h ρ z e1
  | ok d =>
    simp only [e1] at e
    split at e <;> cases e
theorem nx_args {f : List D → Option D} (h : NoXs mas) : NoX (mArgs f mas) := fun ρ x e => by
  unfold mArgs at e
  cases e1 : mas ρ with
  | fail => rw [e1] at e; cases e
  | exc z => exact h ρ z e1
  | ok d =>
    simp only [e1] at e
    split at e <;> cases e
theorem nx_meth {ty : D → Bool} {f : D → List D → Option D} (h : NoX ma) (h' : NoXs mas) : NoX (mMeth ty f ma mas) := fun ρ x e => by
  unfold mMeth at e
  cases e1 : ma ρ with
  | fail => rw [e1] at e; cases e
  | exc z => exact h ρ z e1
  | ok d =>
    simp only [e1] at e
    split at e
    · cases e2 : mas ρ with
      | fail => simp only [e2] at e; cases e
      | exc z => exact h' ρ z e2
      | ok d2 =>
        simp only [e2] at e
        split at e <;> cases e
    · cases e
theorem ve_bm {T id : String} {ty : D → Bool} {name : Str} {r : V → List V → Hp → VK → Prop} {f : D → List D → Option D} {o : Expr} {apos cpos : Pos} (pa : PlainAttrs T) (slot : Slot T name id) (hty : typeOf (.builtin id) = pure (.type "method_descriptor")) (hm : MtR X id r) (ht : TyOk X.K T ty) (hr : MOk X.K T r f sh)
    (ho : VE X W Γ o .s m) (ha : VA X W Γ (e :: es) mas)
    (hbase : attributeBase o name X.env (eval o X.env) = eval o X.env := by rfl)
    (hfew : ((backTo cpos (starEach (e :: es) X.env)).all (fun x => !x.1) && (backToKw cpos (keywordEach [] X.env)).all (fun x => x.1.isSome)
      && decide ((e :: es).length + ([] : List Keyword).length + (if ([] : List Keyword).isEmpty then 0 else 1) < 30)) = true := by rfl)
    (hline : (apos.endLine == cpos.line) = true := by rfl) (hs : starEach (e :: es) X.env = (false, eval e X.env) :: starEach es X.env := by rfl) (hplain : (backTo cpos (starEach es X.env)).any (·.1) = false := by rfl) :
    VE X W Γ (.Call (.Attribute o name apos) (e :: es) [] cpos) sh (mMeth ty f m mas) :=
  peImp (pe_bm pa slot hty hm ho ha hbase hfew hline hs hplain) fun _ _ _ h => meth_ok ht hr h
theorem ve_bm0 {T id : String} {ty : D → Bool} {name : Str} {r : V → List V → Hp → VK → Prop} {f : D → List D → Option D} {o : Expr} {apos cpos : Pos} (pa : PlainAttrs T) (slot : Slot T name id) (hty : typeOf (.builtin id) = pure (.type "method_descriptor")) (hm : MtR X id r) (ht : TyOk X.K T ty) (hr : MOk X.K T r f sh)
    (ho : VE X W Γ o .s m) (hbase : attributeBase o name X.env (eval o X.env) = eval o X.env := by rfl) (hline : (apos.endLine == cpos.line) = true := by rfl) : VE X W Γ (.Call (.Attribute o name apos) [] [] cpos) sh (mMeth ty f m mNil) :=
  peImp (pe_bm0 pa slot hty hm ho hbase hline) fun σ H Q h => by
    obtain ⟨ρ, g, S, A, rel, q⟩ := meth_ok ht hr h
    refine ⟨ρ, g, S, A, rel, ?_⟩
    cases e1 : m ρ with
    | fail => rw [e1] at q; exact q
    | exc x => rw [e1] at q; exact q
    | ok dx =>
      rw [e1] at q
      intro x S1 H1 B1 w1 o1 n1 f1
      obtain ⟨t1, t2⟩ := q x S1 H1 B1 w1 o1 n1 f1
      refine ⟨t1, ?_⟩
      obtain ⟨ρ', g', S', A', r', q'⟩ := t2
      exact q' [] S' H1 (.rfl' r'.sH) rfl

/-! ### and, or, not as values; a if t else b; a < b < c -/
def mAndV (a b : ME) : ME := fun ρ => match a ρ with
  | .ok (.bl true) => b ρ
  | .ok (.bl false) => .ok (.bl false)
  | .exc x => .exc x
  | _ => .fail
def mOrV (a b : ME) : ME := fun ρ => match a ρ with
  | .ok (.bl false) => b ρ
  | .ok (.bl true) => .ok (.bl true)
  | .exc x => .exc x
  | _ => .fail
def dNot : D → Option D
  | .bl b => some (.bl (!b))
  | _ => none
theorem ve_one {op} (h : VE X W Γ a .s m) : VE X W Γ (.BoolOp op [a] pos) .s m := pe_one h
theorem ve_and (ha : VE X W Γ a .s ma) (hb : VE X W Γ (.BoolOp .And (b :: rest) pos) .s mb) : VE X W Γ (.BoolOp .And (a :: b :: rest) pos) .s (mAndV ma mb) := peImp (pe_and ha hb) fun σ H Q ⟨ρ, g, S, A, rel, q⟩ => by
  unfold mAndV at q
  refine ⟨ρ, g, S, A, rel, ?_⟩
  cases e1 : ma ρ with
  | fail => rw [e1] at q; exact q
  | exc x => rw [e1] at q; exact q
  | ok dx =>
    rw [e1] at q
    intro x S1 H1 B1 w1 ⟨_, p1⟩ _ _
    have r1 := rel.grow w1
    cases dx with
    | bl k =>
      refine ⟨k, p1, ?_⟩
      cases k with
      | false => exact iteF (Gr.same (Gr.trans w1 q) r1.sH (v := .bl false) rfl)
      | true =>
        refine iteT ⟨ρ, g, S1, A, r1, ?_⟩
        cases e2 : mb ρ with
        | fail => simp only [e2] at q
        | exc z => simp only [e2] at q; exact Thrown.trans w1 q
        | ok b => simp only [e2] at q; exact Gr.trans w1 q
    | _ => exact q.elim
theorem ve_or (ha : VE X W Γ a .s ma) (hb : VE X W Γ (.BoolOp .Or (b :: rest) pos) .s mb) : VE X W Γ (.BoolOp .Or (a :: b :: rest) pos) .s (mOrV ma mb) := peImp (pe_or ha hb) fun σ H Q ⟨ρ, g, S, A, rel, q⟩ => by
  unfold mOrV at q
  refine ⟨ρ, g, S, A, rel, ?_⟩
  cases e1 : ma ρ with
  | fail => rw [e1] at q; exact q
  | exc x => rw [e1] at q; exact q
  | ok dx =>
    rw [e1] at q
    intro x S1 H1 B1 w1 ⟨_, p1⟩ _ _
    have r1 := rel.grow w1
    cases dx with
    | bl k =>
      refine ⟨k, p1, ?_⟩
      cases k with
      | true => exact iteT (Gr.same (Gr.trans w1 q) r1.sH (v := .bl true) rfl)
      | false =>
        refine iteF ⟨ρ, g, S1, A, r1, ?_⟩
        cases e2 : mb ρ with
        | fail => simp only [e2] at q
        | exc z => simp only [e2] at q; exact Thrown.trans w1 q
        | ok b => simp only [e2] at q; exact Gr.trans w1 q
    | _ => exact q.elim
theorem ve_not (ha : VE X W Γ a .s ma) : VE X W Γ (.UnaryOp .Not a pos) .s (mUn dNot ma) := peImp (pe_not ha) fun σ H Q h =>
  un_ok (r := fun x H1 Q => ∃ c, x = .bl c ∧ Q (.bl (!c)) H1) (fun S H dx x d Q sH p e gr => by
    cases dx with
    | bl b => cases e; exact ⟨b, p, gr.same sH rfl⟩
    | _ => cases e) h
def mIfE (t : Env → R Bool) (a b : ME) : ME := fun ρ => match t ρ with
  | .ok true => a ρ
  | .ok false => b ρ
  | .exc x => .exc x
  | .fail => .fail
theorem ve_ifE (ht : VT X W Γ c tA) (ha : VE X W Γ a sh ma) (hb : VE X W Γ b sh mb) : VE X W Γ (.IfExp c a b pos) sh (mIfE tA ma mb) := peImp (pe_ifExp ht ha hb) fun σ H Q ⟨ρ, g, S, A, rel, q⟩ => by
  unfold mIfE at q
  refine ⟨ρ, g, S, A, rel, ?_⟩
  cases e1 : tA ρ with
  | fail => rw [e1] at q; exact q
  | exc x => rw [e1] at q; exact q
  | ok k =>
    rw [e1] at q
    intro S1 H1 w1
    have r1 := rel.grow w1
    cases k with
    | true =>
      refine iteT ⟨ρ, g, S1, A, r1, ?_⟩
      cases e2 : ma ρ with
      | fail => simp only [e2] at q
      | exc z => simp only [e2] at q; exact Thrown.trans w1 q
      | ok b => simp only [e2] at q; exact Gr.trans w1 q
    | false =>
      refine iteF ⟨ρ, g, S1, A, r1, ?_⟩
      cases e2 : mb ρ with
      | fail => simp only [e2] at q
      | exc z => simp only [e2] at q; exact Thrown.trans w1 q
      | ok b => simp only [e2] at q; exact Gr.trans w1 q
def mChain (f f' : D → D → Option D) (a b c : ME) : ME := fun ρ => match a ρ with
  | .fail => .fail
  | .exc x => .exc x
  | .ok x => match b ρ with
    | .fail => .fail
    | .exc x => .exc x
    | .ok y => match f x y with
      | some (.bl true) => (match c ρ with
        | .fail => .fail
        | .exc x => .exc x
        | .ok z => match f' y z with
          | some d => .ok d
          | none => .fail)
      | some (.bl false) => .ok (.bl false)
      | _ => .fail
theorem chain_ok {r r' : R2} {f f' : D → D → Option D} (hr : ROk X.K r f .s) (hr' : ROk X.K r' f' .s) {σ : L2.St} {H : Hp} {Q : VK} (h : tV X.K W Γ .s (mChain f f' ma mb mc) σ H Q) : tChain r r' (tV X.K W Γ .s ma) (tV X.K W Γ .s mb) (tV X.K W Γ .s mc) σ H Q := by
  obtain ⟨ρ, g, S, A, rel, q⟩ := h
  unfold mChain at q
  refine ⟨ρ, g, S, A, rel, ?_⟩
  cases e1 : ma ρ with
  | fail => rw [e1] at q; exact q
  | exc x => rw [e1] at q; exact q
  | ok dx =>
    rw [e1] at q
    intro x S1 H1 B1 w1 ⟨_, p1⟩ _ _
    have r1 := rel.grow w1
    refine ⟨ρ, g, S1, A, r1, ?_⟩
    cases e2 : mb ρ with
    | fail => simp only [e2] at q
    | exc z => simp only [e2] at q; exact Thrown.trans w1 q
    | ok dy =>
      simp only [e2] at q
      intro y S2 H2 B2 w2 ⟨_, p2⟩ _ _
      have r2 := r1.grow w2
      cases e3 : f dx dy with
      | none => simp only [e3] at q
      | some dd =>
        simp only [e3] at q
        cases dd with
        | bl k =>
          refine hr S2 H2 dx dy x y (.bl k) _ r2.sH (p1.mono w2.e) p2 e3 (fun v S3 H3 B3 w3 ⟨_, p3⟩ _ _ => ?_)
          have r3 := r2.grow w3
          have w123 := (w1.trans w2).trans w3
          refine ⟨k, p3, ?_⟩
          cases k with
          | false => exact iteF (Gr.same (Gr.trans w123 q) r3.sH (v := .bl false) rfl)
          | true =>
            refine iteT ⟨ρ, g, S3, A, r3, ?_⟩
            cases e4 : mc ρ with
            | fail => simp only [e4] at q
            | exc z => simp only [e4] at q; exact Thrown.trans w123 q
            | ok dz =>
              simp only [e4] at q
              intro z S4 H4 B4 w4 ⟨_, p4⟩ _ _
              cases e5 : f' dy dz with
              | none => simp only [e5] at q
              | some d5 =>
                simp only [e5] at q
                exact hr' S4 H4 dy dz y z d5 Q w4.sH (p2.mono (exTrans w3.e w4.e)) p4 e5 (Gr.trans (w123.trans w4) q)
        | _ => exact q.elim
theorem ve_chain {op op' : CmpOp} {r r' : R2} {f f' : D → D → Option D} (ho : OpR X (compareOp op) r) (hr : ROk X.K r f .s) (ho' : OpR X (compareOp op') r') (hr' : ROk X.K r' f' .s) (ha : VE X W Γ a .s ma) (hb : VE X W Γ b .s mb) (hc : VE X W Γ c .s mc)
    (hm : lastMarks [op, op'] [b, c] = false := by with_unfolding_all rfl) : VE X W Γ (.Compare a [op, op'] [b, c] pos) .s (mChain f f' ma mb mc) := peImp (pe_chain ho ho' ha hb hc hm) fun _ _ _ h => chain_ok hr hr' h
theorem vt_chain {op op' : CmpOp} {r r' : R2} {f f' : D → D → Option D} (ho : OpR X (compareOp op) r) (hr : ROk X.K r f .s) (ho' : OpR X (compareOp op') r') (hr' : ROk X.K r' f' .s) (ha : VE X W Γ a .s ma) (hb : VE X W Γ b .s mb) (hc : VE X W Γ c .s mc)
    (hm : lastMarks [op, op'] [b, c] = false := by with_unfolding_all rfl) : VT X W Γ (.Compare a [op, op'] [b, c] pos) (mTest dBool (mChain f f' ma mb mc)) := ptImp (pt_chain ho ho' ha hb hc hm) fun σ H Q h => by
  obtain ⟨ρ, g, S, A, rel, q⟩ := test_ok h
  exact chain_ok hr hr' ⟨ρ, g, S, A, rel, q⟩

/-! ### slices -/
def mSl (f : D → Option Int → Option Int → Option D) (a : ME) (l h : Env → R (Option Int)) : ME := fun ρ => match a ρ with
  | .fail => .fail
  | .exc x => .exc x
  | .ok x => match l ρ with
    | .fail => .fail
    | .exc x => .exc x
    | .ok lo => match h ρ with
      | .fail => .fail
      | .exc x => .exc x
      | .ok hi => match f x lo hi with
        | some d => .ok d
        | none => .fail
def mNoP : Env → R (Option Int) := fun _ => .ok none
def mPart (a : ME) : Env → R (Option Int) := fun ρ => match a ρ with
  | .exc x => .exc x
  | .ok (.int i) => .ok (some i)
  | _ => .fail
def tVO (K : PySem.W.Frag) (W : Wp) (Γ : List Sh) (m : Env → R (Option Int)) : TO := fun σ H Q => ∃ ρ g S A, Rel K W.p g Γ ρ σ S H A ∧ match m ρ with
  | .fail => False
  | .ok o => ∀ S' H', Gw S H S' H' → Q o H'
  | .exc x => Thrown K W σ S H x
abbrev VO (X : Cx) (W : Wp) (Γ : List Sh) (o : Option Expr) (m : Env → R (Option Int)) : Prop := PO X o (tVO X.K W Γ m)
theorem poImp {o : Option Expr} {t t' : TO} (h : PO X o t) (f : ∀ σ H Q, t' σ H Q → t σ H Q) : PO X o t' := ⟨fun pins s σ H Q I q => h.run pins s σ H Q I (f σ H Q q)⟩
theorem vo_none : VO X W Γ none mNoP := poImp po_none fun σ H Q ⟨ρ, g, S, A, rel, q⟩ => q S H (.rfl' rel.sH)
theorem vo_some (h : VE X W Γ e .s m) : VO X W Γ (some e) (mPart m) := poImp (po_some h) fun σ H Q ⟨ρ, g, S, A, rel, q⟩ => by
  unfold mPart at q
  refine ⟨ρ, g, S, A, rel, ?_⟩
  cases e1 : m ρ with
  | fail => rw [e1] at q; exact q
  | exc x => rw [e1] at q; exact q
  | ok dx =>
    rw [e1] at q
    intro x S1 H1 B1 w1 ⟨_, p1⟩ _ _
    have r1 := rel.grow w1
    cases dx with
    | int i => exact ⟨i, p1, q S1 H1 w1⟩
    | _ => exact q.elim
def SOk (K : PySem.W.Frag) (r : V → Option Int → Option Int → Hp → VK → Prop) (f : D → Option Int → Option Int → Option D) (sh : Sh) : Prop := ∀ S H dx x lo hi d Q, Ex S H → Rep K S dx x → f dx lo hi = some d → Gr K S H sh d Q → r x lo hi H Q
theorem ve_sl {r : V → Option Int → Option Int → Hp → VK → Prop} {f : D → Option Int → Option Int → Option D} {lo hi : Option Expr} {ml mh : Env → R (Option Int)} {p2 : Pos} (hs : SlR X r) (hr : SOk X.K r f sh) (ha : VE X W Γ a .s ma) (hl : VO X W Γ lo ml) (hh : VO X W Γ hi mh) :
    VE X W Γ (.Subscript a (.Slice lo hi none p2) pos) sh (mSl f ma ml mh) := peImp (pe_slice hs ha hl hh) fun σ H Q ⟨ρ, g, S, A, rel, q⟩ => by
  unfold mSl at q
  refine ⟨ρ, g, S, A, rel, ?_⟩
  cases e1 : ma ρ with
  | fail => rw [e1] at q; exact q
  | exc x => rw [e1] at q; exact q
  | ok dx =>
    rw [e1] at q
    intro x S1 H1 B1 w1 ⟨_, p1⟩ _ _
    have r1 := rel.grow w1
    refine ⟨ρ, g, S1, A, r1, ?_⟩
    cases e2 : ml ρ with
    | fail => simp only [e2] at q
    | exc z => simp only [e2] at q; exact Thrown.trans w1 q
    | ok l =>
      simp only [e2] at q
      intro S2 H2 w2
      have r2 := r1.grow w2
      refine ⟨ρ, g, S2, A, r2, ?_⟩
      cases e3 : mh ρ with
      | fail => simp only [e3] at q
      | exc z => simp only [e3] at q; exact Thrown.trans (w1.trans w2) q
      | ok h =>
        simp only [e3] at q
        intro S3 H3 w3
        cases e4 : f dx l h with
        | none => simp only [e4] at q
        | some dd =>
          simp only [e4] at q
          exact hr S3 H3 dx x l h dd Q w3.sH (p1.mono (exTrans w2.e w3.e)) e4 (Gr.trans ((w1.trans w2).trans w3) q)
end
end VL

namespace VL
open PySem PySem.Spec PyProof.Rows L2
open Evl (Ex)
/-- what a body is in: what is wanted of exceptions, how its value is handed back, which ways of holding its slots may have at the end, how many slots are lent -/
structure Cfg where
  w : Wp
  rs : Sh
  Cr : List Sh → Prop
  Cx : List Sh → Prop
section
variable (K : PySem.W.Frag) (c : Cfg)
def Post (g : Gh) (Γ' Γl : List Sh) (S : Hp) (D : Ends) : O → Prop
  | .fail => False
  | .nx ρ' => ∀ σ' S' H' A', Rel K c.w.p g Γ' ρ' σ' S' H' A' → Ex S S' → D.nx σ' H'
  | .rt d ρ' => ∀ v σ' S' H' A' A1 Γ'', c.Cr Γ'' → Rel K c.w.p g Γ'' ρ' σ' S' H' A' → Ex S S' → Own K S' H' c.rs d v A1 → (A1 ++ A').Nodup → (∀ a ∈ A1, S' a = none ∧ g.B a = none) → D.rt v H'
  | .bk ρ' => ∀ σ' S' H' A', Rel K c.w.p g Γl ρ' σ' S' H' A' → Ex S S' → D.bk σ' H'
  | .ct ρ' => ∀ σ' S' H' A', Rel K c.w.p g Γl ρ' σ' S' H' A' → Ex S S' → D.ct σ' H'
  | .ex x ρ' => ∀ cc dd σ' S' H' A' Γ'', c.Cx Γ'' → Rel K c.w.p g Γ'' ρ' σ' S' H' A' → Ex S S' → ExcIs K S' x cc dd → c.w.W cc dd σ' H'
def tVs (Γ Γ' Γl : List Sh) (M : MS) : TS := fun D σ H => ∃ ρ g S A, Rel K c.w.p g Γ ρ σ S H A ∧ Post K c g Γ' Γl S D (M ρ)
def tVI (W : Wp) (Γ : List Sh) (Yl : It → Hp → List D → Prop) (m : Env → R (List D)) : TI := fun σ H R => ∃ ρ g S A, Rel K W.p g Γ ρ σ S H A ∧ match m ρ with
  | .fail => False
  | .ok ds => ∀ J S' H', Gw S H S' H' → Yl J S' ds → R J H'
  | .exc x => Thrown K W σ S H x
/-- J gives out ds, whatever is made meanwhile -/
structure Yields (J : It) (S0 : Hp) (ds : List D) : Prop where
  go : ∀ i S H, Ex S0 S → Ex S H → i < ds.length → J.go i H
  stop : ∀ i S H, Ex S0 S → Ex S H → i = ds.length → J.stop i H
  yld : ∀ i S H x H' d, Ex S0 S → Ex S H → J.yld i H x H' → ds[i]? = some d → ∃ S', Gw S H S' H' ∧ Rep K S' d x
/-- the slots ix are given d -/
def tVG (p : Nat) (Γ : List Sh) (ix : List Nat) (tgt : D → Env → Option Env) : TG := fun v σ H Q => ∃ ρ g S A d, Rel K p g Γ ρ σ S H A ∧ Rep K S d v ∧ match tgt d ρ with
  | none => False
  | some ρ' => ∀ σ' A', Rel K p g Γ ρ' σ' S H A' → wipe σ' ix = wipe σ ix → Q σ' H
end
abbrev VS (X : Cx) (c : Cfg) (Γ Γ' Γl : List Sh) (st : Stmt) (M : MS) : Prop := PS X st (tVs X.K c Γ Γ' Γl M)
abbrev VSs (X : Cx) (c : Cfg) (Γ Γ' Γl : List Sh) (sts : List Stmt) (M : MS) : Prop := PSs X sts (tVs X.K c Γ Γ' Γl M)
abbrev VI (X : Cx) (W : Wp) (Γ : List Sh) (tg it : Expr) (m : Env → R (List D)) : Prop := PI X tg it (tVI X.K W Γ (Yields X.K) m)
abbrev VG (X : Cx) (p : Nat) (Γ : List Sh) (ix : List Nat) (tg : Expr) (tgt : D → Env → Option Env) : Prop := PG X tg (tVG X.K p Γ ix tgt)

section
variable {K : PySem.W.Frag} {c : Cfg} {p : Nat} {g : Gh} {Γ Γ' Γl : List Sh} {ρ : Env} {σ : L2.St} {S S' S1 H H' : Hp} {A : List Addr} {D : Ends} {o : O}
theorem Post.trans (e : Ex S S1) (h : Post K c g Γ' Γl S D o) : Post K c g Γ' Γl S1 D o := by
  cases o with
  | fail => exact h
  | nx ρ' => exact fun σ' S' H' A' r e' => h σ' S' H' A' r (exTrans e e')
  | rt d ρ' => exact fun v σ' S' H' A' A1 Γ'' c1 r e' => h v σ' S' H' A' A1 Γ'' c1 r (exTrans e e')
  | bk ρ' => exact fun σ' S' H' A' r e' => h σ' S' H' A' r (exTrans e e')
  | ct ρ' => exact fun σ' S' H' A' r e' => h σ' S' H' A' r (exTrans e e')
  | ex x ρ' => exact fun cc dd σ' S' H' A' Γ'' c1 r e' => h cc dd σ' S' H' A' Γ'' c1 r (exTrans e e')
theorem Post.thrown {x : Exn} (r : Rel K c.w.p g Γ ρ σ S H A) (h : Post K c g Γ' Γl S D (.ex x ρ)) (hc : c.Cx Γ) : Thrown K c.w σ S H x := fun cc dd S' H' w i => h cc dd σ S' H' A Γ hc (r.grow w) w.e i
/-- a slot is given a value -/
theorem Rel.set {sh : Sh} {d : VL.D} {v : V} {A1 : List Addr} (r : Rel K p g Γ ρ σ S H A) (o : Own K S H sh d v A1) (nd : (A1 ++ A).Nodup) (fr : ∀ a ∈ A1, S a = none ∧ g.B a = none) {i : Nat} (hi : i < Γ.length) (hp : p ≤ i) : ∃ A', Rel K p g (Γ.set i sh) (ρ.set i (some d)) (σ.set i (some v)) S H A' := by
  obtain ⟨P, A0, Q, q1, q2, q3, q4, q5, q6⟩ := r.slots.at_ (i := i) (List.getElem?_eq_getElem hi)
  refine ⟨P ++ (A1 ++ Q), q5 S H sh d v A1 Ex.rfl' (fun _ _ => rfl) o, ?_, fun a ha => ?_, r.sH, r.bH, r.s0, r.nw, fun j w hj => ?_, r.pl⟩
  · rw [q1] at nd
    simp only [List.nodup_append, List.mem_append] at nd ⊢
    obtain ⟨n1, ⟨n2, ⟨n3, n4, n5⟩, n6⟩, n7⟩ := nd
    refine ⟨n2, ⟨n1, n4, fun a ha b hb => n7 a ha b (.inr (.inr hb))⟩, fun a ha b hb => ?_⟩
    rcases hb with hb | hb
    · exact fun z => n7 b hb a (.inl ha) z.symm
    · exact n6 a ha b (.inr hb)
  · have h1 := fun z => r.fr a z
    rw [q1] at h1
    simp only [List.mem_append] at ha h1
    rcases ha with z | z | z
    · exact h1 (.inl z)
    · exact fr a z
    · exact h1 (.inr (.inr z))
  · rw [List.getElem?_set_ne]
    · exact r.par j w hj
    · have : j < g.vp.length := by
        rw [List.getElem?_eq_some_iff] at hj
        exact hj.1
      have := r.pl
      omega
/-- what a slot holds is given to all -/
theorem Rel.freeze (r : Rel K p g Γ ρ σ S H A) (i : Nat) : ∃ S' A', Rel K p g (Γ.set i .s) ρ σ S' H A' ∧ Ex S S' := by
  by_cases hi : i < Γ.length
  · obtain ⟨P, A0, Q, q1, q2, q3, q4, q5, q6⟩ := r.slots.at_ (i := i) (List.getElem?_eq_getElem hi)
    cases e : ρ[i]? with
    | none =>
      rw [List.getElem?_eq_none_iff] at e
      omega
    | some od =>
      have hnd := r.nd
      have hfr := r.fr
      rw [q1] at hnd hfr
      simp only [List.nodup_append, List.mem_append] at hnd hfr
      obtain ⟨n1, ⟨n2, n3, n4⟩, n5⟩ := hnd
      have nd' : (P ++ Q).Nodup := by
        rw [List.nodup_append]
        exact ⟨n1, n3, fun a ha b hb => n5 a ha b (.inr hb)⟩
      cases od with
      | none =>
        have hσ : σ[i]? = some σ[i] := List.getElem?_eq_getElem q3
        have z := q6 S H .s σ[i] Ex.rfl' (fun _ _ => rfl)
        have e1 : ρ.set i none = ρ := by
          apply List.ext_getElem?
          intro j
          by_cases hj : i = j
          · subst hj; rw [List.getElem?_set_self q2, e]
          · rw [List.getElem?_set_ne hj]
        have e2 : σ.set i σ[i] = σ := by simp
        rw [e1, e2] at z
        refine ⟨S, P ++ Q, ⟨z, nd', fun a ha => ?_, r.sH, r.bH, r.s0, r.nw, r.par, r.pl⟩, Ex.rfl'⟩
        rcases List.mem_append.mp ha with y | y
        · exact hfr a (.inl y)
        · exact hfr a (.inr (.inr y))
      | some d =>
        obtain ⟨v, hv, ow⟩ := q4 d e
        have ee : Ex S (VL.frz S H A0) := frz_ex fun a ha => (hfr a (.inr (.inl ha))).1
        have z := q5 (VL.frz S H A0) H .s d v [] ee (fun _ _ => rfl) ⟨rfl, ow.frz ee fun _ y => y⟩
        have e1 : ρ.set i (some d) = ρ := by
          apply List.ext_getElem?
          intro j
          by_cases hj : i = j
          · subst hj; rw [List.getElem?_set_self q2, e]
          · rw [List.getElem?_set_ne hj]
        have e2 : σ.set i (some v) = σ := by
          apply List.ext_getElem?
          intro j
          by_cases hj : i = j
          · subst hj; rw [List.getElem?_set_self q3, hv]
          · rw [List.getElem?_set_ne hj]
        rw [e1, e2] at z
        refine ⟨VL.frz S H A0, P ++ ([] ++ Q), ⟨z, by simpa using nd', fun a ha => ?_, frz_sub r.sH, r.bH, exTrans r.s0 ee, fun a o y => ?_, r.par, r.pl⟩, ee⟩
        · have ha' : a ∈ P ∨ a ∈ Q := by simpa using ha
          have na : a ∉ A0 := fun y => by
            rcases ha' with w | w
            · exact n5 a w a (.inl y) rfl
            · exact n4 a y a w rfl
          rw [frz_out na]
          rcases ha' with w | w
          · exact hfr a (.inl w)
          · exact hfr a (.inr (.inr w))
        · by_cases w : a ∈ A0
          · exact .inr (hfr a (.inr (.inl w))).2
          · rw [frz_out w] at y
            exact r.nw a o y
  · have e : Γ.set i .s = Γ := by
      rw [List.set_eq_of_length_le]
      omega
    rw [e]
    exact ⟨S, A, r, Ex.rfl'⟩
end

section
variable {X : Cx} {c : Cfg} {Γ Γ1 Γ2 Γ' Γl : List Sh} {st : Stmt} {rest sts sts' : List Stmt} {M M1 M2 : MS} {e : Expr} {m : ME} {pos : Pos} {sh : Sh} {t : Env → R Bool}
/-! ### rules: statements -/
def sNext : MS := fun ρ => .nx ρ
def sSeq (a b : MS) : MS := fun ρ => match a ρ with
  | .nx ρ' => b ρ'
  | o => o
theorem vss_nil : VSs X c Γ Γ Γl [] sNext := pssImp pss_nil fun D σ H ⟨ρ, g, S, A, r, q⟩ => q σ S H A r Ex.rfl'
theorem seq_ok {K : PySem.W.Frag} {D : Ends} {σ : L2.St} {H : Hp} (h : tVs K c Γ Γ2 Γl (sSeq M1 M2) D σ H) : tSeq (tVs K c Γ Γ1 Γl M1) (tVs K c Γ1 Γ2 Γl M2) D σ H := by
  obtain ⟨ρ, g, S, A, r, q⟩ := h
  unfold sSeq at q
  refine ⟨ρ, g, S, A, r, ?_⟩
  cases e1 : M1 ρ with
  | nx ρ' =>
    rw [e1] at q
    exact fun σ' S' H' A' r' e' => ⟨ρ', g, S', A', r', Post.trans e' q⟩
  | fail => rw [e1] at q; exact q
  | rt d ρ' => rw [e1] at q; exact q
  | bk ρ' => rw [e1] at q; exact q
  | ct ρ' => rw [e1] at q; exact q
  | ex x ρ' => rw [e1] at q; exact q
theorem vss_cons (h1 : VS X c Γ Γ1 Γl st M1) (h2 : VSs X c Γ1 Γ2 Γl rest M2) : VSs X c Γ Γ2 Γl (st :: rest) (sSeq M1 M2) := pssImp (pss_cons h1 h2) fun _ _ _ h => seq_ok h
theorem vss_one (h1 : VS X c Γ Γ1 Γl st M) : VSs X c Γ Γ1 Γl [st] M := pss_one h1
/-- from here on the slot i is shared -/
theorem vss_frz (i : Nat) (h : VSs X c (Γ.set i .s) Γ' Γl sts M) : VSs X c Γ Γ' Γl sts M := pssImp h fun D σ H ⟨ρ, g, S, A, r, q⟩ => by
  obtain ⟨S', A', r', e'⟩ := r.freeze i
  exact ⟨ρ, g, S', A', r', q.trans e'⟩
theorem vs_frz (i : Nat) (h : VS X c (Γ.set i .s) Γ' Γl st M) : VS X c Γ Γ' Γl st M := psImp h fun D σ H ⟨ρ, g, S, A, r, q⟩ => by
  obtain ⟨S', A', r', e'⟩ := r.freeze i
  exact ⟨ρ, g, S', A', r', q.trans e'⟩
/-- .. at the end of a block -/
theorem vss_end (i : Nat) (h : VSs X c Γ Γ' Γl sts M) : VSs X c Γ (Γ'.set i .s) Γl sts M := pssImp h fun D σ H ⟨ρ, g, S, A, r, q⟩ => by
  refine ⟨ρ, g, S, A, r, ?_⟩
  cases e1 : M ρ with
  | nx ρ' =>
    rw [e1] at q
    intro σ' S' H' A' r' e'
    obtain ⟨S2, A2, r2, e2⟩ := r'.freeze i
    exact q σ' S2 H' A2 r2 (exTrans e' e2)
  | fail => rw [e1] at q; exact q
  | rt d ρ' => rw [e1] at q; exact q
  | bk ρ' => rw [e1] at q; exact q
  | ct ρ' => rw [e1] at q; exact q
  | ex x ρ' => rw [e1] at q; exact q
def sAsg (i : Nat) (m : ME) : MS := fun ρ => match m ρ with
  | .fail => .fail
  | .exc x => .ex x ρ
  | .ok d => .nx (ρ.set i (some d))
theorem vs_asg (i : Nat) {x : Str} {pos' : Pos} (hN : X.N.Nodup) (he : VE X c.w Γ e sh m) (hcx : c.Cx Γ) (hi : X.N[i]? = some x := by rfl) (hx : Loc X.env.scope x := by first | exact .inl rfl | exact .inr rfl) (hl : i < Γ.length := by decide) (hp : c.w.p ≤ i := by exact Nat.le_of_ble_eq_true rfl)
    (hs : swapsWith e (some (.Name x pos')) pos.line X.env = pure false := by rfl) (hf : X.fn x = true ∨ X.env.scope.names.lookup x = some .local := by first | exact .inl rfl | exact .inr rfl) :
    VS X c Γ (Γ.set i sh) Γl (.Assign [.Name x pos'] e pos) (sAsg i m) := psImp (ps_set hN hi hx he hs hf) fun D σ H ⟨ρ, g, S, A, r, q⟩ => by
  unfold sAsg at q
  refine ⟨ρ, g, S, A, r, ?_⟩
  cases e1 : m ρ with
  | fail => rw [e1] at q; exact q
  | exc x => rw [e1] at q; exact Post.thrown r q hcx
  | ok d =>
    rw [e1] at q
    intro v S' H' A1 w o nd fr
    have r' := r.grow w
    obtain ⟨nd', fr'⟩ := r.apart nd fr
    obtain ⟨A2, r2⟩ := r'.set o nd' fr' hl hp
    exact q _ S' H' A2 r2 w.e
def sExp (m : ME) : MS := fun ρ => match m ρ with
  | .fail => .fail
  | .exc x => .ex x ρ
  | .ok _ => .nx ρ
theorem vs_exp (he : VE X c.w Γ e sh m) (hcx : c.Cx Γ) (hs : swapsWith e none pos.line X.env = pure false := by rfl) : VS X c Γ Γ Γl (.Expr e pos) (sExp m) := psImp (ps_expr he hs) fun D σ H ⟨ρ, g, S, A, r, q⟩ => by
  unfold sExp at q
  refine ⟨ρ, g, S, A, r, ?_⟩
  cases e1 : m ρ with
  | fail => rw [e1] at q; exact q
  | exc x => rw [e1] at q; exact Post.thrown r q hcx
  | ok d =>
    rw [e1] at q
    intro v S' H' A1 w o nd fr
    exact q _ S' H' A (r.grow w) w.e
def sRet (m : ME) : MS := fun ρ => match m ρ with
  | .fail => .fail
  | .exc x => .ex x ρ
  | .ok d => .rt d ρ
theorem vs_ret (he : VE X c.w Γ e c.rs m) (hcx : c.Cx Γ) (hcr : c.Cr Γ) : VS X c Γ Γ' Γl (.Return (some e) pos) (sRet m) := psImp (ps_ret he) fun D σ H ⟨ρ, g, S, A, r, q⟩ => by
  unfold sRet at q
  refine ⟨ρ, g, S, A, r, ?_⟩
  cases e1 : m ρ with
  | fail => rw [e1] at q; exact q
  | exc x => rw [e1] at q; exact Post.thrown r q hcx
  | ok d =>
    rw [e1] at q
    intro v S' H' A1 w o nd fr
    obtain ⟨nd', fr'⟩ := r.apart nd fr
    exact q v σ S' H' A A1 Γ hcr (r.grow w) w.e o nd' fr'
/-- return x, where the slot i alone holds it -/
def sRetMv (i : Nat) : MS := fun ρ => match ρ[i]? with
  | some (some d) => .rt d (ρ.set i none)
  | _ => .fail
theorem vs_retMv (i : Nat) {x : Str} {pos' : Pos} (hcr : c.Cr Γ) (hN : X.N[i]? = some x := by rfl) (hv : Vis X.env.scope x := by first | exact Or.inl rfl | exact Or.inr (Or.inl rfl) | exact Or.inr (Or.inr rfl)) (hs : Γ[i]? = some c.rs := by rfl) (hp : c.w.p ≤ i := by exact Nat.le_of_ble_eq_true rfl)
    (hd : (x == ("__debug__" : Str)) = false := by decide) (hcd : (x == ("__classdict__" : Str)) = false := by decide) : VS X c Γ Γ' Γl (.Return (some (.Name x pos')) pos) (sRetMv i) := psImp (ps_ret (pe_var hN hv hd hcd)) fun D σ H ⟨ρ, g, S, A, r, q⟩ => by
  unfold sRetMv at q
  obtain ⟨P, A1, Q', q1, q2, q3, q4, _, q6⟩ := r.slots.at_ hs
  cases z : ρ[i]? with
  | none => rw [z] at q; exact q.elim
  | some o =>
    cases o with
    | none => rw [z] at q; exact q.elim
    | some d =>
      rw [z] at q
      obtain ⟨v, hv, ow⟩ := q4 d z
      refine ⟨v, hv, ?_⟩
      have hnd := r.nd
      have hfr := r.fr
      rw [q1] at hnd hfr
      have z6 := q6 S H c.rs (some v) Ex.rfl' (fun _ _ => rfl)
      have e1 : Γ.set i c.rs = Γ := by
        apply List.ext_getElem?
        intro j
        by_cases hj : i = j
        · subst hj
          have hl : i < Γ.length := (List.getElem?_eq_some_iff.mp hs).1
          rw [List.getElem?_set_self hl, hs]
        · rw [List.getElem?_set_ne hj]
      have e2 : σ.set i (some v) = σ := by
        apply List.ext_getElem?
        intro j
        by_cases hj : i = j
        · subst hj; rw [List.getElem?_set_self q3, hv]
        · rw [List.getElem?_set_ne hj]
      rw [e1, e2] at z6
      simp only [List.nodup_append, List.mem_append] at hnd hfr
      obtain ⟨n1, ⟨n2, n3, n4⟩, n5⟩ := hnd
      refine q v σ S H (P ++ Q') A1 Γ hcr ⟨z6, ?_, fun a ha => ?_, r.sH, r.bH, r.s0, r.nw, r.par, r.pl⟩ Ex.rfl' ow ?_ fun a ha => hfr a (.inr (.inl ha))
      · rw [List.nodup_append]
        exact ⟨n1, n3, fun a ha b hb => n5 a ha b (.inr hb)⟩
      · rcases List.mem_append.mp ha with y | y
        · exact hfr a (.inl y)
        · exact hfr a (.inr (.inr y))
      · simp only [List.nodup_append, List.mem_append]
        refine ⟨n2, ⟨n1, n3, fun a ha b hb => n5 a ha b (.inr hb)⟩, fun a ha b hb => ?_⟩
        rcases hb with hb | hb
        · exact fun y => n5 b hb a (.inl ha) y.symm
        · exact n4 a ha b hb
def sRetN : MS := fun ρ => .rt .non ρ
theorem vs_retN (hcr : c.Cr Γ) (hrs : c.rs = .s) : VS X c Γ Γ' Γl (.Return none pos) sRetN := psImp ps_retN fun D σ H ⟨ρ, g, S, A, r, q⟩ =>
  q .non σ S H A [] Γ hcr r Ex.rfl' (by rw [hrs]; exact ⟨rfl, rfl⟩) (by simpa using r.nd) (fun _ z => nomatch z)
theorem vs_pass : VS X c Γ Γ Γl (.Pass pos) sNext := psImp ps_pass fun D σ H ⟨ρ, g, S, A, r, q⟩ => q σ S H A r Ex.rfl'
theorem vs_doc {x j pos pos'} : VS X c Γ Γ Γl (.Expr (.Constant (.str x) j pos) pos') sNext := psImp ps_doc fun D σ H ⟨ρ, g, S, A, r, q⟩ => q σ S H A r Ex.rfl'
def sBreak : MS := fun ρ => .bk ρ
def sCont : MS := fun ρ => .ct ρ
theorem vs_break : VS X c Γ Γ' Γ (.Break pos) sBreak := psImp ps_break fun D σ H ⟨ρ, g, S, A, r, q⟩ => q σ S H A r Ex.rfl'
theorem vs_cont : VS X c Γ Γ' Γ (.Continue pos) sCont := psImp ps_continue fun D σ H ⟨ρ, g, S, A, r, q⟩ => q σ S H A r Ex.rfl'
def sIf (t : Env → R Bool) (a b : MS) : MS := fun ρ => match t ρ with
  | .ok true => a ρ
  | .ok false => b ρ
  | .exc x => .ex x ρ
  | .fail => .fail
theorem vs_if {cc : Expr} (ht : VT X c.w Γ cc t) (ha : VSs X c Γ Γ' Γl sts M1) (hb : VSs X c Γ Γ' Γl sts' M2) (hcx : c.Cx Γ) : VS X c Γ Γ' Γl (.If cc sts sts' pos) (sIf t M1 M2) := psImp (ps_if ht ha hb) fun D σ H ⟨ρ, g, S, A, r, q⟩ => by
  unfold sIf at q
  refine ⟨ρ, g, S, A, r, ?_⟩
  cases e1 : t ρ with
  | fail => rw [e1] at q; exact q
  | exc x => rw [e1] at q; exact Post.thrown r q hcx
  | ok b =>
    rw [e1] at q
    intro S1 H1 w1
    cases b with
    | true => exact iteT ⟨ρ, g, S1, A, r.grow w1, q.trans w1.e⟩
    | false => exact iteF ⟨ρ, g, S1, A, r.grow w1, q.trans w1.e⟩

/-! ### loops -/
def loopD (tgt : D → Env → Option Env) (body : MS) : List D → Env → O
  | [], ρ => .nx ρ
  | d :: ds, ρ => match tgt d ρ with
    | none => .fail
    | some ρ1 => match body ρ1 with
      | .nx ρ2 => loopD tgt body ds ρ2
      | .ct ρ2 => loopD tgt body ds ρ2
      | .bk ρ2 => .nx ρ2
      | .rt d ρ2 => .rt d ρ2
      | .ex x ρ2 => .ex x ρ2
      | .fail => .fail
def sFor (tgt : D → Env → Option Env) (it : Env → R (List D)) (body : MS) : MS := fun ρ => match it ρ with
  | .fail => .fail
  | .exc x => .ex x ρ
  | .ok ds => loopD tgt body ds ρ
theorem vs_for {ix : List Nat} {tg it : Expr} {mi : Env → R (List D)} {tgt : D → Env → Option Env} {body : List Stmt} (hpass : PassesOwn (model X.prog X.w) X.A X.env X.xe) (hc : X.calm = true) (hi : VI X c.w Γ tg it mi) (hg : VG X c.w.p Γ ix tg tgt) (hb : VSs X c Γ Γ Γ body M) (hcx : c.Cx Γ)
    (hs : ∀ x, foldedSetIterable it X.env x = pure x := by intro _; rfl) : VS X c Γ Γ Γl (.For tg it body [] pos) (sFor tgt mi M) := psImp (ps_for hpass hc hi hg hb hs) fun D σ H ⟨ρ, g, S, A, r, q⟩ => by
  unfold sFor at q
  refine ⟨ρ, g, S, A, r, ?_⟩
  cases e1 : mi ρ with
  | fail => rw [e1] at q; exact q
  | exc x => rw [e1] at q; exact Post.thrown r q hcx
  | ok ds =>
    rw [e1] at q
    intro J S1 H1 w1 yl
    have r1 := r.grow w1
    have ex1 := w1.e
    refine ⟨fun i m σ H => m = ds.length - i ∧ i ≤ ds.length ∧ ∃ ρ S A, Rel X.K c.w.p g Γ ρ σ S H A ∧ Ex S1 S ∧ Post X.K c g Γ Γl S D (loopD tgt M (ds.drop i) ρ), ⟨_, rfl, Nat.zero_le _, ρ, S1, A, r1, Ex.rfl', by simpa using q.trans ex1⟩, ?_⟩
    rintro i m σ2 H2 ⟨rfl, hi, ρ2, S2, A2, r2, ex2, q2⟩
    by_cases hlt : i < ds.length
    · refine .inr ⟨yl.go i S2 H2 ex2 r2.sH hlt, fun σ' H' => ∃ ρ S A, Rel X.K c.w.p g Γ ρ σ' S H' A ∧ Ex S1 S ∧ Post X.K c g Γ Γl S D (loopD tgt M (ds.drop (i + 1)) ρ), fun σ' H' h => ⟨_, by omega, rfl, hlt, h⟩, fun x H' y => ?_⟩
      obtain ⟨S3, w3, rp⟩ := yl.yld i S2 H2 x H' ds[i] ex2 r2.sH y (List.getElem?_eq_getElem hlt)
      have r3 := r2.grow w3
      refine ⟨ρ2, g, S3, A2, ds[i], r3, rp, ?_⟩
      rw [List.drop_eq_getElem_cons hlt] at q2
      unfold loopD at q2
      cases e4 : tgt ds[i] ρ2 with
      | none => rw [e4] at q2; exact q2
      | some ρ3 =>
        simp only [e4] at q2
        intro σ4 A4 r4 _
        have ex24 : Ex S2 S3 := w3.e
        refine ⟨ρ3, g, S3, A4, r4, ?_⟩
        cases e5 : M ρ3 with
        | fail => simp only [e5] at q2; exact q2
        | nx ρ5 => simp only [e5] at q2; exact fun σ' S' H' A' r' e' => ⟨ρ5, S', A', r', exTrans ex2 (exTrans ex24 e'), q2.trans (exTrans ex24 e')⟩
        | ct ρ5 => simp only [e5] at q2; exact fun σ' S' H' A' r' e' => ⟨ρ5, S', A', r', exTrans ex2 (exTrans ex24 e'), q2.trans (exTrans ex24 e')⟩
        | bk ρ5 => simp only [e5] at q2; exact fun σ' S' H' A' r' e' => q2 σ' S' H' A' r' (exTrans ex24 e')
        | rt d ρ5 => simp only [e5] at q2; exact q2.trans ex24
        | ex x ρ5 => simp only [e5] at q2; exact q2.trans ex24
    · have e : i = ds.length := by omega
      subst e
      rw [List.drop_length] at q2
      exact .inl ⟨yl.stop _ S2 H2 ex2 r2.sH rfl, q2 σ2 S2 H2 A2 r2 Ex.rfl'⟩
def whileN (t : Env → R Bool) (body : MS) : Nat → Env → O
  | 0, _ => .fail
  | n + 1, ρ => match t ρ with
    | .fail => .fail
    | .exc x => .ex x ρ
    | .ok false => .nx ρ
    | .ok true => match body ρ with
      | .nx ρ2 => whileN t body n ρ2
      | .ct ρ2 => whileN t body n ρ2
      | .bk ρ2 => .nx ρ2
      | .rt d ρ2 => .rt d ρ2
      | .ex x ρ2 => .ex x ρ2
      | .fail => .fail
theorem whileN_succ {t : Env → R Bool} {body : MS} : ∀ {n : Nat} {ρ : Env}, whileN t body n ρ ≠ .fail → whileN t body (n + 1) ρ = whileN t body n ρ
  | 0, _, h => absurd rfl h
  | n + 1, ρ, h => by
    have ih := @whileN_succ t body n
    unfold whileN at h
    rw [whileN]
    conv => rhs; unfold whileN
    cases e1 : t ρ with
    | fail => rfl
    | exc x => rfl
    | ok b =>
      cases b with
      | false => rfl
      | true =>
        simp only [e1] at h ⊢
        cases e2 : body ρ with
        | nx ρ2 => simp only [e2] at h ⊢; exact ih h
        | ct ρ2 => simp only [e2] at h ⊢; exact ih h
        | bk _ => rfl
        | rt _ _ => rfl
        | ex _ _ => rfl
        | fail => rfl
theorem whileN_le {t : Env → R Bool} {body : MS} {n k : Nat} {ρ : Env} (h : whileN t body n ρ ≠ .fail) (hk : n ≤ k) : whileN t body k ρ = whileN t body n ρ := by
  induction k with
  | zero =>
    have e : n = 0 := by omega
    rw [e]
  | succ k ih =>
    by_cases e : n = k + 1
    · rw [e]
    · have q := ih (by omega)
      rw [whileN_succ (by rw [q]; exact h), q]
open Classical in
noncomputable def sWhile (t : Env → R Bool) (body : MS) : MS := fun ρ => if h : ∃ n, whileN t body n ρ ≠ .fail then whileN t body (Classical.choose h) ρ else .fail
theorem sWhile_of {t : Env → R Bool} {body : MS} {n : Nat} {ρ : Env} {o : O} (h : whileN t body n ρ = o) (ho : o ≠ .fail) : sWhile t body ρ = o := by
  have hx : ∃ n, whileN t body n ρ ≠ .fail := ⟨n, by rw [h]; exact ho⟩
  unfold sWhile
  rw [dif_pos hx]
  have h1 := Classical.choose_spec hx
  rcases Nat.le_total n (Classical.choose hx) with z | z
  · rw [whileN_le (by rw [h]; exact ho) z, h]
  · rw [← whileN_le h1 z, h]
theorem vs_while {cc : Expr} {body : List Stmt} (hpass : PassesOwn (model X.prog X.w) X.A X.env X.xe) (ht : VT X c.w Γ cc t) (hb : VSs X c Γ Γ Γ body M) (hcx : c.Cx Γ) : VS X c Γ Γ Γl (.While cc body [] pos) (sWhile t M) := psImp (ps_while hpass ht hb) fun D σ H ⟨ρ, g, S, A, r, q⟩ => by
  by_cases hx : ∃ n, whileN t M n ρ ≠ .fail
  · unfold sWhile at q
    rw [dif_pos hx] at q
    generalize Classical.choose hx = n0 at q
    refine ⟨fun n σ H => ∃ ρ S A, Rel X.K c.w.p g Γ ρ σ S H A ∧ Post X.K c g Γ Γl S D (whileN t M n ρ), ⟨n0, ρ, S, A, r, q⟩, ?_⟩
    rintro n σ2 H2 ⟨ρ2, S2, A2, r2, q2⟩
    cases n with
    | zero => exact q2.elim
    | succ n =>
      unfold whileN at q2
      refine ⟨ρ2, g, S2, A2, r2, ?_⟩
      cases e1 : t ρ2 with
      | fail => simp only [e1] at q2; exact q2
      | exc x => simp only [e1] at q2; exact Post.thrown r2 q2 hcx
      | ok b =>
        simp only [e1] at q2
        intro S3 H3 w3
        have r3 := r2.grow w3
        have ex3 := w3.e
        cases b with
        | false => exact iteF (q2 σ2 S3 H3 A2 r3 ex3)
        | true =>
          refine iteT ⟨fun σ' H' => ∃ ρ S A, Rel X.K c.w.p g Γ ρ σ' S H' A ∧ Post X.K c g Γ Γl S D (whileN t M n ρ), fun σ' H' h => ⟨n, Nat.lt_succ_self _, h⟩, ρ2, g, S3, A2, r3, ?_⟩
          cases e5 : M ρ2 with
          | fail => simp only [e5] at q2; exact q2
          | nx ρ5 => simp only [e5] at q2; exact fun σ' S' H' A' r' e' => ⟨ρ5, S', A', r', q2.trans (exTrans ex3 e')⟩
          | ct ρ5 => simp only [e5] at q2; exact fun σ' S' H' A' r' e' => ⟨ρ5, S', A', r', q2.trans (exTrans ex3 e')⟩
          | bk ρ5 => simp only [e5] at q2; exact fun σ' S' H' A' r' e' => q2 σ' S' H' A' r' (exTrans ex3 e')
          | rt d ρ5 => simp only [e5] at q2; exact q2.trans ex3
          | ex x ρ5 => simp only [e5] at q2; exact q2.trans ex3
  · unfold sWhile at q
    rw [dif_neg hx] at q
    exact q.elim
end
end VL

namespace VL
open PySem PySem.Spec PyProof.Rows L2
open Evl (Ex)
/-! ### defs -/
/-- what a def gives: its value, what it has made of the lent arguments -/
inductive FR where
  | fail | ok (d : D) (outs : List D) | exc (x : Exn) (outs : List D)
def outsOf : Nat → Env → Option (List D)
  | 0, _ => some []
  | n + 1, some d :: ρ => match outsOf n ρ with
    | some l => some (d :: l)
    | none => none
  | _ + 1, _ => none
def env0 (n : Nat) (ds : List D) : Env := ds.map some ++ List.replicate (n - ds.length) none
def fnOf (n p : Nat) (nn : Bool) (M : MS) : List D → FR := fun ds => match M (env0 n ds) with
  | .nx ρ => (match nn, outsOf p ρ with
    | true, some l => .ok .non l
    | _, _ => .fail)
  | .rt d ρ => (match outsOf p ρ with
    | some l => .ok d l
    | none => .fail)
  | .ex x ρ => (match outsOf p ρ with
    | some l => .exc x l
    | none => .fail)
  | _ => .fail
section
variable (K : PySem.W.Frag)
/-- the arguments: the first ones lent (held as Γi says), the others shared -/
def Args (S H : Hp) : List Sh → List D → List V → List Addr → Prop
  | [], ds, vs, A => A = [] ∧ Reps K S ds vs
  | e :: es, ds, vs, A => ∃ d ds' v r A1 A2, ds = d :: ds' ∧ vs = v :: r ∧ A = A1 ++ A2 ∧ Own K S H e d v A1 ∧ Args S H es ds' r A2
def spF (np : Nat) (Γi Γo : List Sh) (rs : Sh) (f : List D → FR) : Sp := fun vs H Q E => ∃ ds S B A, vs.length = np ∧ Ex S H ∧ Ex S B ∧ Ex B H ∧ Args K S H Γi ds vs A ∧ A.Nodup ∧ (∀ a ∈ A, S a = none ∧ B a = none) ∧ match f ds with
  | .fail => False
  | .ok d outs => ∀ v S' H' A1 A2, Ex S S' → Ex B H' → Ex S' H' → (∀ a o, S' a = some o → S a = some o ∨ B a = none) → Own K S' H' rs d v A1 → OwnT K S' H' Γo outs (vs.take Γo.length) A2 → (A1 ++ A2).Nodup → (∀ a ∈ A1 ++ A2, S' a = none ∧ B a = none) → Q v H'
  | .exc x outs => ∀ cc dd S' H' A2, Ex S S' → Ex B H' → Ex S' H' → (∀ a o, S' a = some o → S a = some o ∨ B a = none) → ExcIs K S' x cc dd → OwnT K S' H' Γo outs (vs.take Γo.length) A2 → A2.Nodup → (∀ a ∈ A2, S' a = none ∧ B a = none) → E cc dd H'
end
section
variable {K : PySem.W.Frag} {S H : Hp}
theorem Args.length : ∀ {Γi : List Sh} {ds : List D} {vs : List V} {A : List Addr}, Args K S H Γi ds vs A → ds.length = vs.length
  | [], _, _, _, ⟨_, h⟩ => h.length
  | _ :: es, _, _, _, ⟨d, ds', v, r, A1, A2, h1, h2, h3, h4, h5⟩ => by rw [h1, h2, List.length_cons, List.length_cons, Args.length h5]
theorem slots_none : ∀ n, Slots K S H (List.replicate n .s) (List.replicate n none) (List.replicate n none) []
  | 0 => rfl
  | n + 1 => slots_none n
theorem slots_shared : ∀ {ds : List D} {vs : List V} (n : Nat), Reps K S ds vs → Slots K S H (List.replicate (ds.length + n) .s) (ds.map some ++ List.replicate n none) (vs.map some ++ List.replicate n none) []
  | [], _, n, h => by rw [show _ = [] from h]; simpa using slots_none n
  | d :: ds, _, n, ⟨v, r, h1, h2, h3⟩ => by
    have e : (d :: ds).length + n = (ds.length + n) + 1 := by rw [List.length_cons]; omega
    rw [e, h1]
    exact ⟨v, [], [], rfl, rfl, ⟨rfl, h2⟩, slots_shared n h3⟩
theorem slots_args : ∀ {Γi : List Sh} {ds : List D} {vs : List V} {A : List Addr} (n : Nat), Args K S H Γi ds vs A → Γi.length ≤ ds.length → Slots K S H (Γi ++ List.replicate (ds.length + n - Γi.length) .s) (ds.map some ++ List.replicate n none) (vs.map some ++ List.replicate n none) A
  | [], _, _, _, n, ⟨e, h⟩, _ => by rw [e]; simpa using slots_shared n h
  | e :: es, _, _, _, n, ⟨d, ds', v, r, A1, A2, h1, h2, h3, h4, h5⟩, hl => by
    rw [h1, h2, h3]
    rw [h1, List.length_cons, List.length_cons] at hl
    have z := slots_args n h5 (by omega)
    have ee : (d :: ds').length + n - (e :: es).length = ds'.length + n - es.length := by
      rw [List.length_cons, List.length_cons]
      omega
    rw [ee]
    exact ⟨v, A1, A2, rfl, rfl, h4, z⟩
/-- the lent ones at the end -/
theorem slots_outs : ∀ {Γo Γ : List Sh} {ρ : Env} {σ : L2.St} {A : List Addr} {vs : List V} {l : List D}, Slots K S H Γ ρ σ A → Γ.take Γo.length = Γo → outsOf Γo.length ρ = some l → (∀ (i : Nat) (v : V), vs[i]? = some v → σ[i]? = some (some v)) → vs.length = Γo.length → ∃ A2 R, A = A2 ++ R ∧ OwnT K S H Γo l vs A2
  | [], _, _, _, A, vs, l, h, _, ho, _, hl => by
    have e : l = [] := by
      have q : some ([] : List D) = some l := ho
      cases q; rfl
    have e2 : vs = [] := List.length_eq_zero_iff.mp hl
    exact ⟨[], A, rfl, e, e2, rfl⟩
  | e :: es, [], _, _, _, _, _, _, ht, _, _, _ => by simp at ht
  | e :: es, sh :: Γ, [], σ, _, _, _, h, ht, ho, _, _ => by cases ho
  | e :: es, sh :: Γ, none :: ρ, σ, _, _, _, h, ht, ho, _, _ => by cases ho
  | e :: es, sh :: Γ, some d :: ρ, [], _, _, _, h, ht, ho, _, _ => h.elim
  | e :: es, sh :: Γ, some d :: ρ, x :: σ, A, [], _, h, ht, ho, _, hl => by cases hl
  | e :: es, sh :: Γ, some d :: ρ, x :: σ, A, v :: vs, l, ⟨v', A1, A2, h1, h2, h3, h4⟩, ht, ho, hv, hl => by
    rw [List.length_cons, List.take_succ_cons] at ht
    obtain ⟨t1, t2⟩ := List.cons.inj ht
    have ho' : (match outsOf es.length ρ with
      | some l => some (d :: l)
      | none => none) = some l := ho
    cases q : outsOf es.length ρ with
    | none => rw [q] at ho'; cases ho'
    | some l' =>
      rw [q] at ho'
      have el : d :: l' = l := Option.some.inj ho'
      obtain ⟨B2, R, e1, e2⟩ := slots_outs (vs := vs) h4 t2 q (fun i w hw => by simpa using hv (i + 1) w (by simpa using hw)) (by simpa using hl)
      have ev : x = some v := by simpa using hv 0 v (by simp)
      rw [h1] at ev
      have ev' : v' = v := Option.some.inj ev
      subst ev' el t1
      exact ⟨A1 ++ B2, R, by rw [h2, e1, List.append_assoc], _, _, _, _, A1, B2, rfl, rfl, rfl, h3, e2⟩
end
/-- a def keeps its promise: its body as a derivation -/
theorem ok_fn {P : Program} {w : World} {K : PySem.W.Frag} {mg : Str → Option Value} {base : Heap} {x qual : Str} {params : Arguments} {body : List Stmt} {scope : Scope} {dvs : List V} {kws : List (Str × V)} {fa : Addr} {fd : FuncData} {N ps : List Str} {k : Nat}
    {Γi Γo Γ' : List Sh} {rs : Sh} {nn : Bool} {M : MS} (F : FunD K x qual params body scope dvs kws fa fd) (Sc : FnScope N ps scope) (hi : Γi.length ≤ ps.length) (hio : Γi.length = Γo.length) (hps : ps.length ≤ N.length) (hnn : nn = true → rs = .s) (hΓ : Γ'.take Γo.length = Γo)
    (hbody : ∀ (cdv : Value) (A : Around) (outer : List PySem.Env) (s : Shared) (H : Hp) (E : XK), Room k (A.deeper (envOfC qual scope s.heap.objs.size fa cdv)) →
      VSs (cxOf (L2.CX P w) P w K mg base N qual scope fa cdv A outer s H E) ⟨⟨fun cc dd _ H' => E cc dd H', Γi.length⟩, rs, fun Γ => Γ.take Γo.length = Γo, fun Γ => Γ.take Γo.length = Γo⟩ (Γi ++ List.replicate (N.length - Γi.length) .s) Γ' [] body M) :
    FnOk P w K mg base (L2.CX P w) (k + 1) fa fd ps (spF K ps.length Γi Γo rs (fnOf N.length Γo.length nn M)) := by
  refine F.ok Sc (fun vs H Q E h => ?_) fun cdv A outer s H vs Q E hr h => ⟨_, hbody cdv A outer s H E hr, ?_⟩
  · obtain ⟨ds, S, B, A, h1, _⟩ := h
    exact h1
  · obtain ⟨ds, S, B, A', h1, h2, h3, h4, h5, h6, h7, h8⟩ := h
    have hl := h5.length
    have e0 : L2.start N vs = vs.map some ++ List.replicate (N.length - ds.length) none := by
      unfold L2.start
      rw [hl]
    have sl := slots_args (N.length - ds.length) h5 (by omega)
    have en : ds.length + (N.length - ds.length) - Γi.length = N.length - Γi.length := by omega
    rw [en] at sl
    have hvp : (vs.take Γo.length).length = Γo.length := by rw [List.length_take]; omega
    refine ⟨env0 N.length ds, ⟨B, S, vs.take Γo.length⟩, S, A', ⟨by rw [e0]; exact sl, h6, h7, h2, h4, Ex.rfl', fun a o z => .inl z, fun i v hv => ?_, by show (vs.take Γo.length).length = Γi.length; omega⟩, ?_⟩
    · have hv' : (vs.take Γo.length)[i]? = some v := hv
      rw [List.getElem?_take] at hv'
      split at hv'
      · rename_i hlt
        rw [e0, List.getElem?_append_left (by rw [List.length_map]; omega), List.getElem?_map, hv']
        rfl
      · cases hv'
    · unfold fnOf at h8
      cases e : M (env0 N.length ds) with
      | fail => rw [e] at h8; exact h8
      | bk ρ => rw [e] at h8; exact h8.elim
      | ct ρ => rw [e] at h8; exact h8.elim
      | nx ρ =>
        rw [e] at h8
        cases nn with
        | false => exact h8.elim
        | true =>
          cases eo : outsOf Γo.length ρ with
          | none => simp only [eo] at h8
          | some l =>
            simp only [eo] at h8
            intro σ' S' H' A2 r e'
            obtain ⟨A3, R, q1, q2⟩ := slots_outs r.slots hΓ eo r.par hvp
            have nd := r.nd
            rw [q1] at nd
            refine h8 .non S' H' [] A3 e' r.bH r.sH r.nw (by rw [hnn rfl]; exact ⟨rfl, rfl⟩) q2 (by simpa using (List.nodup_append.mp nd).1) fun a ha => r.fr a ?_
            rw [q1]
            exact List.mem_append_left _ (by simpa using ha)
      | rt d ρ =>
        rw [e] at h8
        cases eo : outsOf Γo.length ρ with
        | none => simp only [eo] at h8
        | some l =>
          simp only [eo] at h8
          intro v σ' S' H' A2 A1 Γ'' hc r e' ow nd fr
          obtain ⟨A3, R, q1, q2⟩ := slots_outs r.slots hc eo r.par hvp
          rw [q1, ← List.append_assoc] at nd
          refine h8 v S' H' A1 A3 e' r.bH r.sH r.nw ow q2 (List.nodup_append.mp nd).1 fun a ha => ?_
          rcases List.mem_append.mp ha with z | z
          · exact fr a z
          · exact r.fr a (by rw [q1]; exact List.mem_append_left _ z)
      | ex x ρ =>
        rw [e] at h8
        cases eo : outsOf Γo.length ρ with
        | none => simp only [eo] at h8
        | some l =>
          simp only [eo] at h8
          intro cc dd σ' S' H' A2 Γ'' hc r e' ei
          obtain ⟨A3, R, q1, q2⟩ := slots_outs r.slots hc eo r.par hvp
          have nd := r.nd
          rw [q1] at nd
          exact h8 cc dd S' H' A3 e' r.bH r.sH r.nw ei q2 (List.nodup_append.mp nd).1 fun a ha => r.fr a (by rw [q1]; exact List.mem_append_left _ ha)

/-! ### calls of defs that are lent nothing -/
def mCall (f : List D → FR) (mas : Env → R (List D)) : ME := fun ρ => match mas ρ with
  | .fail => .fail
  | .exc x => .exc x
  | .ok ds => match f ds with
    | .fail => .fail
    | .ok d _ => .ok d
    | .exc x _ => .exc x
section
variable {X : Cx} {W : Wp} {Γ : List Sh} {e : Expr} {es : List Expr} {mas : Env → R (List D)} {k np : Nat} {fa : Addr} {fd : FuncData} {ps : List Str} {rs : Sh} {f : List D → FR} {x : Str} {p pos : Pos}
theorem call_core {K : PySem.W.Frag} {S H : Hp} {ds : List D} {vs : List V} {Q : VK} {E : XK} (sH : Ex S H) (hr : Reps K S ds vs) (hn : vs.length = np)
    (hf : match f ds with
      | .fail => False
      | .ok d _ => Gr K S H rs d Q
      | .exc x _ => ∀ cc dd S' H', Gw S H S' H' → ExcIs K S' x cc dd → E cc dd H') : spF K np [] [] rs f vs H Q E := by
  refine ⟨ds, S, H, [], hn, sH, sH, Ex.rfl', ⟨rfl, hr⟩, List.nodup_nil, (fun _ z => nomatch z), ?_⟩
  cases e1 : f ds with
  | fail => rw [e1] at hf; exact hf
  | ok d outs =>
    rw [e1] at hf
    intro v S' H' A1 A2 e eH sH' nw ow ⟨_, _, ea⟩ nd fr
    subst ea
    rw [List.append_nil] at nd fr
    exact hf v S' H' A1 ⟨e, eH, sH', nw⟩ ow nd fun a ha => ⟨(fr a ha).2, (fr a ha).1⟩
  | exc x outs =>
    rw [e1] at hf
    intro cc dd S' H' A2 e eH sH' nw ei _ _ _
    exact hf cc dd S' H' ⟨e, eH, sH', nw⟩ ei
theorem ve_call (F : FnOk X.prog X.w X.K X.mg X.base (L2.CX X.prog X.w) k fa fd ps (spF X.K np [] [] rs f)) (tk : Takes X W.W) (hr : Room k X.A) (hg : Gl X x) (hm : X.mg x = some (.ref fa)) (hk : PySem.W.keepIn X.K (.ref fa) = true) (hb : Binds X.K fd ps []) (ha : VA X W Γ (e :: es) mas)
    (hn : (e :: es).length = np := by rfl) (hlen : ∀ ρ ds, mas ρ = .ok ds → ds.length = (e :: es).length) (hdb : (x == ("__debug__" : Str)) = false := by decide) (he : starEach (e :: es) X.env = (false, eval e X.env) :: starEach es X.env := by rfl) (hpl : (backTo pos (starEach es X.env)).any (·.1) = false := by rfl) :
    VE X W Γ (.Call (.Name x p) (e :: es) [] pos) rs (mCall f mas) := peImp (pe_callSD (E := WE W.W) F hr hg hm hk hb .nil (fun σ => passAt tk σ) ha hdb he hpl) fun σ H Q ⟨ρ, g, S, A, rel, q⟩ => by
  unfold mCall at q
  refine ⟨ρ, g, S, A, rel, ?_⟩
  cases e1 : mas ρ with
  | fail => rw [e1] at q; exact q
  | exc x => rw [e1] at q; exact q
  | ok ds =>
    rw [e1] at q
    intro vs S1 H1 w1 p1
    rw [List.append_nil]
    refine call_core w1.sH p1 (by rw [← p1.length, hlen ρ ds e1, hn]) ?_
    cases e2 : f ds with
    | fail => simp only [e2] at q
    | ok d outs => simp only [e2] at q; exact Gr.trans w1 q
    | exc x outs => simp only [e2] at q; exact Thrown.trans w1 q
theorem len_nil : ∀ ρ ds, mNil ρ = .ok ds → ds.length = ([] : List Expr).length := fun ρ ds h => by cases h; rfl
theorem len_cons {m : ME} (h : ∀ ρ ds, mas ρ = .ok ds → ds.length = es.length) : ∀ ρ ds, mCons m mas ρ = .ok ds → ds.length = (e :: es).length := fun ρ ds q => by
  unfold mCons at q
  cases e1 : m ρ with
  | fail => simp only [e1] at q; cases q
  | exc x => simp only [e1] at q; cases q
  | ok d =>
    simp only [e1] at q
    cases e2 : mas ρ with
    | fail => simp only [e2] at q; cases q
    | exc x => simp only [e2] at q; cases q
    | ok l =>
      simp only [e2] at q
      cases q
      rw [List.length_cons, List.length_cons, h ρ l e2]
def mCall0 (f : List D → FR) : ME := fun _ => match f [] with
  | .ok d _ => .ok d
  | _ => .fail
theorem ve_call0 (F : FnOk X.prog X.w X.K X.mg X.base (L2.CX X.prog X.w) k fa fd ps (spF X.K 0 [] [] rs f)) (hr : Room k X.A) (hg : Gl X x) (hm : X.mg x = some (.ref fa)) (hk : PySem.W.keepIn X.K (.ref fa) = true) (hb : Binds X.K fd ps []) (hdb : (x == ("__debug__" : Str)) = false := by decide) :
    VE X W Γ (.Call (.Name x p) [] [] pos) rs (mCall0 f) := peImp (pe_call0 F hr hg hm hk hb .nil passL hdb) fun σ H Q ⟨ρ, g, S, A, rel, q⟩ => by
  unfold mCall0 at q
  refine call_core (ds := []) rel.sH rfl rfl ?_
  cases e2 : f [] with
  | fail => rw [e2] at q; exact q
  | exc x outs => rw [e2] at q; exact q.elim
  | ok d outs => rw [e2] at q; exact q
end
end VL

namespace VL
open PySem PySem.Spec PyProof.Rows L2
open Evl (Ex)
section
variable {X : Cx}
theorem piImp {tg e : Expr} {t t' : TI} (h : PI X tg e t) (f : ∀ σ H R, t' σ H R → t σ H R) : PI X tg e t' := ⟨fun pins s σ H R I q => h.run pins s σ H R I (f σ H R q)⟩
theorem piOr {tg e : Expr} {t u : TI} (h : PI X tg e t) (h' : PI X tg e u) : PI X tg e (fun σ H R => t σ H R ∨ u σ H R) := ⟨fun pins s σ H R I q => q.elim (h.run pins s σ H R I) (h'.run pins s σ H R I)⟩
theorem pgImp {tg : Expr} {t t' : TG} (h : PG X tg t) (f : ∀ v σ H Q, t' v σ H Q → t v σ H Q) : PG X tg t' := ⟨fun pins s σ H v u Q I r q => h.run pins s σ H v u Q I r (f v σ H Q q)⟩
theorem pgsImp {tg : List Expr} {t t' : TGs} (h : PGs X tg t) (f : ∀ v σ H Q, t' v σ H Q → t v σ H Q) : PGs X tg t' := ⟨fun pins s σ H v u Q I r q => h.run pins s σ H v u Q I r (f v σ H Q q)⟩
end
section
variable {K : PySem.W.Frag} {S H : Hp}
theorem Reps.get : ∀ {ds : List D} {vs : List V} {i : Nat} {d : D}, Reps K S ds vs → ds[i]? = some d → ∃ v, vs[i]? = some v ∧ Rep K S d v
  | d0 :: _, _, 0, d, ⟨v, r, h1, h2, h3⟩, e => ⟨v, by rw [h1]; rfl, by
      have e' : d0 = d := by simpa using e
      rw [← e']; exact h2⟩
  | _ :: _, _, i + 1, d, ⟨v, r, h1, h2, h3⟩, e => by
    obtain ⟨w, q1, q2⟩ := Reps.get (i := i) h3 (by simpa using e)
    exact ⟨w, by rw [h1]; simpa using q1, q2⟩
  | [], _, _, _, _, e => by simp at e
theorem yields_list {a : Addr} {vs : List V} {ds : List D} (h : SqL K S a vs) (hr : Reps K S ds vs) : Yields K (Itl K a) S ds where
  go := fun i S' H' e1 e2 hi => by
    rw [hr.length] at hi
    exact ⟨vs, vs[i], Evl.ex_l (exTrans e1 e2) h, List.getElem?_eq_getElem hi⟩
  stop := fun i S' H' e1 e2 hi0 => have hi := Nat.le_of_eq hi0.symm; ⟨vs, Evl.ex_l (exTrans e1 e2) h, by rw [← hr.length]; exact hi⟩
  yld := fun i S' H' x H2 d e1 e2 y hd => by
    obtain ⟨rfl, y⟩ := y
    obtain ⟨v, q1, q2⟩ := hr.get hd
    have z := y vs (Evl.ex_l (exTrans e1 e2) h)
    rw [q1] at z
    cases z
    exact ⟨S', .rfl' e2, q2.mono e1⟩
theorem yields_tup {a : Addr} {vs : List V} {ds : List D} (h : SqT K S a vs) (hr : Reps K S ds vs) : Yields K (Itt K a) S ds where
  go := fun i S' H' e1 e2 hi => by
    rw [hr.length] at hi
    exact ⟨vs, vs[i], Evl.ex_t (exTrans e1 e2) h, List.getElem?_eq_getElem hi⟩
  stop := fun i S' H' e1 e2 hi0 => have hi := Nat.le_of_eq hi0.symm; ⟨vs, Evl.ex_t (exTrans e1 e2) h, by rw [← hr.length]; exact hi⟩
  yld := fun i S' H' x H2 d e1 e2 y hd => by
    obtain ⟨rfl, y⟩ := y
    obtain ⟨v, q1, q2⟩ := hr.get hd
    have z := y vs (Evl.ex_t (exTrans e1 e2) h)
    rw [q1] at z
    cases z
    exact ⟨S', .rfl' e2, q2.mono e1⟩
def chars (x : Str) : List D := x.cps.toList.map fun c => .str ⟨#[c]⟩
theorem chars_len {x : Str} : (chars x).length = x.cps.size := by unfold chars; simp
theorem yields_str {x : Str} : Yields K (Its x) S (chars x) where
  go := fun i S' H' e1 e2 hi => by rw [chars_len] at hi; exact hi
  stop := fun i S' H' e1 e2 hi0 => have hi := Nat.le_of_eq hi0.symm; by rw [chars_len] at hi; exact hi
  yld := fun i S' H' v H2 d e1 e2 y hd => by
    obtain ⟨rfl, c, q1, rfl⟩ := y
    refine ⟨S', .rfl' e2, ?_⟩
    unfold chars at hd
    rw [List.getElem?_map, Array.getElem?_toList, q1] at hd
    cases hd
    rfl
def rngD (lo : Int) (n : Nat) : List D := (List.range n).map fun i => .int (lo + (i : Nat))
theorem yields_range {lo : Int} {n : Nat} : Yields K (Itr lo n) S (rngD lo n) where
  go := fun i S' H' e1 e2 hi => by
    have h : i < n := by simpa [rngD] using hi
    exact h
  stop := fun i S' H' e1 e2 hi0 => by
    have hi := Nat.le_of_eq hi0.symm
    have h : n ≤ i := by simpa [rngD] using hi
    exact h
  yld := fun i S' H' v H2 d e1 e2 y hd => by
    obtain ⟨rfl, rfl⟩ := y
    refine ⟨S', .rfl' e2, ?_⟩
    unfold rngD at hd
    rw [List.getElem?_map] at hd
    cases q : (List.range n)[i]? with
    | none => rw [q] at hd; cases hd
    | some j =>
      rw [q] at hd
      have e : j = i := by
        rw [List.getElem?_range] at q
        · exact (Option.some.inj q).symm
        · rw [List.getElem?_eq_some_iff] at q
          simpa using q.1
      cases hd
      rw [e]
      rfl
def rngC (lo c : Int) (n : Nat) : List D := (List.range n).map fun i => .int (lo + (i : Nat) * c)
theorem yields_rangeC {lo c : Int} {n : Nat} : Yields K (Itc lo c n) S (rngC lo c n) where
  go := fun i S' H' e1 e2 hi => by
    have h : i < n := by simpa [rngC] using hi
    exact h
  stop := fun i S' H' e1 e2 hi0 => by
    have hi := Nat.le_of_eq hi0.symm
    have h : n ≤ i := by simpa [rngC] using hi
    exact h
  yld := fun i S' H' v H2 d e1 e2 y hd => by
    obtain ⟨rfl, rfl⟩ := y
    refine ⟨S', .rfl' e2, ?_⟩
    unfold rngC at hd
    rw [List.getElem?_map] at hd
    cases q : (List.range n)[i]? with
    | none => rw [q] at hd; cases hd
    | some j =>
      rw [q] at hd
      have e : j = i := by
        rw [List.getElem?_range] at q
        · exact (Option.some.inj q).symm
        · rw [List.getElem?_eq_some_iff] at q
          simpa using q.1
      cases hd
      rw [e]
      rfl
/-- .. each with its place before it, as a new pair -/
def enums (ds : List D) : List D := (ds.zipIdx).map fun p => .tup [.int (p.2 : Nat), p.1]
theorem enums_len {ds : List D} : (enums ds).length = ds.length := by simp [enums]
theorem enums_get {ds : List D} {i : Nat} {d : D} (h : (enums ds)[i]? = some d) : ∃ x, ds[i]? = some x ∧ d = .tup [.int (i : Nat), x] := by
  unfold enums at h
  rw [List.getElem?_map, List.getElem?_zipIdx] at h
  cases q : ds[i]? with
  | none => rw [q] at h; cases h
  | some x => rw [q] at h; cases h; exact ⟨x, rfl, by simp⟩
theorem gw_pair {S' H' : Hp} {x y : V} {dx dy : D} (e2 : Ex S' H') (hx : Rep K S' dx x) (hy : Rep K S' dy y) {T : Addr} (hT : H' T = none) : ∃ S2, Gw S' H' S2 (upd H' T (.tup [x, y])) ∧ Rep K S2 (.tup [dx, dy]) (.ref T) := by
  have ee := Evl.Ex.new (o := .tup [x, y]) (sub_new e2 hT)
  exact ⟨_, .new e2 hT, T, [x, y], rfl, .inl (.inl upd_same), x, [y], rfl, hx.mono ee, y, [], rfl, hy.mono ee, rfl⟩
theorem yields_enum {a : Addr} {vs : List V} {ds : List D} (h : SqL K S a vs) (hr : Reps K S ds vs) : Yields K (Ite K a) S (enums ds) where
  go := fun i S' H' e1 e2 hi => by
    rw [enums_len, hr.length] at hi
    exact ⟨vs, vs[i], Evl.ex_l (exTrans e1 e2) h, List.getElem?_eq_getElem hi⟩
  stop := fun i S' H' e1 e2 hi0 => have hi := Nat.le_of_eq hi0.symm; ⟨vs, Evl.ex_l (exTrans e1 e2) h, by rw [enums_len, hr.length] at hi; exact hi⟩
  yld := fun i S' H' x H2 d e1 e2 y hd => by
    obtain ⟨T, w, rfl, hT, rfl, y⟩ := y
    obtain ⟨dx, q1, rfl⟩ := enums_get hd
    obtain ⟨v, q2, q3⟩ := hr.get q1
    have z := y vs (Evl.ex_l (exTrans e1 e2) h)
    rw [q2] at z
    cases z
    exact gw_pair (x := .int (i : Nat)) (dx := .int (i : Nat)) e2 rfl (q3.mono e1) hT
def zips (ds es : List D) : List D := (ds.zip es).map fun p => .tup [p.1, p.2]
theorem yields_zip {a b : Addr} {vs ws : List V} {ds es : List D} (h : SqL K S a vs) (hr : Reps K S ds vs) (h' : SqL K S b ws) (hr' : Reps K S es ws) : Yields K (Itz K a b) S (zips ds es) where
  go := fun i S' H' e1 e2 hi => by
    simp only [zips, List.length_map, List.length_zip, hr.length, hr'.length] at hi
    exact ⟨vs, ws, vs[i], ws[i], Evl.ex_l (exTrans e1 e2) h, Evl.ex_l (exTrans e1 e2) h', List.getElem?_eq_getElem _, List.getElem?_eq_getElem _⟩
  stop := fun i S' H' e1 e2 hi0 => by
    have hi := Nat.le_of_eq hi0.symm
    simp only [zips, List.length_map, List.length_zip, hr.length, hr'.length] at hi
    exact ⟨vs, ws, Evl.ex_l (exTrans e1 e2) h, Evl.ex_l (exTrans e1 e2) h', by omega⟩
  yld := fun i S' H' x H2 d e1 e2 y hd => by
    obtain ⟨T, w1, w2, rfl, hT, rfl, y1, y2⟩ := y
    unfold zips at hd
    rw [List.getElem?_map] at hd
    cases q : (ds.zip es)[i]? with
    | none => rw [q] at hd; cases hd
    | some p =>
      rw [q] at hd
      cases hd
      obtain ⟨p1, p2⟩ := p
      rw [List.getElem?_zip_eq_some] at q
      obtain ⟨v, q2, q3⟩ := hr.get q.1
      obtain ⟨v', q2', q3'⟩ := hr'.get q.2
      have z := y1 vs (Evl.ex_l (exTrans e1 e2) h)
      have z' := y2 ws (Evl.ex_l (exTrans e1 e2) h')
      rw [q2] at z
      rw [q2'] at z'
      cases z
      cases z'
      exact gw_pair e2 (q3.mono e1) (q3'.mono e1) hT
theorem yields_rev {a : Addr} {vs : List V} {ds : List D} (h : SqL K S a vs) (hr : Reps K S ds vs) : Yields K (Itv K a vs.length) S ds.reverse where
  go := fun i S' H' e1 e2 hi => by
    rw [List.length_reverse, hr.length] at hi
    exact ⟨hi, vs, vs[vs.length - 1 - i], Evl.ex_l (exTrans e1 e2) h, List.getElem?_eq_getElem (by omega)⟩
  stop := fun i S' H' e1 e2 hi0 => have hi := Nat.le_of_eq hi0.symm; by rw [List.length_reverse, hr.length] at hi; exact hi
  yld := fun i S' H' x H2 d e1 e2 y hd => by
    obtain ⟨rfl, y⟩ := y
    have hi : i < ds.length := by
      rw [List.getElem?_eq_some_iff] at hd
      have := hd.1
      rw [List.length_reverse] at this
      exact this
    rw [List.getElem?_reverse hi] at hd
    obtain ⟨v, q1, q2⟩ := hr.get hd
    rw [hr.length] at q1
    have z := y vs (Evl.ex_l (exTrans e1 e2) h)
    rw [q1] at z
    cases z
    exact ⟨S', .rfl' e2, q2.mono e1⟩
end

/-! ### what is walked -/
section
variable {X : Cx} {W : Wp} {Γ : List Sh} {e tg : Expr} {m : ME} {mas : Env → R (List D)} {pos p : Pos}
def dIter : D → Option (List D)
  | .lst ds => some ds
  | .frl ds => some ds
  | .tup ds => some ds
  | .str x => some (chars x)
  | _ => none
def mIt (f : D → Option (List D)) (a : ME) : Env → R (List D) := fun ρ => match a ρ with
  | .fail => .fail
  | .exc x => .exc x
  | .ok d => match f d with
    | some l => .ok l
    | none => .fail
theorem vi_seq (h : VE X W Γ e .s m) : VI X W Γ tg e (mIt dIter m) := piImp (piOr (pi_list h) (piOr (pi_tup h) (pi_str h))) fun σ H R ⟨ρ, g, S, A, r, q⟩ => by
  unfold mIt at q
  cases e1 : m ρ with
  | fail => rw [e1] at q; exact q.elim
  | exc x => rw [e1] at q; exact .inl ⟨ρ, g, S, A, r, by rw [e1]; exact q⟩
  | ok d =>
    rw [e1] at q
    cases d with
    | lst ds =>
      refine .inl ⟨ρ, g, S, A, r, ?_⟩
      rw [e1]
      intro v S1 H1 B1 w1 ⟨_, p1⟩ _ _
      obtain ⟨a, vs, h1, h2, h3⟩ := p1
      exact ⟨a, h1, ⟨vs, SqL.of (w1.sH _ _ h2)⟩, q _ S1 H1 w1 (yields_list (SqL.of h2) h3)⟩
    | frl ds =>
      refine .inl ⟨ρ, g, S, A, r, ?_⟩
      rw [e1]
      intro v S1 H1 B1 w1 ⟨_, p1⟩ _ _
      obtain ⟨a, vs, h1, h2, h3⟩ := p1
      exact ⟨a, h1, ⟨vs, Evl.ex_l w1.sH h2⟩, q _ S1 H1 w1 (yields_list h2 h3)⟩
    | tup ds =>
      refine .inr (.inl ⟨ρ, g, S, A, r, ?_⟩)
      rw [e1]
      intro v S1 H1 B1 w1 ⟨_, p1⟩ _ _
      obtain ⟨a, vs, h1, h2, h3⟩ := p1
      exact ⟨a, h1, ⟨vs, Evl.ex_t w1.sH h2⟩, q _ S1 H1 w1 (yields_tup h2 h3)⟩
    | str x =>
      refine .inr (.inr ⟨ρ, g, S, A, r, ?_⟩)
      rw [e1]
      intro v S1 H1 B1 w1 ⟨_, p1⟩ _ _
      exact ⟨x, p1, q _ S1 H1 w1 yields_str⟩
    | _ => exact q.elim
/-- from the arguments' values to what is given out -/
def mItA (f : List D → Option (List D)) (a : Env → R (List D)) : Env → R (List D) := fun ρ => match a ρ with
  | .fail => .fail
  | .exc x => .exc x
  | .ok ds => match f ds with
    | some l => .ok l
    | none => .fail
theorem via_ok {f : List D → Option (List D)} {r : List V → Hp → (It → Hp → Prop) → Prop} (hr : ∀ S H ds vs l R, Ex S H → Reps X.K S ds vs → f ds = some l → (∀ J, Yields X.K J S l → R J H) → r vs H R) {σ : L2.St} {H : Hp} {R : It → Hp → Prop}
    (h : tVI X.K W Γ (Yields X.K) (mItA f mas) σ H R) : tVA X.K W Γ mas σ H fun vs H1 => r vs H1 R := by
  obtain ⟨ρ, g, S, A, rel, q⟩ := h
  unfold mItA at q
  refine ⟨ρ, g, S, A, rel, ?_⟩
  cases e1 : mas ρ with
  | fail => rw [e1] at q; exact q
  | exc x => rw [e1] at q; exact q
  | ok ds =>
    rw [e1] at q
    intro vs S1 H1 w1 p1
    cases e2 : f ds with
    | none => simp only [e2] at q
    | some l =>
      simp only [e2] at q
      exact hr S1 H1 ds vs l R w1.sH p1 e2 fun J y => q J S1 H1 w1 y
def big : Int := 4611686018427387904
theorem big_eq : big = 2 ^ 62 := by decide
noncomputable def dRng1 : List D → Option (List D)
  | [.int n] => if cdec (-big ≤ n ∧ n < big) = true then some (rngD 0 n.toNat) else none
  | _ => none
noncomputable def dRng2 : List D → Option (List D)
  | [.int i, .int n] => if cdec (-big ≤ i ∧ i < big ∧ -big ≤ n ∧ n < big) = true then some (rngD i (n - i).toNat) else none
  | _ => none
theorem reps1 {K : PySem.W.Frag} {S : Hp} {d : D} {vs : List V} (h : Reps K S [d] vs) : ∃ v, vs = [v] ∧ Rep K S d v := by
  obtain ⟨v, r, h1, h2, h3⟩ := h
  exact ⟨v, by rw [h1, show r = [] from h3], h2⟩
theorem reps2 {K : PySem.W.Frag} {S : Hp} {d d' : D} {vs : List V} (h : Reps K S [d, d'] vs) : ∃ v v', vs = [v, v'] ∧ Rep K S d v ∧ Rep K S d' v' := by
  obtain ⟨v, r, h1, h2, h3⟩ := h
  obtain ⟨v', r', h1', h2', h3'⟩ := h3
  exact ⟨v, v', by rw [h1, h1', show r' = [] from h3'], h2, h2'⟩
theorem reps3 {K : PySem.W.Frag} {S : Hp} {d d' d'' : D} {vs : List V} (h : Reps K S [d, d', d''] vs) : ∃ v v' v'', vs = [v, v', v''] ∧ Rep K S d v ∧ Rep K S d' v' ∧ Rep K S d'' v'' := by
  obtain ⟨v, r, h1, h2, h3⟩ := h
  obtain ⟨v', v'', h4, h5, h6⟩ := reps2 h3
  exact ⟨v, v', v'', by rw [h1, h4], h2, h5, h6⟩
theorem vi_range1 (hg : Gl X "range") (hm : X.mg "range" = none) (ha : VA X W Γ [e] mas) (hs : starEach [e] X.env = [(false, eval e X.env)] := by rfl) : VI X W Γ tg (.Call (.Name "range" p) [e] [] pos) (mItA dRng1 mas) :=
  piImp (pi_range1 hg hm ha hs) fun σ H R h => via_ok (r := fun vs H1 R => ∃ j : Int, vs = [.int j] ∧ -(2 ^ 62) ≤ j ∧ j < 2 ^ 62 ∧ R (Itr 0 j.toNat) H1) (fun S H ds vs l R sH pr e k => by
    unfold dRng1 at e
    split at e
    · rename_i n
      obtain ⟨v, rfl, hv⟩ := reps1 pr
      split at e
      · rename_i hb
        cases e
        rw [cdec_iff, big_eq] at hb
        exact ⟨n, by rw [show v = _ from hv], hb.1, hb.2, k _ yields_range⟩
      · cases e
    · cases e) h
theorem vi_range2 {e2 : Expr} (hg : Gl X "range") (hm : X.mg "range" = none) (ha : VA X W Γ [e, e2] mas) (hs : starEach [e, e2] X.env = [(false, eval e X.env), (false, eval e2 X.env)] := by rfl) (hs2 : starEach [e2] X.env = [(false, eval e2 X.env)] := by rfl) : VI X W Γ tg (.Call (.Name "range" p) [e, e2] [] pos) (mItA dRng2 mas) :=
  piImp (pi_range2 hg hm ha hs hs2) fun σ H R h => via_ok (r := fun vs H1 R => ∃ i j : Int, vs = [.int i, .int j] ∧ (-(2 ^ 62) ≤ i ∧ i < 2 ^ 62 ∧ -(2 ^ 62) ≤ j ∧ j < 2 ^ 62) ∧ R (Itr i (j - i).toNat) H1) (fun S H ds vs l R sH pr e k => by
    unfold dRng2 at e
    split at e
    · rename_i i n
      obtain ⟨v, v', rfl, hv, hv'⟩ := reps2 pr
      split at e
      · rename_i hb
        cases e
        rw [cdec_iff, big_eq] at hb
        exact ⟨i, n, by rw [show v = _ from hv, show v' = _ from hv'], hb, k _ yields_range⟩
      · cases e
    · cases e) h
def dEnumL : List D → Option (List D)
  | [.lst ds] => some (enums ds)
  | _ => none
theorem vi_enumL {elts : List Expr} {kk : Nat} {tpos : Pos} (hg : Gl X "enumerate") (hm : X.mg "enumerate" = none) (ha : VA X W Γ [e] mas) (hs : starEach [e] X.env = [(false, eval e X.env)] := by rfl) : VI X W Γ (.Tuple elts kk tpos) (.Call (.Name "enumerate" p) [e] [] pos) (mItA dEnumL mas) :=
  piImp (pi_enum hg hm ha hs) fun σ H R h => via_ok (r := fun vs H1 R => ∃ a xs, vs = [.ref a] ∧ SqL X.K H1 a xs ∧ R (Ite X.K a) H1) (fun S H ds vs l R sH pr e k => by
    unfold dEnumL at e
    split at e
    · rename_i ds
      obtain ⟨v, rfl, a, xs, h1, h2, h3⟩ := reps1 pr
      cases e
      exact ⟨a, xs, by rw [h1], SqL.of (sH _ _ h2), k _ (yields_enum (SqL.of h2) h3)⟩
    · cases e) h
def dZipL : List D → Option (List D)
  | [.lst ds, .lst es] => some (zips ds es)
  | _ => none
theorem vi_zipL {e2 : Expr} {elts : List Expr} {kk : Nat} {tpos : Pos} (h : PI X (.Tuple elts kk tpos) (.Call (.Name "zip" p) [e, e2] [] pos) (iZip X.K (tVA X.K W Γ mas))) : VI X W Γ (.Tuple elts kk tpos) (.Call (.Name "zip" p) [e, e2] [] pos) (mItA dZipL mas) :=
  piImp h fun σ H R h => via_ok (r := fun vs H1 R => ∃ a b xs ys, vs = [.ref a, .ref b] ∧ SqL X.K H1 a xs ∧ SqL X.K H1 b ys ∧ R (Itz X.K a b) H1) (fun S H ds vs l R sH pr e k => by
    unfold dZipL at e
    split at e
    · rename_i ds es
      obtain ⟨v, v', rfl, ⟨a, xs, h1, h2, h3⟩, b, ys, h4, h5, h6⟩ := reps2 pr
      cases e
      exact ⟨a, b, xs, ys, by rw [h1, h4], SqL.of (sH _ _ h2), SqL.of (sH _ _ h5), k _ (yields_zip (SqL.of h2) h3 (SqL.of h5) h6)⟩
    · cases e) h
def dRevL : List D → Option (List D)
  | [.lst ds] => some ds.reverse
  | _ => none
theorem vi_revL (hg : Gl X "reversed") (hm : X.mg "reversed" = none) (ha : VA X W Γ [e] mas) (hs : starEach [e] X.env = [(false, eval e X.env)] := by rfl) : VI X W Γ tg (.Call (.Name "reversed" p) [e] [] pos) (mItA dRevL mas) :=
  piImp (pi_reversed hg hm ha hs) fun σ H R h => via_ok (r := fun vs H1 R => ∃ (a : Addr) (xs : List V), vs = [.ref a] ∧ SqL X.K H1 a xs ∧ R (Itv X.K a xs.length) H1) (fun S H ds vs l R sH pr e k => by
    unfold dRevL at e
    split at e
    · rename_i ds
      obtain ⟨v, rfl, a, xs, h1, h2, h3⟩ := reps1 pr
      cases e
      exact ⟨a, xs, by rw [h1], SqL.of (sH _ _ h2), k _ (yields_rev (SqL.of h2) h3)⟩
    · cases e) h

/-! ### targets -/
def tgName (i : Nat) : D → Env → Option Env := fun d ρ => some (ρ.set i (some d))
def tgNil : List D → Env → Option Env := fun ds ρ => match ds with
  | [] => some ρ
  | _ => none
def tgCons (t : D → Env → Option Env) (u : List D → Env → Option Env) : List D → Env → Option Env := fun ds ρ => match ds with
  | d :: r => (match t d ρ with
    | some ρ' => u r ρ'
    | none => none)
  | [] => none
def tgTup (n : Nat) (u : List D → Env → Option Env) : D → Env → Option Env := fun d ρ => match d with
  | .tup ds => if ds.length = n then u ds ρ else none
  | _ => none
def tVGs (K : PySem.W.Frag) (p : Nat) (Γ : List Sh) (ix : List Nat) (tgt : List D → Env → Option Env) : TGs := fun vs σ H Q => ∃ ρ g S A ds, Rel K p g Γ ρ σ S H A ∧ Reps K S ds vs ∧ match tgt ds ρ with
  | none => False
  | some ρ' => ∀ σ' A', Rel K p g Γ ρ' σ' S H A' → wipe σ' ix = wipe σ ix → Q σ' H
abbrev VGs (X : Cx) (p : Nat) (Γ : List Sh) (ix : List Nat) (tg : List Expr) (tgt : List D → Env → Option Env) : Prop := PGs X tg (tVGs X.K p Γ ix tgt)
theorem wipe_set {σ : L2.St} {i : Nat} {x : Option V} : ∀ {vs : List Nat}, wipe (σ.set i x) (i :: vs) = wipe σ (i :: vs) := by
  have comm : ∀ {vs : List Nat} {σ : L2.St} {x : Option V}, wipe (σ.set i x) vs = (wipe σ vs) ∨ wipe (σ.set i x) vs = (wipe σ vs).set i x := by
    intro vs
    induction vs with
    | nil => intro σ x; exact .inr rfl
    | cons v vs ih =>
      intro σ x
      show (wipe (σ.set i x) vs).set v none = (wipe σ vs).set v none ∨ (wipe (σ.set i x) vs).set v none = ((wipe σ vs).set v none).set i x
      rcases ih (σ := σ) (x := x) with h | h
      · exact .inl (by rw [h])
      · rw [h]
        by_cases e : i = v
        · subst e; exact .inl (by rw [List.set_set])
        · exact .inr (List.set_comm _ _ e)
  intro vs
  show (wipe (σ.set i x) vs).set i none = (wipe σ vs).set i none
  rcases comm (vs := vs) (σ := σ) (x := x) with h | h
  · rw [h]
  · rw [h, List.set_set]
theorem Rel.setS {K : PySem.W.Frag} {p : Nat} {g : Gh} {ρ : Env} {σ : L2.St} {S H : Hp} {A : List Addr} {d : D} {v : V} (r : Rel K p g Γ ρ σ S H A) (o : Rep K S d v) {i : Nat} (hi : Γ[i]? = some .s) (hp : p ≤ i) : ∃ A', Rel K p g Γ (ρ.set i (some d)) (σ.set i (some v)) S H A' := by
  obtain ⟨A', r'⟩ := r.set (sh := .s) (A1 := []) ⟨rfl, o⟩ (by simpa using r.nd) (fun _ z => nomatch z) (List.getElem?_eq_some_iff.mp hi).1 hp
  have e : Γ.set i .s = Γ := by
    apply List.ext_getElem?
    intro j
    by_cases hj : i = j
    · subst hj
      rw [List.getElem?_set_self (List.getElem?_eq_some_iff.mp hi).1, hi]
    · rw [List.getElem?_set_ne hj]
  rw [e] at r'
  exact ⟨A', r'⟩
end
end VL

namespace VL
open PySem PySem.Spec PyProof.Rows L2
open Evl (Ex)
section
variable {X : Cx} {W : Wp} {Γ Γ' Γl : List Sh} {e tg : Expr} {m : ME} {pos p : Pos} {np : Nat} {c : Cfg}
theorem vg_name (i : Nat) {x : Str} (hN : X.N.Nodup) (hi : X.N[i]? = some x := by rfl) (hx : Loc X.env.scope x := by first | exact .inl rfl | exact .inr rfl) (hs : Γ[i]? = some .s := by rfl) (hp : np ≤ i := by exact Nat.le_of_ble_eq_true rfl)
    (hf : X.fn x = true ∨ X.env.scope.names.lookup x = some .local := by first | exact .inl rfl | exact .inr rfl) : VG X np Γ [i] (.Name x pos) (tgName i) := pgImp (pg_name hN hi hx hf) fun v σ H Q ⟨ρ, g, S, A, d, r, hr, q⟩ => by
  obtain ⟨A', r'⟩ := r.setS hr hs hp
  exact q _ A' r' wipe_set
theorem vgs_nil : VGs X np Γ [] [] tgNil := pgsImp pgs_nil fun v σ H Q ⟨ρ, g, S, A, ds, r, hr, q⟩ => by
  cases ds with
  | nil => exact ⟨hr, q σ A r rfl⟩
  | cons d ds => exact q.elim
theorem wipe_append {σ : L2.St} {vs : List Nat} : ∀ {us : List Nat}, wipe σ (us ++ vs) = wipe (wipe σ vs) us
  | [] => rfl
  | u :: us => by
    show (wipe σ (us ++ vs)).set u none = (wipe (wipe σ vs) us).set u none
    rw [wipe_append]
theorem wipe_comm {σ : L2.St} {vs : List Nat} : ∀ {us : List Nat}, wipe (wipe σ vs) us = wipe (wipe σ us) vs := by
  have one : ∀ {us : List Nat} {σ : L2.St} {v : Nat}, wipe (σ.set v none) us = (wipe σ us).set v none := by
    intro us
    induction us with
    | nil => intro σ v; rfl
    | cons u us ih =>
      intro σ v
      show (wipe (σ.set v none) us).set u none = ((wipe σ us).set u none).set v none
      rw [ih]
      by_cases e : v = u
      · subst e; rfl
      · exact List.set_comm _ _ e
  induction vs with
  | nil => intro us; rfl
  | cons v vs ih =>
    intro us
    show wipe ((wipe σ vs).set v none) us = (wipe (wipe σ us) vs).set v none
    rw [one, ih]
theorem vgs_cons {es : List Expr} {t : D → Env → Option Env} {u : List D → Env → Option Env} {ix iy : List Nat} (h1 : VG X np Γ ix e t) (h2 : VGs X np Γ iy es u)
    (hs : (assignEach (e :: es) X.env).map (·.2) = assign e X.env :: (assignEach es X.env).map (·.2) := by rfl) : VGs X np Γ (ix ++ iy) (e :: es) (tgCons t u) := pgsImp (pgs_cons h1 h2 hs) fun v σ H Q ⟨ρ, g, S, A, ds, r, hr, q⟩ => by
  cases ds with
  | nil => exact q.elim
  | cons d ds =>
    obtain ⟨v1, vr, h3, h4, h5⟩ := hr
    refine ⟨v1, vr, h3, ρ, g, S, A, d, r, h4, ?_⟩
    unfold tgCons at q
    cases e1 : t d ρ with
    | none => simp only [e1] at q
    | some ρ1 =>
      simp only [e1] at q
      intro σ1 A1 r1 w1
      refine ⟨ρ1, g, S, A1, ds, r1, h5, ?_⟩
      cases e2 : u ds ρ1 with
      | none => simp only [e2] at q
      | some ρ2 =>
        simp only [e2] at q
        intro σ2 A2 r2 w2
        refine q σ2 A2 r2 ?_
        rw [wipe_append, w2, wipe_comm, w1, wipe_append, wipe_comm]
theorem vg_tup {es : List Expr} {k n : Nat} {u : List D → Env → Option Env} {ix : List Nat} (hc : X.calm = true) (h : VGs X np Γ ix es u) (hn : (assignEach es X.env).length = n := by rfl) (hst : (assignEach es X.env).findIdx? (·.1) = none := by rfl) :
    VG X np Γ ix (.Tuple es k pos) (tgTup n u) := pgImp (pg_tup hc h hn hst) fun v σ H Q ⟨ρ, g, S, A, d, r, hr, q⟩ => by
  cases d with
  | tup ds =>
    unfold tgTup at q
    obtain ⟨a, vs, h1, h2, h3⟩ := hr
    by_cases z : ds.length = n
    · simp only [if_pos z] at q
      exact ⟨a, vs, h1, Evl.ex_t r.sH h2, by rw [← h3.length, z], ρ, g, S, A, ds, r, h3, q⟩
    · simp only [if_neg z] at q
  | _ => exact q.elim
/-- a, b = e -/
def sAsgT (t : D → Env → Option Env) (m : ME) : MS := fun ρ => match m ρ with
  | .fail => .fail
  | .exc x => .ex x ρ
  | .ok d => match t d ρ with
    | some ρ' => .nx ρ'
    | none => .fail
theorem vs_asgT {t : D → Env → Option Env} {ix : List Nat} (he : VE X c.w Γ e .s m) (hg : VG X c.w.p Γ ix tg t) (hcx : c.Cx Γ) (hs : swapsWithSole [tg] e pos.line X.env = pure false := by rfl) (hw : swappedStores [tg] e X.env = pure none := by rfl) (h1 : (assignEach [tg] X.env).map (·.2) = [assign tg X.env] := by rfl) :
    VS X c Γ Γ Γl (.Assign [tg] e pos) (sAsgT t m) := psImp (ps_asg he hg hs hw h1) fun D σ H ⟨ρ, g, S, A, r, q⟩ => by
  unfold sAsgT at q
  refine ⟨ρ, g, S, A, r, ?_⟩
  cases e1 : m ρ with
  | fail => rw [e1] at q; exact q
  | exc x => rw [e1] at q; exact Post.thrown r q hcx
  | ok d =>
    rw [e1] at q
    intro v S1 H1 B1 w1 ⟨_, p1⟩ _ _
    refine ⟨ρ, g, S1, A, d, r.grow w1, p1, ?_⟩
    cases e2 : t d ρ with
    | none => simp only [e2] at q; exact q
    | some ρ' =>
      simp only [e2] at q
      exact fun σ' A' r' _ => q σ' S1 H1 A' r' w1.e
end

/-! ### list comprehensions -/
def wipeD (ρ : Env) : List Nat → Env
  | [] => ρ
  | v :: vs => (wipeD ρ vs).set v none
def lcD (tgt : D → Env → Option Env) (tt : Env → R Bool) (te : ME) (ρ : Env) : List D → Option (List D)
  | [] => some []
  | d :: ds => match tgt d ρ with
    | none => none
    | some ρ1 => match tt ρ1 with
      | .ok true => (match te ρ1 with
        | .ok x => (match lcD tgt tt te ρ ds with
          | some l => some (x :: l)
          | none => none)
        | _ => none)
      | .ok false => lcD tgt tt te ρ ds
      | _ => none
def mLc (vs : List Nat) (tgt : D → Env → Option Env) (it : Env → R (List D)) (tt : Env → R Bool) (te : ME) : ME := fun ρ => match it ρ with
  | .fail => .fail
  | .exc x => .exc x
  | .ok ds => if ds.length ≤ sizeLine then (match lcD tgt tt te (wipeD ρ vs) ds with
    | some l => .ok (.lst l)
    | none => .fail) else .fail
def mYes : Env → R Bool := fun _ => .ok true
abbrev WN (p : Nat) : Wp := ⟨fun _ _ _ _ => False, p⟩
section
variable {K : PySem.W.Frag} {p : Nat} {g : Gh} {Γ : List Sh} {S H : Hp} {A : List Addr}
theorem Rel.wipe1 {ρ : Env} {σ : L2.St} (r : Rel K p g Γ ρ σ S H A) {i : Nat} (hi : Γ[i]? = some .s ∧ p ≤ i) : ∃ A', Rel K p g Γ (ρ.set i none) (σ.set i none) S H A' := by
  obtain ⟨P, A1, Q, q1, q2, q3, q4, _, q6⟩ := r.slots.at_ hi.1
  have z := q6 S H .s none Ex.rfl' (fun _ _ => rfl)
  have e : Γ.set i .s = Γ := by
    apply List.ext_getElem?
    intro j
    by_cases hj : i = j
    · subst hj
      rw [List.getElem?_set_self (List.getElem?_eq_some_iff.mp hi.1).1, hi.1]
    · rw [List.getElem?_set_ne hj]
  rw [e] at z
  have hnd := r.nd
  have hfr := r.fr
  rw [q1] at hnd hfr
  simp only [List.nodup_append, List.mem_append] at hnd hfr
  obtain ⟨n1, ⟨n2, n3, n4⟩, n5⟩ := hnd
  refine ⟨P ++ Q, z, ?_, fun a ha => ?_, r.sH, r.bH, r.s0, r.nw, fun j w hj => ?_, r.pl⟩
  · rw [List.nodup_append]
    exact ⟨n1, n3, fun a ha b hb => n5 a ha b (.inr hb)⟩
  · rcases List.mem_append.mp ha with y | y
    · exact hfr a (.inl y)
    · exact hfr a (.inr (.inr y))
  · rw [List.getElem?_set_ne]
    · exact r.par j w hj
    · have : j < g.vp.length := by
        rw [List.getElem?_eq_some_iff] at hj
        exact hj.1
      have := r.pl
      have := hi.2
      omega
theorem Rel.wipe {ρ : Env} {σ : L2.St} : ∀ {vs : List Nat} {A : List Addr}, Rel K p g Γ ρ σ S H A → (∀ i ∈ vs, Γ[i]? = some .s ∧ p ≤ i) → ∃ A', Rel K p g Γ (wipeD ρ vs) (L2.wipe σ vs) S H A'
  | [], A, r, _ => ⟨A, r⟩
  | v :: vs, A, r, h => by
    obtain ⟨A', r'⟩ := Rel.wipe (vs := vs) r fun i hi => h i (List.mem_cons_of_mem _ hi)
    exact r'.wipe1 (h v List.mem_cons_self)
theorem wipe_idem {σ : L2.St} {vs : List Nat} : L2.wipe (L2.wipe σ vs) vs = L2.wipe σ vs := by
  have one : ∀ {us : List Nat} {σ : L2.St} {v : Nat}, v ∈ us → (L2.wipe σ us).set v none = L2.wipe σ us := by
    intro us
    induction us with
    | nil => intro σ v h; cases h
    | cons u us ih =>
      intro σ v h
      show ((L2.wipe σ us).set u none).set v none = (L2.wipe σ us).set u none
      by_cases e : v = u
      · subst e; rw [List.set_set]
      · rw [List.set_comm _ _ (Ne.symm e), ih ((List.mem_cons.mp h).resolve_left e)]
  have all : ∀ {us : List Nat}, (∀ u ∈ us, u ∈ vs) → L2.wipe (L2.wipe σ vs) us = L2.wipe σ vs := by
    intro us
    induction us with
    | nil => intro _; rfl
    | cons u us ih =>
      intro h
      show (L2.wipe (L2.wipe σ vs) us).set u none = L2.wipe σ vs
      rw [ih fun x hx => h x (List.mem_cons_of_mem _ hx), one (h u List.mem_cons_self)]
  exact all fun _ h => h
theorem all3_ol {K : PySem.W.Frag} {S H : Hp} {sh : Sh} {ds : List D} {vs : List V} {A : List Addr} (h : All3 (Own K S H sh) ds vs A) : ∀ a ∈ A, ∃ o, H a = some o := All3.live (K := K) (S := S) (fun d v A' z => Own.live z) h
theorem all3_snoc {P : D → V → List Addr → Prop} {d : D} {v : V} {A1 : List Addr} (h : P d v A1) : ∀ {ds : List D} {vs : List V} {B : List Addr}, All3 P ds vs B → All3 P (ds ++ [d]) (vs ++ [v]) (B ++ A1)
  | [], _, _, ⟨e1, e2⟩ => by rw [e1, e2]; exact ⟨v, [], A1, [], rfl, by simp, h, rfl, rfl⟩
  | x :: ds, _, _, ⟨w, r, B1, B2, e1, e2, q1, q2⟩ => by
    rw [e1, e2]
    exact ⟨w, r ++ [v], B1, B2 ++ A1, rfl, by rw [List.append_assoc], q1, all3_snoc h q2⟩
end
section
variable {X : Cx} {W : Wp} {Γ : List Sh} {elt tg it : Expr} {ifs : List Expr} {scope : Scope} {own : List (Str × Nat)} {pos : Pos} {mi : Env → R (List D)} {tgt : D → Env → Option Env} {tt : Env → R Bool} {te : ME} {sh : Sh}
theorem lc_ok (hg0 : ∀ i ∈ own.map (·.2), Γ[i]? = some .s ∧ W.p ≤ i) {σ : L2.St} {H : Hp} {Q : VK} (h : tV X.K W Γ (.L sh) (mLc (own.map (·.2)) tgt mi tt te) σ H Q) :
    tLc (tVI X.K W Γ (Yields X.K) mi) (tVG X.K W.p Γ (own.map (·.2)) tgt) (tVT X.K (WN W.p) Γ tt) (tV X.K (WN W.p) Γ sh te) (own.map (·.2)) σ H Q := by
  obtain ⟨ρ, g, S, A, rel, q⟩ := h
  generalize hvs : own.map (·.2) = vs at *
  unfold mLc at q
  refine ⟨ρ, g, S, A, rel, ?_⟩
  cases e1 : mi ρ with
  | fail => rw [e1] at q; exact q
  | exc x => rw [e1] at q; exact q
  | ok ds =>
    simp only [e1] at q
    by_cases hz : ds.length ≤ sizeLine
    · simp only [if_pos hz] at q
      intro J S1 H1 w1 yl D hD
      cases e2 : lcD tgt tt te (wipeD ρ vs) ds with
      | none => simp only [e2] at q
      | some l0 =>
        simp only [e2] at q
        have r1 := rel.grow w1
        have q1 := Gr.trans w1 q
        obtain ⟨A0, rw1⟩ := r1.wipe (vs := vs) hg0
        refine ⟨fun i m H2 => m = ds.length - i ∧ i ≤ ds.length ∧ ∃ S2 done acc B rest, Gw S1 H1 S2 H2 ∧ H2 D = some (.lst acc) ∧ S2 D = none ∧ All3 (Own X.K S2 H2 sh) done acc B ∧ B.Nodup ∧ D ∉ B ∧ (∀ a ∈ B, H1 a = none ∧ S2 a = none) ∧ lcD tgt tt te (wipeD ρ vs) (ds.drop i) = some rest ∧ done ++ rest = l0 ∧ done.length ≤ i,
          ⟨_, rfl, Nat.zero_le _, S1, [], [], [], l0, .newO w1.sH hD, upd_same, sub_new w1.sH hD, ⟨rfl, rfl⟩, List.nodup_nil, by simp, by simp, by simpa using e2, by simp, Nat.le_refl _⟩, ?_⟩
        rintro i m H2 ⟨rfl, hi, S2, done, acc, B, rest, w2, hH2, hS2, al, nd, nB, fB, hrest, happ, hlen⟩
        by_cases hlt : i < ds.length
        · refine .inr ⟨yl.go i S2 H2 w2.e w2.sH hlt, fun H' => ds.length - (i + 1) = ds.length - (i + 1) ∧ i + 1 ≤ ds.length ∧ ∃ S2 done acc B rest, Gw S1 H1 S2 H' ∧ H' D = some (.lst acc) ∧ S2 D = none ∧ All3 (Own X.K S2 H' sh) done acc B ∧ B.Nodup ∧ D ∉ B ∧ (∀ a ∈ B, H1 a = none ∧ S2 a = none) ∧ lcD tgt tt te (wipeD ρ vs) (ds.drop (i + 1)) = some rest ∧ done ++ rest = l0 ∧ done.length ≤ i + 1,
            fun H' h => ⟨_, by omega, h⟩, fun x H' y => ?_⟩
          obtain ⟨S3, w3, rp⟩ := yl.yld i S2 H2 x H' ds[i] w2.e w2.sH y (List.getElem?_eq_getElem hlt)
          have w23 := w2.trans w3
          rw [List.drop_eq_getElem_cons hlt] at hrest
          unfold lcD at hrest
          refine ⟨wipeD ρ vs, g, S3, A0, ds[i], rw1.grow w23, rp, ?_⟩
          cases e3 : tgt ds[i] (wipeD ρ vs) with
          | none => simp only [e3] at hrest; cases hrest
          | some ρ3 =>
            simp only [e3] at hrest
            intro σ3 A3 r3 hw
            refine ⟨by rw [hw, wipe_idem], ρ3, g, S3, A3, r3, ?_⟩
            have hB3 : ∀ a ∈ B, S3 a = none := fun a ha => by
              obtain ⟨o, ho⟩ := all3_ol al a ha
              cases z : S3 a with
              | none => rfl
              | some u =>
                rcases w3.nw a u z with y | y
                · rw [(fB a ha).2] at y; cases y
                · rw [ho] at y; cases y
            have hD3 : S3 D = none := by
              cases z : S3 D with
              | none => rfl
              | some u =>
                rcases w3.nw D u z with y | y
                · rw [hS2] at y; cases y
                · rw [hH2] at y; cases y
            cases e4 : tt ρ3 with
            | fail => simp only [e4] at hrest; cases hrest
            | exc x => simp only [e4] at hrest; cases hrest
            | ok b =>
              simp only [e4] at hrest
              intro S4 H4 w4
              have w34 := w3.trans w4
              have liveB : ∀ a ∈ B, ∃ o, H2 a = some o := fun a ha => all3_ol al a ha
              have al4 : All3 (Own X.K S4 H4 sh) done acc B := al.imp fun d v A' hA z => z.mono w34.e fun a ha => by
                obtain ⟨o, ho⟩ := liveB a (hA a ha)
                rw [ho, w34.eH a o ho]
              have hS4 : ∀ a, (∃ o, H2 a = some o) → S2 a = none → S4 a = none := fun a ⟨o, ho⟩ hs => by
                cases z : S4 a with
                | none => rfl
                | some u =>
                  rcases w34.nw a u z with y | y
                  · rw [hs] at y; cases y
                  · rw [ho] at y; cases y
              cases b with
              | false =>
                simp only [] at hrest
                refine iteF ⟨rfl, hlt, S4, done, acc, B, rest, w2.trans w34, w34.eH _ _ hH2, hS4 D ⟨_, hH2⟩ hS2, al4, nd, nB, fun a ha => ⟨(fB a ha).1, hS4 a (liveB a ha) (fB a ha).2⟩, hrest, happ, by omega⟩
              | true =>
                simp only [] at hrest
                refine iteT ⟨ρ3, g, S4, A3, r3.grow w4, ?_⟩
                cases e5 : te ρ3 with
                | fail => simp only [e5] at hrest; cases hrest
                | exc x => simp only [e5] at hrest; cases hrest
                | ok d5 =>
                  simp only [e5] at hrest
                  cases e6 : lcD tgt tt te (wipeD ρ vs) (ds.drop (i + 1)) with
                  | none => simp only [e6] at hrest; cases hrest
                  | some rest' =>
                    simp only [e6] at hrest
                    cases hrest
                    intro v S5 H5 B5 w5 ow n5 f5
                    have w35 := w34.trans w5
                    have hacc : acc.length = done.length := al.length.symm
                    have hH5 : H5 D = some (.lst acc) := w35.eH _ _ hH2
                    have hS5 : ∀ a, (∃ o, H2 a = some o) → S2 a = none → S5 a = none := fun a ⟨o, ho⟩ hs => by
                      cases z : S5 a with
                      | none => rfl
                      | some u =>
                        rcases w35.nw a u z with y | y
                        · rw [hs] at y; cases y
                        · rw [ho] at y; cases y
                    have h5n : ∀ a ∈ B5, H2 a = none := fun a ha => by
                      cases z : H2 a with
                      | none => rfl
                      | some u => have y := w34.eH a u z; rw [(f5 a ha).1] at y; cases y
                    have nD5 : D ∉ B5 := fun z => by rw [h5n D z] at hH2; cases hH2
                    refine ⟨acc, hH5, by rw [hacc]; omega, rfl, hlt, S5, done ++ [d5], acc ++ [v], B ++ B5, rest', ?_, upd_same, hS5 D ⟨_, hH2⟩ hS2, ?_, ?_, ?_, ?_, rfl, by simpa using happ, by rw [List.length_append]; simp; omega⟩
                    · have w25 := w2.trans w35
                      have s5D := hS5 D ⟨_, hH2⟩ hS2
                      refine ⟨w25.e, fun a o z => ?_, fun a o z => ?_, w25.nw⟩
                      · have ne : a ≠ D := ne_of_none z hD
                        rw [upd_ne ne]; exact w25.eH a o z
                      · have ne : a ≠ D := ne_of_none z s5D
                        rw [upd_ne ne]; exact w25.sH a o z
                    · have up : ∀ a, a ≠ D → upd H5 D (.lst (acc ++ [v])) a = H5 a := fun a h => upd_ne h
                      refine all3_snoc (ow.mono Ex.rfl' fun a ha => up a fun z => nD5 (z ▸ ha)) (al.imp fun d v A' hA z => z.mono w35.e fun a ha => ?_)
                      obtain ⟨o, ho⟩ := liveB a (hA a ha)
                      rw [up a fun z => nB (z ▸ hA a ha), ho, w35.eH a o ho]
                    · rw [List.nodup_append]
                      refine ⟨nd, n5, fun a ha b hb z => ?_⟩
                      subst z
                      obtain ⟨o, ho⟩ := liveB a ha
                      rw [h5n a hb] at ho; cases ho
                    · rw [List.mem_append]
                      exact fun z => z.elim nB nD5
                    · intro a ha
                      rcases List.mem_append.mp ha with z | z
                      · exact ⟨(fB a z).1, hS5 a (liveB a z) (fB a z).2⟩
                      · refine ⟨?_, (f5 a z).2⟩
                        cases y : H1 a with
                        | none => rfl
                        | some u => have t := w2.eH a u y; rw [h5n a z] at t; cases t
        · have e : i = ds.length := by omega
          subst e
          rw [List.drop_length] at hrest
          cases hrest
          rw [List.append_nil] at happ
          subst happ
          refine .inl ⟨yl.stop _ S2 H2 w2.e w2.sH rfl, q1 (.ref D) S2 H2 (D :: B) w2 ⟨D, acc, done, B, rfl, rfl, hH2, rfl, al⟩ (List.nodup_cons.mpr ⟨nB, nd⟩) fun a ha => ?_⟩
          rcases List.mem_cons.mp ha with z | z
          · subst z; exact ⟨hD, hS2⟩
          · exact fB a z
    · simp only [if_neg hz] at q
theorem vts_nil {X : Cx} : PTs X [] (tVT X.K W Γ mYes) := ⟨fun pins s σ H Q I ⟨ρ, g, S, A, r, q⟩ => pts_nil.run pins s σ H Q I (q S H (.rfl' r.sH))⟩
theorem vts_one {X : Cx} {cc : Expr} {t : Env → R Bool} (h : VT X W Γ cc t) : PTs X [cc] (tVT X.K W Γ t) := pts_one h
theorem ve_lc (hc : X.calm = true) (hN : X.N.Nodup) (hi : VI X W Γ tg it mi) (ok : BlkOk X.N X.env.scope scope own) (hg0 : ∀ i ∈ own.map (·.2), Γ[i]? = some .s ∧ W.p ≤ i)
    (hg : ∀ (s : Shared) (H : Hp) (C : Addr) (cl : List (Str × Addr)) (fp : List Addr), VG (X.blk s H scope (compEnvC scope cl C X.env) fp) W.p Γ (own.map (·.2)) tg tgt)
    (ht : ∀ (s : Shared) (H : Hp) (C : Addr) (cl : List (Str × Addr)) (fp : List Addr), PTs (X.blk s H scope (compEnvC scope cl C X.env) fp) ifs (tVT X.K (WN W.p) Γ tt))
    (he : ∀ (s : Shared) (H : Hp) (C : Addr) (cl : List (Str × Addr)) (fp : List Addr), VE (X.blk s H scope (compEnvC scope cl C X.env) fp) (WN W.p) Γ elt sh te) (hs : ∀ x, foldedSetIterable it X.env x = pure x := by intro _; rfl) :
    VE X W Γ (.ListComp elt [⟨tg, it, ifs, 0⟩] scope pos) (.L sh) (mLc (own.map (·.2)) tgt mi tt te) := peImp (pe_lc hc hN hi ok hg ht he hs) fun _ _ _ h => lc_ok hg0 h
theorem vs_setLc {Γl : List Sh} {c : Cfg} (i : Nat) {y : Str} {py spos : Pos} (hc : X.calm = true) (hN : X.N.Nodup) (hsw : swapsWith (.ListComp elt [⟨tg, it, ifs, 0⟩] scope pos) (some (.Name y py)) spos.line X.env = pure true) (hi : VI X c.w Γ tg it mi) (ok : BlkOk X.N X.env.scope scope own) (hg0 : ∀ i ∈ own.map (·.2), Γ[i]? = some .s ∧ c.w.p ≤ i)
    (hg : ∀ (s : Shared) (H : Hp) (C : Addr) (cl : List (Str × Addr)) (fp : List Addr), VG (X.blk s H scope (compEnvC scope cl C X.env) fp) c.w.p Γ (own.map (·.2)) tg tgt)
    (ht : ∀ (s : Shared) (H : Hp) (C : Addr) (cl : List (Str × Addr)) (fp : List Addr), PTs (X.blk s H scope (compEnvC scope cl C X.env) fp) ifs (tVT X.K (WN c.w.p) Γ tt))
    (he : ∀ (s : Shared) (H : Hp) (C : Addr) (cl : List (Str × Addr)) (fp : List Addr), VE (X.blk s H scope (compEnvC scope cl C X.env) fp) (WN c.w.p) Γ elt sh te)
    (hcx : c.Cx Γ) (hy : X.N[i]? = some y := by rfl) (hyl : X.env.scope.names.lookup y = some .local := by rfl) (hl : i < Γ.length := by decide) (hp : c.w.p ≤ i := by exact Nat.le_of_ble_eq_true rfl) (hs : ∀ x, foldedSetIterable it X.env x = pure x := by intro _; rfl) :
    VS X c Γ (Γ.set i (.L sh)) Γl (.Assign [.Name y py] (.ListComp elt [⟨tg, it, ifs, 0⟩] scope pos) spos) (sAsg i (mLc (own.map (·.2)) tgt mi tt te)) := psImp (ps_setLc hc hN hy hyl hsw hi ok hg ht he hs) fun D σ H ⟨ρ, g, S, A, r, q⟩ => by
  refine lc_ok (sh := sh) (tgt := tgt) (tt := tt) (te := te) hg0 ⟨ρ, g, S, A, r, ?_⟩
  unfold sAsg at q
  cases e1 : mLc (own.map (·.2)) tgt mi tt te ρ with
  | fail => rw [e1] at q; exact q
  | exc x => rw [e1] at q; exact Post.thrown r q hcx
  | ok d =>
    rw [e1] at q
    intro v S' H' A1 w o nd fr
    have r' := r.grow w
    obtain ⟨nd', fr'⟩ := r.apart nd fr
    obtain ⟨A2, r2⟩ := r'.set o nd' fr' hl hp
    exact q _ S' H' A2 r2 w.e
end
end VL

namespace VL
open PySem PySem.Spec PyProof.Rows L2
open Evl (Ex)
section
variable {K : PySem.W.Frag} {S H : Hp}
/-! ### flat values -/
def toV : D → Option V
  | .non => some .non
  | .bl b => some (.bl b)
  | .int i => some (.int i)
  | .str s => some (.str s)
  | _ => none
def toVs : List D → Option (List V)
  | [] => some []
  | d :: ds => match toV d, toVs ds with
    | some v, some vs => some (v :: vs)
    | _, _ => none
theorem rep_flat {d : D} {v w : V} (h : toV d = some w) (r : Rep K S d v) : v = w ∧ flatV w = true := by
  cases d <;> cases h <;> exact ⟨r, rfl⟩
theorem reps_flat : ∀ {ds : List D} {vs ws : List V}, toVs ds = some ws → Reps K S ds vs → vs = ws ∧ ws.all flatV = true
  | [], vs, ws, h, r => by cases h; exact ⟨r, rfl⟩
  | d :: ds, vs, ws, h, ⟨v, r, h1, h2, h3⟩ => by
    unfold toVs at h
    cases e1 : toV d with
    | none => simp only [e1] at h; cases h
    | some w =>
      cases e2 : toVs ds with
      | none => simp only [e1, e2] at h; cases h
      | some ws' =>
        simp only [e1, e2] at h
        cases h
        obtain ⟨q1, q2⟩ := rep_flat e1 h2
        obtain ⟨q3, q4⟩ := reps_flat e2 h3
        exact ⟨by rw [h1, q1, q3], by rw [List.all_cons, q2, q4]; rfl⟩
def strsOf : List D → Option (List Str)
  | [] => some []
  | .str s :: ds => match strsOf ds with
    | some r => some (s :: r)
    | none => none
  | _ :: _ => none
theorem strsOf_eq : ∀ {ds : List D} {l : List Str}, strsOf ds = some l → ds = l.map D.str
  | [], l, h => by cases h; rfl
  | .str s :: ds, l, h => by
    unfold strsOf at h
    cases e : strsOf ds with
    | none => rw [e] at h; cases h
    | some r => rw [e] at h; cases h; rw [strsOf_eq e]; rfl
  | .non :: _, _, h | .bl _ :: _, _, h | .int _ :: _, _, h | .lst _ :: _, _, h | .frl _ :: _, _, h | .tup _ :: _, _, h | .dic _ :: _, _, h | .dit _ :: _, _, h | .obj _ _ :: _, _, h => by cases h
@[simp] theorem strsOf_map : ∀ l : List Str, strsOf (l.map D.str) = some l
  | [] => rfl
  | s :: l => by show (match strsOf (l.map D.str) with | some r => some (s :: r) | none => none) = _; rw [strsOf_map l]
theorem reps_strs {vs : List V} : ∀ {l : List Str}, Reps K S (l.map D.str) vs → vs = l.map V.str := by
  intro l
  induction l generalizing vs with
  | nil => intro h; exact h
  | cons s l ih => intro ⟨v, r, h1, h2, h3⟩; rw [h1, show v = .str s from h2, ih h3]; rfl
def intsOf : List D → Option (List Int)
  | [] => some []
  | .int s :: ds => match intsOf ds with
    | some r => some (s :: r)
    | none => none
  | _ :: _ => none
theorem intsOf_eq : ∀ {ds : List D} {l : List Int}, intsOf ds = some l → ds = l.map D.int
  | [], l, h => by cases h; rfl
  | .int s :: ds, l, h => by
    unfold intsOf at h
    cases e : intsOf ds with
    | none => rw [e] at h; cases h
    | some r => rw [e] at h; cases h; rw [intsOf_eq e]; rfl
  | .non :: _, _, h | .bl _ :: _, _, h | .str _ :: _, _, h | .lst _ :: _, _, h | .frl _ :: _, _, h | .tup _ :: _, _, h | .dic _ :: _, _, h | .dit _ :: _, _, h | .obj _ _ :: _, _, h => by cases h
@[simp] theorem intsOf_map : ∀ l : List Int, intsOf (l.map D.int) = some l
  | [] => rfl
  | s :: l => by show (match intsOf (l.map D.int) with | some r => some (s :: r) | none => none) = _; rw [intsOf_map l]
theorem reps_ints {vs : List V} : ∀ {l : List Int}, Reps K S (l.map D.int) vs → vs = l.map V.int := by
  intro l
  induction l generalizing vs with
  | nil => intro h; exact h
  | cons s l ih => intro ⟨v, r, h1, h2, h3⟩; rw [h1, show v = .int s from h2, ih h3]; rfl
theorem ints_reps : ∀ {l : List Int}, Reps K S (l.map D.int) (l.map V.int)
  | [] => rfl
  | _ :: _ => ⟨_, _, rfl, rfl, ints_reps⟩
theorem strs_reps : ∀ {l : List Str}, Reps K S (l.map D.str) (l.map V.str)
  | [] => rfl
  | _ :: _ => ⟨_, _, rfl, rfl, strs_reps⟩
def blsOf : List D → Option (List Bool)
  | [] => some []
  | .bl s :: ds => match blsOf ds with
    | some r => some (s :: r)
    | none => none
  | _ :: _ => none
theorem blsOf_eq : ∀ {ds : List D} {l : List Bool}, blsOf ds = some l → ds = l.map D.bl
  | [], l, h => by cases h; rfl
  | .bl s :: ds, l, h => by
    unfold blsOf at h
    cases e : blsOf ds with
    | none => rw [e] at h; cases h
    | some r => rw [e] at h; cases h; rw [blsOf_eq e]; rfl
  | .non :: _, _, h | .int _ :: _, _, h | .str _ :: _, _, h | .lst _ :: _, _, h | .frl _ :: _, _, h | .tup _ :: _, _, h | .dic _ :: _, _, h | .dit _ :: _, _, h | .obj _ _ :: _, _, h => by cases h
@[simp] theorem blsOf_map : ∀ l : List Bool, blsOf (l.map D.bl) = some l
  | [] => rfl
  | s :: l => by show (match blsOf (l.map D.bl) with | some r => some (s :: r) | none => none) = _; rw [blsOf_map l]
theorem reps_bls {vs : List V} : ∀ {l : List Bool}, Reps K S (l.map D.bl) vs → vs = l.map V.bl := by
  intro l
  induction l generalizing vs with
  | nil => intro h; exact h
  | cons s l ih => intro ⟨v, r, h1, h2, h3⟩; rw [h1, show v = .bl s from h2, ih h3]; rfl

/-! ### operators -/
def line (n : Nat) : Bool := n ≤ 16777216
theorem line_ok {n : Nat} (h : line n = true) : n ≤ sizeLine := by
  rw [sizeLine_eq]
  exact of_decide_eq_true h
def dAdd : D → D → Option D
  | .int i, .int j => some (.int (i + j))
  | .str x, .str y => if line (x.length + y.length) then some (.str (x ++ y)) else none
  | .lst xs, .lst ys => if line (xs.length + ys.length) then some (.lst (xs ++ ys)) else none
  | _, _ => none
def dAddL : D → D → Option D
  | .lst xs, .lst ys => if line (xs.length + ys.length) then some (.lst (xs ++ ys)) else none
  | _, _ => none
abbrev rAddA : R2 := fun x y H Q => (rI0 fun i j => .int (i + j)) x y H Q ∨ ((∃ i j, x = .str i ∧ y = .str j ∧ i.length + j.length ≤ sizeLine ∧ Q (.str (i ++ j)) H) ∨ rCat x y H Q)
theorem op_addA {X : Cx} : OpR X (binaryOp .Add) rAddA := op_add.or (op_add_str.or op_cat)
theorem Reps.append : ∀ {ds es : List D} {vs ws : List V}, Reps K S ds vs → Reps K S es ws → Reps K S (ds ++ es) (vs ++ ws)
  | [], _, _, _, h, h' => by rw [show _ = [] from h]; exact h'
  | _ :: _, _, _, _, ⟨v, r, h1, h2, h3⟩, h' => by rw [h1]; exact ⟨v, _, rfl, h2, h3.append h'⟩
theorem Gr.unL {ds : List D} {Q : VK} (q : Gr K S H .s (.lst ds) Q) : Gr K S H (.L .s) (.lst ds) Q := q.frz
theorem rk_addL : ROk K rAddA dAddL (.L .s) := fun S H dx dy x y d Q sH rx ry e q => by
  unfold dAddL at e
  split at e
  · rename_i xs ys
    split at e
    · rename_i hz
      cases e
      obtain ⟨a, vs, rfl, h2, h3⟩ := rx
      obtain ⟨b, ws, rfl, h5, h6⟩ := ry
      exact .inr (.inr ⟨a, b, vs, ws, rfl, rfl, sH _ _ h2, sH _ _ h5, by rw [← h3.length, ← h6.length]; exact line_ok hz, fun p hp => q.lst sH (h3.append h6) hp⟩)
    · cases e
  · cases e
theorem rk_add : ROk K rAddA dAdd .s := fun S H dx dy x y d Q sH rx ry e q => by
  unfold dAdd at e
  split at e
  · cases e
    exact .inl ⟨_, _, rx, ry, q.same sH rfl⟩
  · split at e
    · rename_i hz
      cases e
      exact .inr (.inl ⟨_, _, rx, ry, line_ok hz, q.same sH rfl⟩)
    · cases e
  · rename_i xs ys
    exact rk_addL S H (.lst xs) (.lst ys) x y d Q sH rx ry e (by
      split at e
      · cases e; exact q.unL
      · cases e)
  · cases e
def dI2 (f : Int → Int → Int) : D → D → Option D
  | .int i, .int j => some (.int (f i j))
  | _, _ => none
theorem rk_I0 {f : Int → Int → Int} : ROk K (rI0 fun i j => .int (f i j)) (dI2 f) .s := fun S H dx dy x y d Q sH rx ry e q => by
  unfold dI2 at e
  split at e
  · cases e; exact ⟨_, _, rx, ry, q.same sH rfl⟩
  · cases e
def dIC (c : Int → Int → Bool) (f : Int → Int → Int) : D → D → Option D
  | .int i, .int j => if c i j then some (.int (f i j)) else none
  | _, _ => none
theorem rk_IC {c : Int → Int → Bool} {C : Int → Int → Prop} (hc : ∀ i j, c i j = true → C i j) {f : Int → Int → Int} : ROk K (rI C fun i j => .int (f i j)) (dIC c f) .s := fun S H dx dy x y d Q sH rx ry e q => by
  unfold dIC at e
  split at e
  · split at e
    · rename_i hz
      cases e; exact ⟨_, _, rx, ry, hc _ _ hz, q.same sH rfl⟩
    · cases e
  · cases e
def lim : Int := 18446744073709551616
noncomputable def cMul (i j : Int) : Bool := cdec ((-lim < i ∧ i < lim) ∨ (-lim < j ∧ j < lim))
theorem cMul_ok {i j : Int} (h : cMul i j = true) : CMul i j := by
  have e : lim = 2 ^ 64 := by decide
  unfold cMul at h
  rw [e, cdec_iff] at h
  simpa [CMul] using h
noncomputable def cDiv (_ j : Int) : Bool := cdec (0 < j ∧ j < 1073741824)
theorem cDiv_ok {i j : Int} (h : cDiv i j = true) : CDiv i j := by
  unfold cDiv at h
  rw [cdec_iff] at h
  simpa [CDiv] using h
noncomputable def cMod (_ j : Int) : Bool := cdec (0 < j)
noncomputable def cSh (_ j : Int) : Bool := cdec (0 ≤ j)
def dSub := dI2 fun i j => i - j
noncomputable def dMulI := dIC cMul fun i j => i * j
noncomputable def dDiv := dIC cDiv fun i j => i / j
noncomputable def dMod := dIC cMod fun i j => i % j
noncomputable def dShr := dIC cSh fun i j => i / 2 ^ j.toNat
def dXor := dI2 fun i j => Builtin.bitXor i j
def dAnd := dI2 fun i j => Builtin.bitAnd i j
theorem rk_sub : ROk K (rI0 fun i j => .int (i - j)) dSub .s := rk_I0
theorem rk_div : ROk K (rI CDiv fun i j => .int (i / j)) dDiv .s := rk_IC fun _ _ => cDiv_ok
theorem rk_mod : ROk K (rI (fun _ j => 0 < j) fun i j => .int (i % j)) dMod .s := rk_IC fun _ _ h => cdec_iff.mp h
theorem rk_shr : ROk K (rI (fun _ j => 0 ≤ j) fun i j => .int (i / 2 ^ j.toNat)) dShr .s := rk_IC fun _ _ h => cdec_iff.mp h
theorem rk_xor : ROk K (rI0 fun i j => .int (Builtin.bitXor i j)) dXor .s := rk_I0
theorem rk_and : ROk K (rI0 fun i j => .int (Builtin.bitAnd i j)) dAnd .s := rk_I0
/-- a product of ints, a list over and over -/
noncomputable def dMulL : D → D → Option D
  | .lst xs, .int k => if cdec (-16777217 < k ∧ k < 16777217) && line (xs.length * k.toNat) then some (.lst (List.replicate k.toNat xs).flatten) else none
  | _, _ => none
abbrev rMulA : R2 := fun x y H Q => (rI CMul fun i j => .int (i * j)) x y H Q ∨ rRep x y H Q
theorem op_mulA {X : Cx} : OpR X (binaryOp .Mult) rMulA := op_mul.or op_rep
theorem Reps.rep {ds : List D} {vs : List V} (h : Reps K S ds vs) : ∀ n : Nat, Reps K S (List.replicate n ds).flatten (List.replicate n vs).flatten
  | 0 => rfl
  | n + 1 => by rw [List.replicate_succ, List.replicate_succ, List.flatten_cons, List.flatten_cons]; exact h.append (h.rep n)
theorem rk_mulL : ROk K rMulA dMulL (.L .s) := fun S H dx dy x y d Q sH rx ry e q => by
  unfold dMulL at e
  split at e
  · rename_i xs k
    split at e
    · rename_i hz
      cases e
      simp only [Bool.and_eq_true, cdec_iff] at hz
      obtain ⟨⟨z1, z2⟩, z3⟩ := hz
      obtain ⟨a, vs, rfl, h2, h3⟩ := rx
      exact .inr ⟨a, k, vs, rfl, ry, sH _ _ h2, by omega, by omega, by rw [← h3.length]; exact line_ok z3, fun p hp => q.lst sH (h3.rep _) hp⟩
    · cases e
  · cases e
theorem rk_mul : ROk K rMulA dMulI .s := fun S H dx dy x y d Q sH rx ry e q => by
  exact .inl (rk_IC (fun _ _ => cMul_ok) S H dx dy x y d Q sH rx ry e q)
def dNeg : D → Option D
  | .int i => some (.int (-i))
  | _ => none
theorem uk_neg : UOk K (rU fun i => .int (-i)) dNeg .s := fun S H dx x d Q sH rx e q => by
  unfold dNeg at e
  split at e
  · cases e; exact ⟨_, rx, q.same sH rfl⟩
  · cases e

/-! ### comparisons -/
def dCmp (p : Int → Int → Bool) : D → D → Option D
  | .int i, .int j => some (.bl (p i j))
  | _, _ => none
theorem rk_cmp {p : Int → Int → Bool} : ROk K (rI0 fun i j => .bl (p i j)) (dCmp p) .s := fun S H dx dy x y d Q sH rx ry e q => by
  unfold dCmp at e
  split at e
  · cases e; exact ⟨_, _, rx, ry, q.same sH rfl⟩
  · cases e
noncomputable def dLe := dCmp fun i j => cdec (i ≤ j)
noncomputable def dGt := dCmp fun i j => cdec (j < i)
noncomputable def dGe := dCmp fun i j => cdec (j ≤ i)
theorem rk_le : ROk K (rI0 fun i j => .bl (decide (i ≤ j))) dLe .s := by
  unfold dLe
  simp only [cdec_eq]
  exact rk_cmp
theorem rk_gt : ROk K (rI0 fun i j => .bl (decide (j < i))) dGt .s := by
  unfold dGt
  simp only [cdec_eq]
  exact rk_cmp
theorem rk_ge : ROk K (rI0 fun i j => .bl (decide (j ≤ i))) dGe .s := by
  unfold dGe
  simp only [cdec_eq]
  exact rk_cmp
noncomputable def dLt : D → D → Option D
  | .int i, .int j => some (.bl (cdec (i < j)))
  | .str x, .str y => some (.bl (decide (x.cps.toList < y.cps.toList)))
  | _, _ => none
abbrev rLtA : R2 := fun x y H Q => (rI0 fun i j => .bl (decide (i < j))) x y H Q ∨ ∃ i j, x = .str i ∧ y = .str j ∧ Q (.bl (decide (i.cps.toList < j.cps.toList))) H
theorem op_ltA {X : Cx} : OpR X (compareOp .Lt) rLtA := op_lt.or op_lt_str
theorem rk_lt : ROk K rLtA dLt .s := fun S H dx dy x y d Q sH rx ry e q => by
  unfold dLt at e
  split at e
  · cases e
    rw [cdec_eq] at q
    exact .inl ⟨_, _, rx, ry, q.same sH rfl⟩
  · cases e; exact .inr ⟨_, _, rx, ry, q.same sH rfl⟩
  · cases e
mutual
def toP : D → Option PyData
  | .non => some .none
  | .bl b => some (.bool b)
  | .int i => some (.int i)
  | .str s => some (.str s)
  | .lst xs => match toPs xs with
    | some l => some (.list l)
    | none => none
  | .frl xs => match toPs xs with
    | some l => some (.list l)
    | none => none
  | .tup xs => match toPs xs with
    | some l => some (.tuple l)
    | none => none
  | .dic _ => none
  | .dit _ => none
  | .obj _ _ => none
def toPs : List D → Option (List PyData)
  | [] => some []
  | d :: ds => match toP d, toPs ds with
    | some p, some l => some (p :: l)
    | _, _ => none
end
mutual
theorem rep_dp : ∀ {d : D} {v : V} {p : PyData}, toP d = some p → Rep K S d v → Dp K S v p
  | .non, v, p, h, r => by cases h; rw [show v = _ from r]; exact .non
  | .bl b, v, p, h, r => by cases h; rw [show v = _ from r]; exact .bl b
  | .int i, v, p, h, r => by cases h; rw [show v = _ from r]; exact .int i
  | .str s, v, p, h, r => by cases h; rw [show v = _ from r]; exact .str s
  | .lst xs, v, p, h, ⟨a, vs, h1, h2, h3⟩ => by
    unfold toP at h
    cases e : toPs xs with
    | none => rw [e] at h; cases h
    | some l => rw [e] at h; cases h; rw [h1]; exact .lst (SqL.of h2) (reps_dp e h3)
  | .frl xs, v, p, h, ⟨a, vs, h1, h2, h3⟩ => by
    unfold toP at h
    cases e : toPs xs with
    | none => rw [e] at h; cases h
    | some l => rw [e] at h; cases h; rw [h1]; exact .lst h2 (reps_dp e h3)
  | .tup xs, v, p, h, ⟨a, vs, h1, h2, h3⟩ => by
    unfold toP at h
    cases e : toPs xs with
    | none => rw [e] at h; cases h
    | some l => rw [e] at h; cases h; rw [h1]; exact .tup h2 (reps_dp e h3)
  | .dic _, _, _, h, _ => by cases h
  | .dit _, _, _, h, _ => by cases h
  | .obj _ _, _, _, h, _ => by cases h
theorem reps_dp : ∀ {ds : List D} {vs : List V} {ps : List PyData}, toPs ds = some ps → Reps K S ds vs → DpAll K S vs ps
  | [], vs, ps, h, r => by cases h; rw [show vs = _ from r]; exact .nil
  | d :: ds, vs, ps, h, ⟨v, r, h1, h2, h3⟩ => by
    unfold toPs at h
    cases e : toP d with
    | none => simp only [e] at h; cases h
    | some p =>
      cases e' : toPs ds with
      | none => simp only [e, e'] at h; cases h
      | some l => simp only [e, e'] at h; cases h; rw [h1]; exact .cons (rep_dp e h2) (reps_dp e' h3)
end
def pEq (x y : D) : Option Bool := match toP x, toP y with
  | some a, some b => if SeqAt.shaped a && SeqAt.shaped b then some (PyData.eqv a b) else none
  | _, _ => none
def dEq (x y : D) : Option D := (pEq x y).map D.bl
def dNe (x y : D) : Option D := (pEq x y).map fun b => D.bl (!b)
theorem rk_eq : ROk K (rEqD K) dEq .s := fun S H dx dy x y d Q sH rx ry e q => by
  unfold dEq pEq at e
  cases e1 : toP dx with
  | none => simp only [e1] at e; cases e
  | some a =>
    cases e2 : toP dy with
    | none => simp only [e1, e2] at e; cases e
    | some b =>
      simp only [e1, e2] at e
      split at e
      · rename_i hs
        cases e
        rw [Bool.and_eq_true] at hs
        exact ⟨a, b, rep_dp e1 (rx.mono sH), rep_dp e2 (ry.mono sH), hs.1, hs.2, q.same sH rfl⟩
      · cases e
theorem rk_ne : ROk K (rNeD K) dNe .s := fun S H dx dy x y d Q sH rx ry e q => by
  unfold dNe pEq at e
  cases e1 : toP dx with
  | none => simp only [e1] at e; cases e
  | some a =>
    cases e2 : toP dy with
    | none => simp only [e1, e2] at e; cases e
    | some b =>
      simp only [e1, e2] at e
      split at e
      · rename_i hs
        cases e
        rw [Bool.and_eq_true] at hs
        exact ⟨a, b, rep_dp e1 (rx.mono sH), rep_dp e2 (ry.mono sH), hs.1, hs.2, q.same sH rfl⟩
      · cases e
/-- x in a text, in a list or tuple of flat items, in a list of items of any depth -/
def strIn (i j : Str) : Bool := !(Builtin.Str.occurrences j i 0 j.length 1).isEmpty
def seqOf : D → Option (List D)
  | .lst ds => some ds
  | .tup ds => some ds
  | .frl ds => some ds
  | _ => none
def bIn (x y : D) : Option Bool := match x, y with
  | .str i, .str j => some (strIn i j)
  | x, .lst ds => (match toV x, toVs ds with
    | some v, some vs => some (inV v vs)
    | _, _ => match toP x, toP (.lst ds) with
      | some a, some (.list b) => if SeqAt.shaped a && SeqAt.shaped (.list b) then some (b.any fun z => PyData.eqv z a) else none
      | _, _ => none)
  | x, .tup ds => (match toV x, toVs ds with
    | some v, some vs => some (inV v vs)
    | _, _ => none)
  | _, _ => none
def dIn (x y : D) : Option D := (bIn x y).map D.bl
def dNotIn (x y : D) : Option D := (bIn x y).map fun b => D.bl (!b)
abbrev rInA (K : PySem.W.Frag) : R2 := fun x y H Q => (∃ i j, x = .str i ∧ y = .str j ∧ Q (.bl (!(Builtin.Str.occurrences j i 0 j.length 1).isEmpty)) H) ∨ (rIn K false x y H Q ∨ rInD K x y H Q)
theorem op_inA {X : Cx} (hu : X.A.units + 65 < cLine) : OpR X (compareOp .In) (rInA X.K) := op_in_str.or (op_in_seq.or (op_inD hu))
abbrev rNotInA (K : PySem.W.Frag) : R2 := fun x y H Q => (∃ i j, x = .str i ∧ y = .str j ∧ Q (.bl (!(!(Builtin.Str.occurrences j i 0 j.length 1).isEmpty))) H) ∨ rIn K true x y H Q
theorem op_notInA {X : Cx} : OpR X (compareOp .NotIn) (rNotInA X.K) := op_notIn_str.or op_notIn_seq
theorem rk_in : ROk K (rInA K) dIn .s := fun S H dx dy x y d Q sH rx ry e q => by
  unfold dIn bIn at e
  split at e
  · cases e; exact .inl ⟨_, _, rx, ry, q.same sH rfl⟩
  · rename_i ds
    split at e
    · rename_i v vs h1 h2
      cases e
      obtain ⟨a, ws, rfl, h3, h4⟩ := ry
      obtain ⟨q1, q2⟩ := rep_flat h1 rx
      obtain ⟨q3, q4⟩ := reps_flat h2 h4
      subst q1 q3
      exact .inr (.inl ⟨a, ws, rfl, .inl (SqL.of (sH _ _ h3)), q2, q4, q.same sH rfl⟩)
    · split at e
      · rename_i a b h1 h2
        split at e
        · rename_i hs
          cases e
          rw [Bool.and_eq_true] at hs
          exact .inr (.inr ⟨a, b, rep_dp h1 (rx.mono sH), rep_dp h2 (ry.mono sH), hs.1, hs.2, q.same sH rfl⟩)
        · cases e
      · cases e
  · rename_i ds
    split at e
    · rename_i v vs h1 h2
      cases e
      obtain ⟨a, ws, rfl, h3, h4⟩ := ry
      obtain ⟨q1, q2⟩ := rep_flat h1 rx
      obtain ⟨q3, q4⟩ := reps_flat h2 h4
      subst q1 q3
      exact .inr (.inl ⟨a, ws, rfl, .inr (Evl.ex_t sH h3), q2, q4, q.same sH rfl⟩)
    · cases e
  · cases e
/-- without the deep one -/
def bInF (x y : D) : Option Bool := match x, y with
  | .str i, .str j => some (strIn i j)
  | x, .lst ds => (match toV x, toVs ds with
    | some v, some vs => some (inV v vs)
    | _, _ => none)
  | x, .tup ds => (match toV x, toVs ds with
    | some v, some vs => some (inV v vs)
    | _, _ => none)
  | _, _ => none
def dNotInF (x y : D) : Option D := (bInF x y).map fun b => D.bl (!b)
theorem rk_notIn : ROk K (rNotInA K) dNotInF .s := fun S H dx dy x y d Q sH rx ry e q => by
  unfold dNotInF bInF at e
  split at e
  · cases e; exact .inl ⟨_, _, rx, ry, q.same sH rfl⟩
  · rename_i ds
    split at e
    · rename_i v vs h1 h2
      cases e
      obtain ⟨a, ws, rfl, h3, h4⟩ := ry
      obtain ⟨q1, q2⟩ := rep_flat h1 rx
      obtain ⟨q3, q4⟩ := reps_flat h2 h4
      subst q1 q3
      exact .inr ⟨a, ws, rfl, .inl (SqL.of (sH _ _ h3)), q2, q4, q.same sH rfl⟩
    · cases e
  · rename_i ds
    split at e
    · rename_i v vs h1 h2
      cases e
      obtain ⟨a, ws, rfl, h3, h4⟩ := ry
      obtain ⟨q1, q2⟩ := rep_flat h1 rx
      obtain ⟨q3, q4⟩ := reps_flat h2 h4
      subst q1 q3
      exact .inr ⟨a, ws, rfl, .inr (Evl.ex_t sH h3), q2, q4, q.same sH rfl⟩
    · cases e
  · cases e
def isNon : D → Bool
  | .non => true
  | _ => false
def dIsN : D → D → Option D
  | x, .non => some (.bl (isNon x))
  | _, _ => none
def dIsNotN : D → D → Option D
  | x, .non => some (.bl (!isNon x))
  | _, _ => none
theorem rep_non : ∀ {d : D} {v : V}, Rep K S d v → decide (v = .non) = isNon d
  | .non, v, r => by rw [show v = _ from r]; rfl
  | .bl _, v, r => by rw [show v = _ from r]; rfl
  | .int _, v, r => by rw [show v = _ from r]; rfl
  | .str _, v, r => by rw [show v = _ from r]; rfl
  | .lst _, v, r => by obtain ⟨_, _, h, _⟩ := r; rw [h]; rfl
  | .frl _, v, r => by obtain ⟨_, _, h, _⟩ := r; rw [h]; rfl
  | .tup _, v, r => by obtain ⟨_, _, h, _⟩ := r; rw [h]; rfl
  | .dic _, v, r => by obtain ⟨_, _, h, _⟩ := r; rw [h]; rfl
  | .dit _, v, r => by obtain ⟨_, _, h, _⟩ := r; rw [h]; rfl
  | .obj _ _, v, r => by obtain ⟨_, _, _, h, _⟩ := r; rw [h]; rfl
theorem rk_isN : ROk K (fun x y H Q => y = .non ∧ Q (.bl (decide (x = .non))) H) dIsN .s := fun S H dx dy x y d Q sH rx ry e q => by
  unfold dIsN at e
  split at e
  · cases e
    exact ⟨ry, by rw [rep_non rx]; exact q.same sH rfl⟩
  · cases e
theorem rk_isNotN : ROk K (fun x y H Q => y = .non ∧ Q (.bl (!decide (x = .non))) H) dIsNotN .s := fun S H dx dy x y d Q sH rx ry e q => by
  unfold dIsNotN at e
  split at e
  · cases e
    exact ⟨ry, by rw [rep_non rx]; exact q.same sH rfl⟩
  · cases e

/-! ### items, slices -/
def dIx : D → D → Option D
  | .lst ds, .int i => atI ds i
  | .frl ds, .int i => atI ds i
  | .tup ds, .int i => atI ds i
  | .str z, .int i => if line z.length then (atI z.cps.toList i).map fun c => .str ⟨#[c]⟩ else none
  | _, _ => none
theorem reps_atI {ds : List D} {vs : List V} {i : Int} {d : D} (h : Reps K S ds vs) (e : atI ds i = some d) : ∃ v, atI vs i = some v ∧ Rep K S d v := by
  unfold atI at e ⊢
  rw [← h.length]
  cases q : ixN ds.length i with
  | none => rw [q] at e; cases e
  | some j =>
    rw [q] at e
    obtain ⟨v, h1, h2⟩ := h.get (show ds[j]? = some d from e)
    exact ⟨v, h1, h2⟩
theorem rk_ix : ROk K (rIx K) dIx .s := fun S H dx dy x y d Q sH rx ry e q => by
  unfold dIx at e
  split at e
  · obtain ⟨a, vs, h1, h2, h3⟩ := rx
    obtain ⟨v, h4, h5⟩ := reps_atI h3 e
    exact .inl ⟨a, vs, _, v, h1, ry, SqL.of (sH _ _ h2), h4, q.same sH h5⟩
  · obtain ⟨a, vs, h1, h2, h3⟩ := rx
    obtain ⟨v, h4, h5⟩ := reps_atI h3 e
    exact .inl ⟨a, vs, _, v, h1, ry, Evl.ex_l sH h2, h4, q.same sH h5⟩
  · obtain ⟨a, vs, h1, h2, h3⟩ := rx
    obtain ⟨v, h4, h5⟩ := reps_atI h3 e
    exact .inr (.inl ⟨a, vs, _, v, h1, ry, Evl.ex_t sH h2, h4, q.same sH h5⟩)
  · split at e
    · rename_i z i hz
      cases e2 : atI z.cps.toList i with
      | none => rw [e2] at e; cases e
      | some c =>
        rw [e2] at e
        cases e
        exact .inr (.inr ⟨z, i, c, rx, ry, line_ok hz, e2, q.same sH rfl⟩)
    · cases e
  · cases e
def cutD (xs : List D) (lo hi : Option Int) : List D := (xs.drop (HT.sIx xs.length 0 lo)).take (HT.sIx xs.length xs.length hi - HT.sIx xs.length 0 lo)
theorem Reps.drop : ∀ {ds : List D} {vs : List V} (n : Nat), Reps K S ds vs → Reps K S (ds.drop n) (vs.drop n)
  | _, _, 0, h => h
  | [], _, n + 1, h => by rw [show _ = [] from h]; rfl
  | _ :: _, _, n + 1, ⟨v, r, h1, h2, h3⟩ => by rw [h1]; exact h3.drop n
theorem Reps.take : ∀ {ds : List D} {vs : List V} (n : Nat), Reps K S ds vs → Reps K S (ds.take n) (vs.take n)
  | _, _, 0, h => rfl
  | [], _, n + 1, h => by rw [show _ = [] from h]; rfl
  | _ :: _, _, n + 1, ⟨v, r, h1, h2, h3⟩ => by rw [h1]; exact ⟨v, _, rfl, h2, h3.take n⟩
theorem reps_cut {ds : List D} {vs : List V} (h : Reps K S ds vs) (lo hi : Option Int) : Reps K S (cutD ds lo hi) (cutV vs lo hi) := by
  unfold cutD cutV
  rw [← h.length]
  exact (h.drop _).take _
def dSlL : D → Option Int → Option Int → Option D
  | .lst ds, lo, hi => some (.lst (cutD ds lo hi))
  | .frl ds, lo, hi => some (.lst (cutD ds lo hi))
  | _, _, _ => none
def dSl : D → Option Int → Option Int → Option D
  | .lst ds, lo, hi => some (.lst (cutD ds lo hi))
  | .frl ds, lo, hi => some (.lst (cutD ds lo hi))
  | .tup ds, lo, hi => some (.tup (cutD ds lo hi))
  | .str z, lo, hi => if line z.length then some (.str (Txt.slice z lo hi)) else none
  | _, _, _ => none
abbrev rSlAll (K : PySem.W.Frag) : V → Option Int → Option Int → Hp → VK → Prop := fun x lo hi H Q => rSlL K x lo hi H Q ∨ (rSlA K x lo hi H Q ∨ C8.rSlX x lo hi H Q)
theorem sl_all {X : Cx} : SlR X (rSlAll X.K) := SlR.or sl_list (SlR.or sl_tupA C8.sl_txt)
theorem sk_slL : SOk K (rSlAll K) dSlL (.L .s) := fun S H dx x lo hi d Q sH rx e q => by
  unfold dSlL at e
  split at e
  · cases e
    obtain ⟨a, vs, h1, h2, h3⟩ := rx
    exact .inl ⟨a, vs, h1, SqL.of (sH _ _ h2), fun p hp => q.lst sH (reps_cut h3 lo hi) hp⟩
  · cases e
    obtain ⟨a, vs, h1, h2, h3⟩ := rx
    exact .inl ⟨a, vs, h1, Evl.ex_l sH h2, fun p hp => q.lst sH (reps_cut h3 lo hi) hp⟩
  · cases e
theorem cutD_all {xs : List D} {lo hi : Option Int} (h : HT.sIx xs.length 0 lo = 0 ∧ HT.sIx xs.length xs.length hi = xs.length) : cutD xs lo hi = xs := by
  unfold cutD
  rw [h.1, h.2]
  simp
theorem sk_sl : SOk K (rSlAll K) dSl .s := fun S H dx x lo hi d Q sH rx e q => by
  unfold dSl at e
  split at e
  · cases e
    exact sk_slL S H _ x lo hi _ Q sH rx rfl q.unL
  · cases e
    exact sk_slL S H _ x lo hi _ Q sH rx rfl q.unL
  · cases e
    obtain ⟨a, vs, h1, h2, h3⟩ := rx
    refine .inr (.inl ⟨a, vs, h1, Evl.ex_t sH h2, fun hw => ?_, fun _ p hp => q.tup sH (reps_cut h3 lo hi) hp⟩)
    rw [← h3.length] at hw
    rw [cutD_all hw] at q
    rw [← h1]
    exact q.same sH ⟨a, vs, h1, h2, h3⟩
  · split at e
    · rename_i hz
      cases e
      exact .inr (.inr ⟨_, rx, line_ok hz, q.same sH rfl⟩)
    · cases e
  · cases e
end
end VL

namespace VL
open PySem PySem.Spec PyProof.Rows L2
open Evl (Ex)
section
variable {K : PySem.W.Frag} {S H : Hp}
/-! ### built-in functions -/
def dLen : List D → Option D
  | [.lst ds] => some (.int ds.length)
  | [.frl ds] => some (.int ds.length)
  | [.tup ds] => some (.int ds.length)
  | [.str z] => if line z.length then some (.int z.length) else none
  | [.dic kvs] => some (.int kvs.length)
  | _ => none
abbrev rLenA (K : PySem.W.Frag) : List V → Hp → VK → Prop := fun xs H Q => (∃ x n, xs = [x] ∧ LenV K x H n ∧ Q (.int n) H) ∨ (∃ a kvs, xs = [V.ref a] ∧ H a = some (.dK kvs) ∧ Q (.int kvs.length) H)
theorem callOr {X : Cx} {f : Value} {r r' : List V → Hp → VK → Prop} (h : CallR X f r) (h' : CallR X f r') : CallR X f (fun vs H Q => r vs H Q ∨ r' vs H Q) := fun pins s σ H vs us Q I rv q => q.elim (h pins s σ H vs us Q I rv) (h' pins s σ H vs us Q I rv)
theorem call_lenA {X : Cx} : CallR X (.builtin "len") (rLenA X.K) := callOr call_len call_lenD
theorem RepK.length : ∀ {ds : List (L2.Key × D)} {vs : List (L2.Key × V)}, RepK K S ds vs → ds.length = vs.length
  | [], _, h => by rw [show _ = [] from h]; rfl
  | (_, _) :: _, _, ⟨v, r, h1, _, h3⟩ => by rw [h1, List.length_cons, List.length_cons, RepK.length h3]
theorem ck_len : COk K (rLenA K) dLen .s := fun S H dx xs d Q sH rx e q => by
  unfold dLen at e
  split at e
  · obtain ⟨v, rfl, a, vs, h1, h2, h3⟩ := reps1 rx
    cases e
    exact .inl ⟨_, _, rfl, by rw [h1]; exact .inl ⟨vs, SqL.of (sH _ _ h2), h3.length⟩, q.same sH rfl⟩
  · obtain ⟨v, rfl, a, vs, h1, h2, h3⟩ := reps1 rx
    cases e
    exact .inl ⟨_, _, rfl, by rw [h1]; exact .inl ⟨vs, Evl.ex_l sH h2, h3.length⟩, q.same sH rfl⟩
  · obtain ⟨v, rfl, a, vs, h1, h2, h3⟩ := reps1 rx
    cases e
    exact .inl ⟨_, _, rfl, by rw [h1]; exact .inr ⟨vs, Evl.ex_t sH h2, h3.length⟩, q.same sH rfl⟩
  · obtain ⟨v, rfl, hv⟩ := reps1 rx
    split at e
    · rename_i z hz
      cases e
      exact .inl ⟨_, _, rfl, by rw [show v = _ from hv]; exact ⟨line_ok hz, rfl⟩, q.same sH rfl⟩
    · cases e
  · obtain ⟨v, rfl, a, vs, h1, h2, h3⟩ := reps1 rx
    cases e
    exact .inr ⟨a, vs, by rw [h1], sH _ _ h2, by rw [← h3.length]; exact q.same sH rfl⟩
  · cases e
def dAbs : List D → Option D
  | [.int i] => some (.int (if i < 0 then -i else i))
  | _ => none
theorem ck_abs : COk K (fun xs H Q => ∃ i, xs = [.int i] ∧ Q (.int (if i < 0 then -i else i)) H) dAbs .s := fun S H dx xs d Q sH rx e q => by
  unfold dAbs at e
  split at e
  · obtain ⟨v, rfl, hv⟩ := reps1 rx
    cases e
    exact ⟨_, by rw [show v = _ from hv], q.same sH rfl⟩
  · cases e
def dInt : List D → Option D
  | [.int i] => some (.int i)
  | [.bl k] => some (.int (if k then 1 else 0))
  | _ => none
theorem ck_int : COk K (fun xs H Q => (∃ i, xs = [.int i] ∧ Q (.int i) H) ∨ ∃ k, xs = [.bl k] ∧ Q (.int (if k then 1 else 0)) H) dInt .s := fun S H dx xs d Q sH rx e q => by
  unfold dInt at e
  split at e
  · obtain ⟨v, rfl, hv⟩ := reps1 rx
    cases e
    exact .inl ⟨_, by rw [show v = _ from hv], q.same sH rfl⟩
  · obtain ⟨v, rfl, hv⟩ := reps1 rx
    cases e
    exact .inr ⟨_, by rw [show v = _ from hv], q.same sH rfl⟩
  · cases e
def dMax2 : List D → Option D
  | [.int i, .int j] => some (.int (if j > i then j else i))
  | _ => none
theorem ck_max2 : COk K (fun xs H Q => ∃ i j, xs = [.int i, .int j] ∧ Q (.int (if j > i then j else i)) H) dMax2 .s := fun S H dx xs d Q sH rx e q => by
  unfold dMax2 at e
  split at e
  · obtain ⟨v, v', rfl, hv, hv'⟩ := reps2 rx
    cases e
    exact ⟨_, _, by rw [show v = _ from hv, show v' = _ from hv'], q.same sH rfl⟩
  · cases e
def dMin2 : List D → Option D
  | [.int i, .int j] => some (.int (if j < i then j else i))
  | _ => none
theorem ck_min2 : COk K (fun xs H Q => ∃ i j, xs = [.int i, .int j] ∧ Q (.int (if j < i then j else i)) H) dMin2 .s := fun S H dx xs d Q sH rx e q => by
  unfold dMin2 at e
  split at e
  · obtain ⟨v, v', rfl, hv, hv'⟩ := reps2 rx
    cases e
    exact ⟨_, _, by rw [show v = _ from hv, show v' = _ from hv'], q.same sH rfl⟩
  · cases e
def dList : List D → Option D
  | [.lst ds] => some (.lst ds)
  | [.tup ds] => some (.lst ds)
  | [.frl ds] => some (.lst ds)
  | _ => none
abbrev rListA (K : PySem.W.Frag) : List V → Hp → VK → Prop := fun xs H Q => ∃ p ys, xs = [.ref p] ∧ (SqL K H p ys ∨ SqT K H p ys) ∧ ∀ l, H l = none → Q (.ref l) (upd H l (.lst ys))
theorem ck_list : COk K (rListA K) dList (.L .s) := fun S H dx xs d Q sH rx e q => by
  unfold dList at e
  split at e
  · obtain ⟨v, rfl, a, vs, h1, h2, h3⟩ := reps1 rx
    cases e
    exact ⟨a, vs, by rw [h1], .inl (SqL.of (sH _ _ h2)), fun p hp => q.lst sH h3 hp⟩
  · obtain ⟨v, rfl, a, vs, h1, h2, h3⟩ := reps1 rx
    cases e
    exact ⟨a, vs, by rw [h1], .inr (Evl.ex_t sH h2), fun p hp => q.lst sH h3 hp⟩
  · obtain ⟨v, rfl, a, vs, h1, h2, h3⟩ := reps1 rx
    cases e
    exact ⟨a, vs, by rw [h1], .inl (Evl.ex_l sH h2), fun p hp => q.lst sH h3 hp⟩
  · cases e
def dTuple : List D → Option D
  | [.lst ds] => some (.tup ds)
  | [.frl ds] => some (.tup ds)
  | [.tup ds] => some (.tup ds)
  | _ => none
abbrev rTupA (K : PySem.W.Frag) : List V → Hp → VK → Prop := fun xs H Q => ∃ p ys, xs = [.ref p] ∧ ((SqL K H p ys ∧ ∀ l, H l = none → Q (.ref l) (upd H l (.tup ys))) ∨ (SqT K H p ys ∧ Q (.ref p) H))
theorem ck_tuple : COk K (rTupA K) dTuple .s := fun S H dx xs d Q sH rx e q => by
  unfold dTuple at e
  split at e
  · obtain ⟨v, rfl, a, vs, h1, h2, h3⟩ := reps1 rx
    cases e
    exact ⟨a, vs, by rw [h1], .inl ⟨SqL.of (sH _ _ h2), fun p hp => q.tup sH h3 hp⟩⟩
  · obtain ⟨v, rfl, a, vs, h1, h2, h3⟩ := reps1 rx
    cases e
    exact ⟨a, vs, by rw [h1], .inl ⟨Evl.ex_l sH h2, fun p hp => q.tup sH h3 hp⟩⟩
  · obtain ⟨v, rfl, a, vs, h1, h2, h3⟩ := reps1 rx
    cases e
    exact ⟨a, vs, by rw [h1], .inr ⟨Evl.ex_t sH h2, q.same sH ⟨a, vs, rfl, h2, h3⟩⟩⟩
  · cases e
def dAll : List D → Option D
  | [.lst ds] => (blsOf ds).map fun l => .bl (l.all id)
  | _ => none
theorem ck_all : COk K (rAll K) dAll .s := fun S H dx xs d Q sH rx e q => by
  unfold dAll at e
  split at e
  · rename_i ds
    obtain ⟨v, rfl, a, vs, h1, h2, h3⟩ := reps1 rx
    cases e1 : blsOf ds with
    | none => rw [e1] at e; cases e
    | some l =>
      rw [e1] at e
      cases e
      have z := blsOf_eq e1
      subst z
      exact ⟨a, l, by rw [h1], by rw [← reps_bls h3]; exact SqL.of (sH _ _ h2), q.same sH rfl⟩
  · cases e
def dAny : List D → Option D
  | [.lst ds] => (blsOf ds).map fun l => .bl (l.any id)
  | _ => none
theorem ck_any : COk K (rAny K) dAny .s := fun S H dx xs d Q sH rx e q => by
  unfold dAny at e
  split at e
  · rename_i ds
    obtain ⟨v, rfl, a, vs, h1, h2, h3⟩ := reps1 rx
    cases e1 : blsOf ds with
    | none => rw [e1] at e; cases e
    | some l =>
      rw [e1] at e
      cases e
      have z := blsOf_eq e1
      subst z
      exact ⟨a, l, by rw [h1], by rw [← reps_bls h3]; exact SqL.of (sH _ _ h2), q.same sH rfl⟩
  · cases e
def dSum : List D → Option D
  | [.lst ds] => (intsOf ds).map fun l => .int l.sum
  | _ => none
theorem ck_sum : COk K (rSum K) dSum .s := fun S H dx xs d Q sH rx e q => by
  unfold dSum at e
  split at e
  · rename_i ds
    obtain ⟨v, rfl, a, vs, h1, h2, h3⟩ := reps1 rx
    cases e1 : intsOf ds with
    | none => rw [e1] at e; cases e
    | some l =>
      rw [e1] at e
      cases e
      have z := intsOf_eq e1
      subst z
      exact ⟨a, l, by rw [h1], by rw [← reps_ints h3]; exact SqL.of (sH _ _ h2), q.same sH rfl⟩
  · cases e

/-! ### sorted -/
def leStr (x y : Str) : Bool := !decide (y.cps.toList < x.cps.toList)
/-- the texts' list in order -/
def sortStr (l : List Str) : List Str := l.mergeSort leStr
theorem leStr_trans (a b c : Str) (h1 : leStr a b = true) (h2 : leStr b c = true) : leStr a c = true := by
  simp only [leStr, Bool.not_eq_true', decide_eq_false_iff_not] at *
  exact List.not_lt.mpr (List.le_trans (List.not_lt.mp h1) (List.not_lt.mp h2))
theorem leStr_total (a b : Str) : (leStr a b || leStr b a) = true := by
  simp only [leStr, Bool.or_eq_true, Bool.not_eq_true', decide_eq_false_iff_not]
  by_cases h : b.cps.toList < a.cps.toList
  · exact .inr (List.lt_asymm h)
  · exact .inl h
theorem leStr_anti {a b : Str} (h1 : leStr a b = true) (h2 : leStr b a = true) : a = b := by
  simp only [leStr, Bool.not_eq_true', decide_eq_false_iff_not] at h1 h2
  have e : a.cps.toList = b.cps.toList := List.le_antisymm (List.not_lt.mp h1) (List.not_lt.mp h2)
  obtain ⟨x⟩ := a
  obtain ⟨y⟩ := b
  have e2 : x = y := by simpa using e
  rw [e2]
theorem rising_pw : ∀ {l : List Str} {p : Str}, risingS p l = true → (p :: l).Pairwise fun a b => leStr a b = true
  | [], p, _ => by simp
  | x :: r, p, h => by
    have h' : (!ltCps x.cps.toList p.cps.toList && risingS x r) = true := h
    rw [Bool.and_eq_true] at h'
    have ih := rising_pw h'.2
    have hx : leStr p x = true := by
      have z := h'.1
      rw [ltCps_eq] at z
      exact z
    refine List.pairwise_cons.mpr ⟨fun y hy => ?_, ih⟩
    rcases List.mem_cons.mp hy with rfl | hy
    · exact hx
    · exact leStr_trans _ _ _ hx (List.rel_of_pairwise_cons ih hy)
theorem sortStr_of {l ys : List Str} (hp : ys.Perm l) (hs : sortedS ys = true) : ys = sortStr l := by
  have h1 : ys.Pairwise fun a b => leStr a b = true := by
    cases ys with
    | nil => exact .nil
    | cons x r => exact rising_pw hs
  refine List.Perm.eq_of_pairwise (le := fun a b => leStr a b = true) (fun a b _ _ => leStr_anti) h1 (List.pairwise_mergeSort leStr_trans leStr_total l) (hp.trans (List.mergeSort_perm l leStr).symm)
def leI (x y : Int) : Bool := decide (x ≤ y)
def sortInt (l : List Int) : List Int := l.mergeSort leI
theorem sortInt_of {l ys : List Int} (hp : ys.Perm l) (hs : ys.Pairwise (· ≤ ·)) : ys = sortInt l := by
  refine List.Perm.eq_of_pairwise (le := fun a b => leI a b = true) (fun a b _ _ h1 h2 => ?_) (hs.imp fun h => by simpa [leI] using h) (List.pairwise_mergeSort (fun a b c h1 h2 => ?_) (fun a b => ?_) l) (hp.trans (List.mergeSort_perm l leI).symm)
  · simp [leI] at h1 h2; omega
  · simp [leI] at h1 h2 ⊢; omega
  · simp [leI]; omega
def strKeys : List (L2.Key × D) → Option (List Str)
  | [] => some []
  | (.inr s, _) :: r => match strKeys r with
    | some l => some (s :: l)
    | none => none
  | _ :: _ => none
theorem strKeys_eq : ∀ {kvs : List (L2.Key × D)} {l : List Str}, strKeys kvs = some l → kvs.map (·.1) = l.map Sum.inr
  | [], l, h => by cases h; rfl
  | (.inr s, d) :: r, l, h => by
    unfold strKeys at h
    cases e : strKeys r with
    | none => rw [e] at h; cases h
    | some t => rw [e] at h; cases h; rw [List.map_cons, List.map_cons, strKeys_eq e]
  | (.inl _, _) :: _, _, h => by cases h
def dSorted : List D → Option D
  | [.lst ds] => (match strsOf ds with
    | some l => if l.length < 64 then some (.lst ((sortStr l).map D.str)) else none
    | none => match intsOf ds with
      | some l => if l.length < 64 then some (.lst ((sortInt l).map D.int)) else none
      | none => none)
  | [.dic kvs] => (match strKeys kvs with
    | some l => if l.length < 64 then some (.lst ((sortStr l).map D.str)) else none
    | none => none)
  | _ => none
abbrev rSortA (K : PySem.W.Frag) : List V → Hp → VK → Prop := fun xs H Q => rSortedS K xs H Q ∨ (rSorted K xs H Q ∨ (∃ (a : Addr) (kvs : List (L2.Key × V)) (ks : List Str), xs = [.ref a] ∧ Rd H a (.dK kvs) ∧ kvs.map (·.1) = ks.map Sum.inr ∧ ks.length < 64 ∧
    ∀ ys p, ys.Perm ks → sortedS ys = true → H p = none → Q (.ref p) (upd H p (.lst (ys.map V.str)))))
theorem call_sortedA {X : Cx} (hc : X.calm = true) : CallR X (.builtin "sorted") (rSortA X.K) := callOr cr_sortedS (callOr cr_sorted (call_sortedD hc))
theorem repK_keys : ∀ {ds : List (L2.Key × D)} {vs : List (L2.Key × V)}, RepK K S ds vs → ds.map (·.1) = vs.map (·.1)
  | [], _, h => by rw [show _ = [] from h]; rfl
  | (_, _) :: _, _, ⟨v, r, h1, _, h3⟩ => by rw [h1, List.map_cons, List.map_cons, repK_keys h3]
theorem ck_sorted : COk K (rSortA K) dSorted (.L .s) := fun S H dx xs d Q sH rx e q => by
  unfold dSorted at e
  split at e
  · rename_i ds
    obtain ⟨v, rfl, a, vs, h1, h2, h3⟩ := reps1 rx
    cases e1 : strsOf ds with
    | some l =>
      rw [e1] at e
      have z := strsOf_eq e1
      subst z
      by_cases hl : l.length < 64
      · simp only [if_pos hl] at e
        cases e
        refine .inl ⟨a, l, by rw [h1], by rw [← reps_strs h3]; exact SqL.of (sH _ _ h2), hl, fun ys p hp hs hn => ?_⟩
        rw [sortStr_of hp hs]
        exact q.lst sH strs_reps hn
      · simp only [if_neg hl] at e; cases e
    | none =>
      rw [e1] at e
      simp only at e
      cases e2 : intsOf ds with
      | none => rw [e2] at e; cases e
      | some l =>
        rw [e2] at e
        have z := intsOf_eq e2
        subst z
        by_cases hl : l.length < 64
        · simp only [if_pos hl] at e
          cases e
          refine .inr (.inl ⟨a, l, by rw [h1], by rw [← reps_ints h3]; exact SqL.of (sH _ _ h2), hl, fun ys p hp hs hn => ?_⟩)
          rw [sortInt_of hp hs]
          exact q.lst sH ints_reps hn
        · simp only [if_neg hl] at e; cases e
  · rename_i kvs
    obtain ⟨v, rfl, a, ws, h1, h2, h3⟩ := reps1 rx
    cases e1 : strKeys kvs with
    | none => rw [e1] at e; cases e
    | some l =>
      rw [e1] at e
      by_cases hl : l.length < 64
      · simp only [if_pos hl] at e
        cases e
        refine .inr (.inr ⟨a, ws, l, by rw [h1], .inl (sH _ _ h2), by rw [← repK_keys h3]; exact strKeys_eq e1, hl, fun ys p hp hs hn => ?_⟩)
        rw [sortStr_of hp hs]
        exact q.lst sH strs_reps hn
      · simp only [if_neg hl] at e; cases e
  · cases e

/-! ### isinstance with a built-in type -/
def dIsi (T : String) : D → Option D
  | .non => (kitB "NoneType" T).map D.bl
  | .bl _ => (kitB "bool" T).map D.bl
  | .int _ => (kitB "int" T).map D.bl
  | .str _ => (kitB "str" T).map D.bl
  | .lst _ => (kitB "list" T).map D.bl
  | .tup _ => (kitB "tuple" T).map D.bl
  | .dic _ => (kitB "dict" T).map D.bl
  | _ => none
theorem ty_tup {a : Addr} {vs : List V} (h : SqT K H a vs) : TyX K H (.ref a) (.type "tuple") := by
  rcases h with (h | ⟨o, h⟩) | ⟨o, _, _, h, hc, _⟩
  · exact .base (.tup h)
  · exact .fTuple h
  · exact .kTuple h hc
theorem isi_core {T : String} {S H : Hp} {dx : D} {x : V} {d : D} {Q : VK} (sH : Ex S H) (rx : Rep K S dx x) (e : dIsi T dx = some d) (q : Gr K S H .s d Q) : rIsi K [x, .ty T] H Q := by
  have fin : ∀ {t : String}, TyX K H x (.type t) → (kitB t T).map D.bl = some d → rIsi K [x, .ty T] H Q := fun {t} ht he => by
    cases hb : kitB t T with
    | none => rw [hb] at he; cases he
    | some b =>
      rw [hb] at he
      cases he
      exact ⟨x, .ty T, .type t, .type T, b, rfl, .ty T, ht, kit_ty hb, q.same sH rfl⟩
  cases dx with
  | non => exact fin (t := "NoneType") (by rw [show x = _ from rx]; exact .base .non) e
  | bl b => exact fin (t := "bool") (by rw [show x = _ from rx]; exact .base (.bl b)) e
  | int i => exact fin (t := "int") (by rw [show x = _ from rx]; exact .base (.int i)) e
  | str z => exact fin (t := "str") (by rw [show x = _ from rx]; exact .base (.str z)) e
  | lst ds => obtain ⟨a, vs, h1, h2, _⟩ := rx; exact fin (t := "list") (by rw [h1]; exact .base (.lst (sH _ _ h2))) e
  | tup ds => obtain ⟨a, vs, h1, h2, _⟩ := rx; exact fin (t := "tuple") (by rw [h1]; exact ty_tup (Evl.ex_t sH h2)) e
  | dic kvs => obtain ⟨a, vs, h1, h2, _⟩ := rx; exact fin (t := "dict") (by rw [h1]; exact .base (.dK (sH _ _ h2))) e
  | _ => cases e
end
section
variable {X : Cx} {W : Wp} {Γ : List Sh} {e : Expr} {m : ME} {pos p p2 : Pos}
theorem ve_isi {T : String} {tn : Str} (hg : Gl X "isinstance") (hm : X.mg "isinstance" = none) (hg2 : Gl X tn) (hm2 : X.mg tn = none) (hv2 : bootBuiltins tn = some (.type T)) (ha : VE X W Γ e .s m) (hn2 : tn ≠ "__name__" := by decide) (hd2 : (tn == ("__debug__" : Str)) = false := by decide)
    (hs : starEach (e :: [.Name tn p2]) X.env = (false, eval e X.env) :: starEach [.Name tn p2] X.env := by rfl) (hs2 : starEach (.Name tn p2 :: []) X.env = (false, eval (.Name tn p2) X.env) :: starEach [] X.env := by rfl)
    (hpl : (backTo pos (starEach [.Name tn p2] X.env)).any (·.1) = false := by rfl) : VE X W Γ (.Call (.Name "isinstance" p) [e, .Name tn p2] [] pos) .s (mUn (dIsi T) m) :=
  peImp (pe_callB call_isi hg hm PyProof.Rows.boot_isinstance (pa_cons ha (pa_cons (pe_bltn hg2 hm2 hv2 (v := .ty T) rfl hn2 hd2) pa_nil hs2) hs) (by decide) (by decide) hs hpl) fun σ H Q h =>
    un_ok (r := fun x H1 Q => rIsi X.K [x, .ty T] H1 Q) (fun S H dx x d Q sH rx e q => isi_core sH rx e q) h
end

/-! ### methods of texts -/
section
variable {K : PySem.W.Frag}
def dStr1 (c : Str → Bool) (f : Str → Str) : D → List D → Option D
  | .str a, [] => if c a then some (.str (f a)) else none
  | _, _ => none
theorem mk_str1 {c : Str → Bool} {C : Str → Prop} {f : Str → Str} (hc : ∀ a, c a = true → C a) : MOk K "str" (fun x xs H Q => ∃ a, x = .str a ∧ xs = [] ∧ C a ∧ Q (.str (f a)) H) (dStr1 c f) .s := fun dx ds d e => by
  unfold dStr1 at e
  split at e
  · split at e
    · rename_i hz
      cases e
      exact ⟨fun S H x sH rx => by rw [show x = _ from rx]; rfl, fun S H x vs Q sH rx rs q => ⟨_, rx, rs, hc _ hz, q.same sH rfl⟩⟩
    · cases e
  · cases e
def cLow (a : Str) : Bool := decide (a.length ≤ 5592405)
def dLower := dStr1 cLow Txt.lower
def dUpper := dStr1 cLow Txt.upper
theorem mk_lower : MOk K "str" (fun x xs H Q => ∃ a, x = .str a ∧ xs = [] ∧ a.length ≤ 5592405 ∧ Q (.str (Txt.lower a)) H) dLower .s := mk_str1 fun _ h => of_decide_eq_true h
theorem mk_upper : MOk K "str" (fun x xs H Q => ∃ a, x = .str a ∧ xs = [] ∧ a.length ≤ 5592405 ∧ Q (.str (Txt.upper a)) H) dUpper .s := mk_str1 fun _ h => of_decide_eq_true h
def dJoin : D → List D → Option D
  | .str a, [.lst ds] => (match strsOf ds with
    | some l => if line ((l.map (·.length)).sum + l.length * a.length) then some (.str (Txt.join a l)) else none
    | none => none)
  | .str a, [.tup ds] => (match strsOf ds with
    | some l => if line ((l.map (·.length)).sum + l.length * a.length) then some (.str (Txt.join a l)) else none
    | none => none)
  | _, _ => none
theorem mk_join : MOk K "str" (fun x xs H Q => ∃ a p, ∃ ys : List Str, x = .str a ∧ xs = [.ref p] ∧ (SqL K H p (ys.map V.str) ∨ SqT K H p (ys.map V.str)) ∧
    (ys.map (·.length)).sum + ys.length * a.length ≤ 16777216 ∧ Q (.str (Txt.join a ys)) H) dJoin .s := fun dx ds d e => by
  unfold dJoin at e
  split at e
  · rename_i a ds
    cases e1 : strsOf ds with
    | none => rw [e1] at e; cases e
    | some l =>
      rw [e1] at e
      have z := strsOf_eq e1
      subst z
      simp only at e
      split at e
      · rename_i hz
        cases e
        refine ⟨fun S H x sH rx => by rw [show x = _ from rx]; rfl, fun S H x vs Q sH rx rs q => ?_⟩
        obtain ⟨v, rfl, p, ws, h1, h2, h3⟩ := reps1 rs
        exact ⟨a, p, l, rx, by rw [h1], .inl (by rw [← reps_strs h3]; exact SqL.of (sH _ _ h2)), of_decide_eq_true hz, q.same sH rfl⟩
      · cases e
  · rename_i a ds
    cases e1 : strsOf ds with
    | none => rw [e1] at e; cases e
    | some l =>
      rw [e1] at e
      have z := strsOf_eq e1
      subst z
      simp only at e
      split at e
      · rename_i hz
        cases e
        refine ⟨fun S H x sH rx => by rw [show x = _ from rx]; rfl, fun S H x vs Q sH rx rs q => ?_⟩
        obtain ⟨v, rfl, p, ws, h1, h2, h3⟩ := reps1 rs
        exact ⟨a, p, l, rx, by rw [h1], .inr (by rw [← reps_strs h3]; exact Evl.ex_t sH h2), of_decide_eq_true hz, q.same sH rfl⟩
      · cases e
  · cases e
end
end VL

namespace VL
open PySem PySem.Spec PyProof.Rows L2
open Evl (Ex)
/-! ### places within what a slot alone holds -/
def setSnd {α β : Type} : List (α × β) → Nat → β → List (α × β)
  | [], _, _ => []
  | (k, _) :: r, 0, x => (k, x) :: r
  | p :: r, j + 1, x => p :: setSnd r j x
def kid : Sh → D → Nat → Option (Sh × D)
  | .L e, .lst ds, j => ds[j]?.map fun d => (e, d)
  | .M e, .dic kvs, j => kvs[j]?.map fun p => (e, p.2)
  | .T es, .tup ds, j => match es[j]?, ds[j]? with
    | some e, some d => some (e, d)
    | _, _ => none
  | .O es, .obj _ fs, j => match es[j]?, fs[j]? with
    | some e, some p => some (e, p.2)
    | _, _ => none
  | _, _, _ => none
def setKid : D → Nat → D → D
  | .lst ds, j, x => .lst (ds.set j x)
  | .tup ds, j, x => .tup (ds.set j x)
  | .dic kvs, j, x => .dic (setSnd kvs j x)
  | .obj c fs, j, x => .obj c (setSnd fs j x)
  | d, _, _ => d
def kidV (H : Hp) (v : V) (j : Nat) : Option V := match v with
  | .ref a => (match H a with
    | some (.lst vs) => vs[j]?
    | some (.tup vs) => vs[j]?
    | some (.dK ws) => ws[j]?.map (·.2)
    | some (.ins _ _ fs) => fs[j]?.map (·.2)
    | _ => none)
  | _ => none
def getP : Sh → D → List Nat → Option (Sh × D)
  | sh, d, [] => some (sh, d)
  | sh, d, j :: π => match kid sh d j with
    | some (e, x) => getP e x π
    | none => none
def putP : Sh → D → List Nat → D → D
  | _, _, [], x => x
  | sh, d, j :: π, x => match kid sh d j with
    | some (e, y) => setKid d j (putP e y π x)
    | none => d
def valAt (H : Hp) : V → List Nat → Option V
  | v, [] => some v
  | v, j :: π => match kidV H v j with
    | some w => valAt H w π
    | none => none
section
variable {K : PySem.W.Frag} {S H : Hp}
theorem map_setSnd {α β : Type} : ∀ (l : List (α × β)) (j : Nat) (x : β), (setSnd l j x).map (·.1) = l.map (·.1) ∧ (setSnd l j x).map (·.2) = (l.map (·.2)).set j x
  | [], _, _ => ⟨rfl, rfl⟩
  | (k, _) :: r, 0, x => ⟨rfl, rfl⟩
  | p :: r, j + 1, x => by
    obtain ⟨h1, h2⟩ := map_setSnd r j x
    exact ⟨by show p.1 :: _ = _; rw [h1]; rfl, by show p.2 :: _ = _; rw [h2]; rfl⟩
theorem all3_focus {e : Sh} : ∀ {ds : List D} {vs : List V} {A : List Addr} {j : Nat} {d : D}, All3 (Own K S H e) ds vs A → ds[j]? = some d → ∃ v P A1 Q, vs[j]? = some v ∧ A = P ++ (A1 ++ Q) ∧ Own K S H e d v A1 ∧
    ∀ S' H' d' A', Ex S S' → (∀ a ∈ P ++ Q, H' a = H a) → Own K S' H' e d' v A' → All3 (Own K S' H' e) (ds.set j d') vs (P ++ (A' ++ Q))
  | [], _, _, _, _, _, e1 => by simp at e1
  | d0 :: ds, _, _, 0, d, ⟨v, r, A1, A2, h1, h2, h3, h4⟩, e1 => by
    have e2 : d0 = d := by simpa using e1
    subst e2
    refine ⟨v, [], A1, A2, by rw [h1]; rfl, h2, h3, fun S' H' d' A' ex g o => ⟨v, r, A', A2, h1, rfl, o, h4.imp fun d v A3 hA z => z.mono ex fun a ha => g a (hA a ha)⟩⟩
  | d0 :: ds, _, _, j + 1, d, ⟨v, r, A1, A2, h1, h2, h3, h4⟩, e1 => by
    obtain ⟨w, P, B, Q, q1, q2, q3, q4⟩ := all3_focus (j := j) h4 (by simpa using e1)
    refine ⟨w, A1 ++ P, B, Q, by rw [h1]; simpa using q1, by rw [h2, q2, List.append_assoc], q3, fun S' H' d' A' ex g o => ?_⟩
    exact ⟨v, r, A1, P ++ (A' ++ Q), h1, by rw [List.append_assoc], h3.mono ex fun a ha => g a (by simp [ha]), q4 S' H' d' A' ex (fun a ha => g a (by rcases List.mem_append.mp ha with z | z <;> simp [z])) o⟩
theorem ownT_focus : ∀ {es : List Sh} {ds : List D} {vs : List V} {A : List Addr} {j : Nat} {e : Sh} {d : D}, OwnT K S H es ds vs A → es[j]? = some e → ds[j]? = some d → ∃ v P A1 Q, vs[j]? = some v ∧ A = P ++ (A1 ++ Q) ∧ Own K S H e d v A1 ∧
    ∀ S' H' d' A', Ex S S' → (∀ a ∈ P ++ Q, H' a = H a) → Own K S' H' e d' v A' → OwnT K S' H' es (ds.set j d') vs (P ++ (A' ++ Q))
  | [], _, _, _, _, _, _, _, e0, _ => by simp at e0
  | e1 :: es, _, _, _, 0, e, d, ⟨d0, ds', v, r, A1, A2, h0, h1, h2, h3, h4⟩, e2, e3 => by
    have x1 : e1 = e := by simpa using e2
    subst x1 h0
    have x2 : d0 = d := by simpa using e3
    subst x2
    exact ⟨v, [], A1, A2, by rw [h1]; rfl, h2, h3, fun S' H' d' A' ex g o => ⟨d', ds', v, r, A', A2, rfl, h1, rfl, o, h4.mono ex g⟩⟩
  | e1 :: es, _, _, _, j + 1, e, d, ⟨d0, ds', v, r, A1, A2, h0, h1, h2, h3, h4⟩, e2, e3 => by
    subst h0
    obtain ⟨w, P, B, Q, q1, q2, q3, q4⟩ := ownT_focus (j := j) h4 (by simpa using e2) (by simpa using e3)
    refine ⟨w, A1 ++ P, B, Q, by rw [h1]; simpa using q1, by rw [h2, q2, List.append_assoc], q3, fun S' H' d' A' ex g o => ?_⟩
    exact ⟨d0, ds'.set j d', v, r, A1, P ++ (A' ++ Q), rfl, h1, by rw [List.append_assoc], h3.mono ex fun a ha => g a (by simp [ha]), q4 S' H' d' A' ex (fun a ha => g a (by rcases List.mem_append.mp ha with z | z <;> simp [z])) o⟩
/-- one child taken out, and put back changed -/
def Focus (K : PySem.W.Frag) (S H : Hp) (sh : Sh) (v : V) (A : List Addr) (sh1 : Sh) (d1 : D) (v1 : V) (put : D → D) (P A1 Q : List Addr) : Prop :=
  A = P ++ (A1 ++ Q) ∧ Own K S H sh1 d1 v1 A1 ∧ ∀ S' H' d1' A1', Ex S S' → (∀ a ∈ P ++ Q, H' a = H a) → Own K S' H' sh1 d1' v1 A1' → Own K S' H' sh (put d1') v (P ++ (A1' ++ Q))
theorem own_kid {sh : Sh} {d : D} {v : V} {A : List Addr} {j : Nat} {sh1 : Sh} {d1 : D} (o : Own K S H sh d v A) (h : kid sh d j = some (sh1, d1)) : ∃ v1 P A1 Q, kidV H v j = some v1 ∧ Focus K S H sh v A sh1 d1 v1 (setKid d j) P A1 Q := by
  unfold kid at h
  split at h
  · rename_i e ds
    obtain ⟨a, vs, ds', B, h1, h2, h3, h4, h5⟩ := o
    cases h1
    cases e1 : ds[j]? with
    | none => rw [e1] at h; cases h
    | some x =>
      rw [e1] at h
      cases h
      obtain ⟨w, P, B1, Q, q1, q2, q3, q4⟩ := all3_focus h5 e1
      refine ⟨w, a :: P, B1, Q, by unfold kidV; rw [h2]; simp only [h3]; exact q1, by rw [h4, q2]; rfl, q3, fun S' H' d1' A1' ex g o => ?_⟩
      exact ⟨a, vs, _, P ++ (A1' ++ Q), rfl, h2, (g a (by simp)).trans h3, rfl, q4 S' H' d1' A1' ex (fun b hb => g b (by simp at hb ⊢; exact .inr hb)) o⟩
  · rename_i e kvs
    obtain ⟨a, ws, kvs', B, h1, h2, h3, h4, h5, h6⟩ := o
    cases h1
    cases e1 : kvs[j]? with
    | none => rw [e1] at h; cases h
    | some x =>
      rw [e1] at h
      cases h
      obtain ⟨w, P, B1, Q, q1, q2, q3, q4⟩ := all3_focus (j := j) (d := x.2) h6 (by rw [List.getElem?_map, e1]; rfl)
      refine ⟨w, a :: P, B1, Q, by unfold kidV; rw [h2]; simp only [h3]; rw [← List.getElem?_map]; exact q1, by rw [h4, q2]; rfl, q3, fun S' H' d1' A1' ex g o => ?_⟩
      refine ⟨a, ws, setSnd kvs j d1', P ++ (A1' ++ Q), rfl, h2, (g a (by simp)).trans h3, rfl, by rw [(map_setSnd kvs j d1').1]; exact h5, ?_⟩
      rw [(map_setSnd kvs j d1').2]
      exact q4 S' H' d1' A1' ex (fun b hb => g b (by simp at hb ⊢; exact .inr hb)) o
  · rename_i es ds
    obtain ⟨a, vs, ds', B, h1, h2, h3, h4, h5⟩ := o
    cases h1
    cases e1 : es[j]? with
    | none => simp only [e1] at h; cases h
    | some e =>
      cases e2 : ds[j]? with
      | none => simp only [e1, e2] at h; cases h
      | some x =>
        simp only [e1, e2] at h
        cases h
        obtain ⟨w, P, B1, Q, q1, q2, q3, q4⟩ := ownT_focus h5 e1 e2
        refine ⟨w, a :: P, B1, Q, by unfold kidV; rw [h2]; simp only [h3]; exact q1, by rw [h4, q2]; rfl, q3, fun S' H' d1' A1' ex g o => ?_⟩
        exact ⟨a, vs, _, P ++ (A1' ++ Q), rfl, h2, (g a (by simp)).trans h3, rfl, q4 S' H' d1' A1' ex (fun b hb => g b (by simp at hb ⊢; exact .inr hb)) o⟩
  · rename_i es c fs
    obtain ⟨a, dx, ws, c', fs', B, h1, h2, h3, h4, h5, h6, h7, h8⟩ := o
    cases h1
    cases e1 : es[j]? with
    | none => simp only [e1] at h; cases h
    | some e =>
      cases e2 : fs[j]? with
      | none => simp only [e1, e2] at h; cases h
      | some x =>
        simp only [e1, e2] at h
        cases h
        obtain ⟨w, P, B1, Q, q1, q2, q3, q4⟩ := ownT_focus (d := x.2) h8 e1 (by rw [List.getElem?_map, e2]; rfl)
        refine ⟨w, a :: dx :: P, B1, Q, by unfold kidV; rw [h2]; simp only [h3]; rw [← List.getElem?_map]; exact q1, by rw [h6, q2]; rfl, q3, fun S' H' d1' A1' ex g o => ?_⟩
        refine ⟨a, dx, ws, c, setSnd fs j d1', P ++ (A1' ++ Q), rfl, h2, (g a (by simp)).trans h3, (g dx (by simp)).trans h4, h5, rfl, by rw [(map_setSnd fs j d1').1]; exact h7, ?_⟩
        rw [(map_setSnd fs j d1').2]
        exact q4 S' H' d1' A1' ex (fun b hb => g b (by simp at hb ⊢; exact .inr (.inr hb))) o
  · cases h
theorem own_at : ∀ {π : List Nat} {sh : Sh} {d : D} {v : V} {A : List Addr} {sh1 : Sh} {d1 : D}, Own K S H sh d v A → getP sh d π = some (sh1, d1) → ∃ v1 P A1 Q, valAt H v π = some v1 ∧ Focus K S H sh v A sh1 d1 v1 (putP sh d π) P A1 Q
  | [], sh, d, v, A, sh1, d1, o, h => by
    cases h
    exact ⟨v, [], A, [], rfl, by simp, o, fun S' H' d1' A1' _ _ o' => by rw [List.append_nil]; exact o'⟩
  | j :: π, sh, d, v, A, sh1, d1, o, h => by
    have h' : (match kid sh d j with
      | some (e, x) => getP e x π
      | none => none) = some (sh1, d1) := h
    cases e1 : kid sh d j with
    | none => rw [e1] at h'; cases h'
    | some p =>
      obtain ⟨e, x⟩ := p
      rw [e1] at h'
      obtain ⟨w, P, A1, Q, q1, q2, q3, q4⟩ := own_kid o e1
      obtain ⟨w2, P2, A2, Q2, r1, r2, r3, r4⟩ := own_at (π := π) q3 h'
      refine ⟨w2, P ++ P2, A2, Q2 ++ Q, by show (match kidV H v j with | some w => valAt H w π | none => none) = _; rw [q1]; exact r1, by rw [q2, r2]; simp only [List.append_assoc], r3, fun S' H' d1' A1' ex g o' => ?_⟩
      have z := r4 S' H' d1' A1' ex (fun a ha => g a (by simp only [List.mem_append] at ha ⊢; rcases ha with y | y <;> simp [y])) o'
      have z2 := q4 S' H' _ _ ex (fun a ha => g a (by simp only [List.mem_append] at ha ⊢; rcases ha with y | y <;> simp [y])) z
      have e2 : putP sh d (j :: π) d1' = setKid d j (putP e x π d1') := by
        show (match kid sh d j with | some (e, y) => setKid d j (putP e y π d1') | none => d) = _
        rw [e1]
      rw [e2]
      simpa only [List.append_assoc] using z2
/-- the slot i changed in place, at the end of the way π -/
theorem Rel.at_ {p : Nat} {g : Gh} {Γ : List Sh} {ρ : Env} {σ : L2.St} {A : List Addr} {i : Nat} {sh sh1 : Sh} {d d1 : D} {π : List Nat} (r : Rel K p g Γ ρ σ S H A) (hs : Γ[i]? = some sh) (hd : ρ[i]? = some (some d)) (hg : getP sh d π = some (sh1, d1)) :
    ∃ v v1 P A1 Q, σ[i]? = some (some v) ∧ valAt H v π = some v1 ∧ Own K S H sh1 d1 v1 A1 ∧ A = P ++ (A1 ++ Q) ∧
      ∀ S' H' d1' A1', Ex S S' → (∀ a o, H a = some o → a ∉ A1 → H' a = some o) → Ex S' H' → (∀ a o, S' a = some o → S a = some o ∨ H a = none) → Own K S' H' sh1 d1' v1 A1' → A1'.Nodup → (∀ a ∈ A1', a ∈ A1 ∨ H a = none) → (∀ a ∈ A1', S' a = none) →
        ∃ A', Rel K p g Γ (ρ.set i (some (putP sh d π d1'))) σ S' H' A' := by
  obtain ⟨P, A0, Q, q1, q2, q3, q4, q5, _⟩ := r.slots.at_ hs
  obtain ⟨v, hv, ow⟩ := q4 d hd
  obtain ⟨v1, P1, A1, Q1, w1, w2, w3, w4⟩ := own_at ow hg
  have eA : A = (P ++ P1) ++ (A1 ++ (Q1 ++ Q)) := by rw [q1, w2]; simp only [List.append_assoc]
  refine ⟨v, v1, P ++ P1, A1, Q1 ++ Q, hv, w1, w3, eA, fun S' H' d1' A1' ex kp sH nw o nd sub sn => ?_⟩
  have hnd := r.nd
  rw [eA] at hnd
  have live := r.slots.live
  have keep : ∀ a, a ∈ (P ++ P1) ++ (Q1 ++ Q) → H' a = H a := fun a ha => by
    obtain ⟨u, hu⟩ := live a (by rw [eA]; simp only [List.mem_append] at ha ⊢; rcases ha with y | y <;> simp [y])
    rw [hu]
    refine kp a u hu fun z => ?_
    simp only [List.nodup_append, List.mem_append] at hnd ha
    obtain ⟨_, ⟨_, _, n4⟩, n5⟩ := hnd
    rcases ha with y | y
    · exact n5 a y a (.inl z) rfl
    · exact n4 a z a y rfl
  have ow' := w4 S' H' d1' A1' ex (fun a ha => keep a (by simp only [List.mem_append] at ha ⊢; rcases ha with y | y <;> simp [y])) o
  have sl := q5 S' H' sh _ v _ ex (fun a ha => keep a (by simp only [List.mem_append] at ha ⊢; rcases ha with y | y <;> simp [y])) ow'
  have e1 : Γ.set i sh = Γ := by
    apply List.ext_getElem?
    intro j
    by_cases hj : i = j
    · subst hj
      rw [List.getElem?_set_self (List.getElem?_eq_some_iff.mp hs).1, hs]
    · rw [List.getElem?_set_ne hj]
  have e2 : σ.set i (some v) = σ := by
    apply List.ext_getElem?
    intro j
    by_cases hj : i = j
    · subst hj; rw [List.getElem?_set_self q3, hv]
    · rw [List.getElem?_set_ne hj]
  rw [e1, e2] at sl
  have hfr := r.fr
  rw [eA] at hfr
  have new_out : ∀ a ∈ A1', a ∉ (P ++ P1) ++ (Q1 ++ Q) := fun a ha z => by
    rcases sub a ha with y | y
    · simp only [List.nodup_append, List.mem_append] at hnd z
      obtain ⟨_, ⟨_, _, n4⟩, n5⟩ := hnd
      rcases z with z | z
      · exact n5 a z a (.inl y) rfl
      · exact n4 a y a z rfl
    · obtain ⟨u, hu⟩ := live a (by rw [eA]; simp only [List.mem_append] at z ⊢; rcases z with y | y <;> simp [y])
      rw [y] at hu; cases hu
  have Bnone : ∀ a, H a = none → g.B a = none := fun a h => by
    cases z : g.B a with
    | none => rfl
    | some u => rw [r.bH a u z] at h; cases h
  refine ⟨_, sl, ?_, fun a ha => ?_, sH, fun a o z => ?_, exTrans r.s0 ex, fun a o z => ?_, r.par, r.pl⟩
  · have e3 : P ++ (P1 ++ (A1' ++ Q1) ++ Q) = (P ++ P1) ++ (A1' ++ (Q1 ++ Q)) := by simp only [List.append_assoc]
    rw [e3]
    simp only [List.nodup_append] at hnd ⊢
    obtain ⟨⟨n1, n2, n3⟩, ⟨n4, ⟨n5, n6, n7⟩, n8⟩, n9⟩ := hnd
    refine ⟨⟨n1, n2, n3⟩, ⟨nd, ⟨n5, n6, n7⟩, fun a ha b hb z => ?_⟩, fun a ha b hb z => ?_⟩
    · subst z; exact new_out a ha (List.mem_append_right _ hb)
    · subst z
      rcases List.mem_append.mp hb with y | y
      · exact new_out a y (List.mem_append_left _ ha)
      · exact n9 a ha a (List.mem_append_right _ y) rfl
  · simp only [List.mem_append] at ha
    by_cases z : a ∈ A1'
    · refine ⟨sn a z, ?_⟩
      rcases sub a z with y | y
      · exact (hfr a (by simp [y])).2
      · exact Bnone a y
    · have ha' : a ∈ (P ++ P1) ++ (Q1 ++ Q) := by
        simp only [List.mem_append]
        rcases ha with y | (y | y | y) | y
        · exact .inl (.inl y)
        · exact .inl (.inr y)
        · exact absurd y z
        · exact .inr (.inl y)
        · exact .inr (.inr y)
      have hA : a ∈ (P ++ P1) ++ (A1 ++ (Q1 ++ Q)) := by simp only [List.mem_append] at ha' ⊢; rcases ha' with y | y <;> simp [y]
      refine ⟨?_, (hfr a hA).2⟩
      cases q : S' a with
      | none => rfl
      | some u =>
        rcases nw a u q with y | y
        · rw [(hfr a hA).1] at y; cases y
        · obtain ⟨u', hu'⟩ := live a (by rw [eA]; exact hA)
          rw [y] at hu'; cases hu'
  · refine kp a o (r.bH a o z) fun y => ?_
    rw [(hfr a (by simp [y])).2] at z; cases z
  · rcases nw a o z with y | y
    · exact r.nw a o y
    · exact .inr (Bnone a y)
end
end VL

namespace VL
open PySem PySem.Spec PyProof.Rows L2
open Evl (Ex)
mutual
def Sh.eqb : Sh → Sh → Bool
  | .s, .s => true
  | .L a, .L b => Sh.eqb a b
  | .M a, .M b => Sh.eqb a b
  | .T a, .T b => Sh.eqbs a b
  | .O a, .O b => Sh.eqbs a b
  | _, _ => false
def Sh.eqbs : List Sh → List Sh → Bool
  | [], [] => true
  | a :: r, b :: t => Sh.eqb a b && Sh.eqbs r t
  | _, _ => false
end
mutual
theorem Sh.eqb_eq : ∀ {a b : Sh}, Sh.eqb a b = true → a = b
  | .s, .s, _ => rfl
  | .L a, .L b, h => by rw [Sh.eqb_eq (show Sh.eqb a b = true from h)]
  | .M a, .M b, h => by rw [Sh.eqb_eq (show Sh.eqb a b = true from h)]
  | .T a, .T b, h => by rw [Sh.eqbs_eq (show Sh.eqbs a b = true from h)]
  | .O a, .O b, h => by rw [Sh.eqbs_eq (show Sh.eqbs a b = true from h)]
  | .s, .L _, h | .s, .M _, h | .s, .T _, h | .s, .O _, h => by cases h
  | .L _, .s, h | .L _, .M _, h | .L _, .T _, h | .L _, .O _, h => by cases h
  | .M _, .s, h | .M _, .L _, h | .M _, .T _, h | .M _, .O _, h => by cases h
  | .T _, .s, h | .T _, .L _, h | .T _, .M _, h | .T _, .O _, h => by cases h
  | .O _, .s, h | .O _, .L _, h | .O _, .M _, h | .O _, .T _, h => by cases h
theorem Sh.eqbs_eq : ∀ {a b : List Sh}, Sh.eqbs a b = true → a = b
  | [], [], _ => rfl
  | a :: r, b :: t, h => by
    have h' : (Sh.eqb a b && Sh.eqbs r t) = true := h
    rw [Bool.and_eq_true] at h'
    rw [Sh.eqb_eq h'.1, Sh.eqbs_eq h'.2]
  | [], _ :: _, h | _ :: _, [], h => by cases h
end
/-- where a piece of a slot stands: the way to it, from the slots' values -/
abbrev PM := Env → Option (List Nat)
def slot (i : Nat) (ρ : Env) : Option D := match ρ[i]? with
  | some (some d) => some d
  | _ => none
/-- the list at the end of the way, its items held as e says -/
def lstAt (sh e : Sh) (d : D) (π : List Nat) : Option (List D) := match getP sh d π with
  | some (.L e', .lst ds) => if Sh.eqb e' e then some ds else none
  | _ => none
def dicAt (sh e : Sh) (d : D) (π : List Nat) : Option (List (L2.Key × D)) := match getP sh d π with
  | some (.M e', .dic ds) => if Sh.eqb e' e then some ds else none
  | _ => none
theorem lstAt_eq {sh e : Sh} {d : D} {π : List Nat} {ds : List D} (h : lstAt sh e d π = some ds) : getP sh d π = some (.L e, .lst ds) := by
  unfold lstAt at h
  split at h
  · rename_i e' ds' h1
    split at h
    · rename_i h2
      cases h
      rw [h1, Sh.eqb_eq h2]
    · cases h
  · cases h
theorem dicAt_eq {sh e : Sh} {d : D} {π : List Nat} {ds : List (L2.Key × D)} (h : dicAt sh e d π = some ds) : getP sh d π = some (.M e, .dic ds) := by
  unfold dicAt at h
  split at h
  · rename_i e' ds' h1
    split at h
    · rename_i h2
      cases h
      rw [h1, Sh.eqb_eq h2]
    · cases h
  · cases h
section
variable (K : PySem.W.Frag)
/-- the piece is met: v1 -/
def tVP (p : Nat) (Γ : List Sh) (i : Nat) (sh : Sh) (pm : PM) : TE := fun σ H Q => ∃ ρ g S A d π nd, Rel K p g Γ ρ σ S H A ∧ slot i ρ = some d ∧ pm ρ = some π ∧ getP sh d π = some nd ∧
  ∀ v v1 S' H', Gw S H S' H' → σ[i]? = some (some v) → valAt H' v π = some v1 → Q v1 H'
end
abbrev VP (X : Cx) (p : Nat) (Γ : List Sh) (i : Nat) (sh : Sh) (e : Expr) (pm : PM) : Prop := PE X e (tVP X.K p Γ i sh pm)
theorem slot_eq {i : Nat} {ρ : Env} {d : D} (h : slot i ρ = some d) : ρ[i]? = some (some d) := by
  unfold slot at h
  split at h
  · rename_i d' e
    cases h
    exact e
  · cases h
section
variable {X : Cx} {W : Wp} {Γ : List Sh} {e o : Expr} {m mi : ME} {pos : Pos} {i : Nat} {sh esh : Sh} {pm : PM}
theorem vp_var {x : Str} (hs : Γ[i]? = some sh := by rfl) (hN : X.N[i]? = some x := by rfl) (hv : Vis X.env.scope x := by first | exact Or.inl rfl | exact Or.inr (Or.inl rfl) | exact Or.inr (Or.inr rfl)) (hd : (x == ("__debug__" : Str)) = false := by decide) (hcd : (x == ("__classdict__" : Str)) = false := by decide) :
    VP X W.p Γ i sh (.Name x pos) (fun _ => some []) := peImp (pe_var hN hv hd hcd) fun σ H Q ⟨ρ, g, S, A, d, π, nd, r, h1, h2, h3, q⟩ => by
  obtain ⟨P, A1, Q', q1, q2, q3, q4, _⟩ := r.slots.at_ hs
  obtain ⟨v, hv, _⟩ := q4 d (slot_eq h1)
  cases h2
  exact ⟨v, hv, q v v S H (.rfl' r.sH) hv rfl⟩
theorem kidV_grow {H H' : Hp} (ex : Ex H H') {v w : V} {j : Nat} (h : kidV H v j = some w) : kidV H' v j = some w := by
  unfold kidV at h ⊢
  cases v with
  | ref a =>
    simp only at h ⊢
    cases e : H a with
    | none => rw [e] at h; cases h
    | some o => rw [e] at h; rw [ex a o e]; exact h
  | _ => cases h
theorem valAt_grow {H H' : Hp} (ex : Ex H H') : ∀ {π : List Nat} {v w : V}, valAt H v π = some w → valAt H' v π = some w
  | [], v, w, h => h
  | j :: π, v, w, h => by
    have h' : (match kidV H v j with | some w => valAt H w π | none => none) = some w := h
    cases e : kidV H v j with
    | none => rw [e] at h'; cases h'
    | some u =>
      rw [e] at h'
      show (match kidV H' v j with | some w => valAt H' w π | none => none) = some w
      rw [kidV_grow ex e]
      exact valAt_grow ex h'
/-- x[i] on the way -/
def pmIx (i : Nat) (sh : Sh) (pm : PM) (mi : ME) : PM := fun ρ => match slot i ρ, pm ρ with
  | some d, some π => (match getP sh d π, mi ρ with
    | some (.L _, .lst ds), .ok (.int k) => (match ixN ds.length k with
      | some j => some (π ++ [j])
      | none => none)
    | _, _ => none)
  | _, _ => none
theorem getP_append : ∀ {π : List Nat} {sh : Sh} {d : D} {sh1 : Sh} {d1 : D} {j : Nat}, getP sh d π = some (sh1, d1) → getP sh d (π ++ [j]) = kid sh1 d1 j
  | [], sh, d, sh1, d1, j, h => by
    cases h
    show (match kid sh d j with | some (e, x) => getP e x [] | none => none) = kid sh d j
    cases kid sh d j <;> rfl
  | k :: π, sh, d, sh1, d1, j, h => by
    have h' : (match kid sh d k with | some (e, x) => getP e x π | none => none) = some (sh1, d1) := h
    show (match kid sh d k with | some (e, x) => getP e x (π ++ [j]) | none => none) = _
    cases e : kid sh d k with
    | none => rw [e] at h'; cases h'
    | some p => rw [e] at h'; exact getP_append h'
theorem valAt_append {H : Hp} : ∀ {π : List Nat} {v v1 : V} {j : Nat}, valAt H v π = some v1 → valAt H v (π ++ [j]) = kidV H v1 j
  | [], v, v1, j, h => by
    cases h
    show (match kidV H v j with | some w => valAt H w [] | none => none) = kidV H v j
    cases kidV H v j <;> rfl
  | k :: π, v, v1, j, h => by
    have h' : (match kidV H v k with | some w => valAt H w π | none => none) = some v1 := h
    show (match kidV H v k with | some w => valAt H w (π ++ [j]) | none => none) = _
    cases e : kidV H v k with
    | none => rw [e] at h'; cases h'
    | some p => rw [e] at h'; exact valAt_append h'
theorem vp_ix (hs : Γ[i]? = some sh) (ho : VP X W.p Γ i sh o pm) (hi : VE X W Γ e .s mi) (hx : NoX mi) (hsl : PlainIx e) : VP X W.p Γ i sh (.Subscript o e pos) (pmIx i sh pm mi) := peImp (pe_ix ix_list ho hi hsl) fun σ H Q ⟨ρ, g, S, A, d, π, nd, r, h1, h2, h3, q⟩ => by
  unfold pmIx at h2
  rw [h1] at h2
  cases e1 : pm ρ with
  | none => rw [e1] at h2; cases h2
  | some π0 =>
    rw [e1] at h2
    simp only at h2
    cases e2 : getP sh d π0 with
    | none => rw [e2] at h2; cases h2
    | some nd0 =>
      rw [e2] at h2
      split at h2
      · rename_i e' ds k h4 h5
        cases h4
        split at h2
        · rename_i j h6
          cases h2
          refine ⟨ρ, g, S, A, d, π0, _, r, h1, e1, e2, fun v v1 S1 H1 w1 hv hv1 => ⟨ρ, g, S1, A, r.grow w1, ?_⟩⟩
          rw [h5]
          intro y S2 H2 B2 w2 ⟨_, p2⟩ _ _
          have r2 := (r.grow w1).grow w2
          obtain ⟨v', v1', P, A1, Q1, z1, z2, z3, z4, _⟩ := r2.at_ hs (slot_eq h1) e2
          obtain ⟨v'', v1'', P', A1', Q1', y1, y2, y3, _⟩ := (r.grow w1).at_ hs (slot_eq h1) e2
          rw [hv] at z1 y1
          cases z1
          cases y1
          rw [hv1] at y2
          cases y2
          obtain ⟨a', vs', ds', B', x1, x2, x3, _⟩ := y3
          obtain ⟨a, vs, ds'', B, t1, t2, t3, t4, t5⟩ := z3
          cases t1
          have ea : v1' = v1 := by
            have z := valAt_grow w2.eH hv1
            rw [z] at z2
            exact (Option.some.inj z2).symm
          subst ea
          rw [getP_append e2] at h3
          have h7 : (ds[j]?.map fun d => (e', d)) = some nd := h3
          cases h8 : ds[j]? with
          | none => rw [h8] at h7; cases h7
          | some dj =>
            obtain ⟨w, _, _, _, u1, _⟩ := all3_focus t5 h8
            refine ⟨a, vs, k, w, t2, p2, SqL.of t3, ?_, q v w S2 H2 (w1.trans w2) hv ?_⟩
            · unfold atI
              rw [← t5.length, h6]
              exact u1
            · rw [valAt_append z2]
              unfold kidV
              rw [t2]
              simp only [t3]
              exact u1
        · cases h2
      · cases h2

/-! ### changes in place -/
/-- the list at the way's end, whatever was made meanwhile -/
theorem Rel.list_at {K : PySem.W.Frag} {p : Nat} {g : Gh} {ρ : Env} {σ : L2.St} {S H : Hp} {A : List Addr} {d : D} {π : List Nat} {ds : List D} (r : Rel K p g Γ ρ σ S H A) (hs : Γ[i]? = some sh) (hd : slot i ρ = some d) (hl : lstAt sh esh d π = some ds) {v v1 : V} (hv : σ[i]? = some (some v)) (hv1 : valAt H v π = some v1) :
    ∃ a vs B, v1 = .ref a ∧ H a = some (.lst vs) ∧ S a = none ∧ All3 (Own K S H esh) ds vs B ∧ (a :: B).Nodup ∧ (∀ b ∈ B, S b = none) ∧
      ∀ S' H' ds' vs' B', Gw S H S' H' → All3 (Own K S' H' esh) ds' vs' B' → B'.Nodup → a ∉ B' → (∀ b ∈ B', b ∈ B ∨ H b = none) → (∀ b ∈ B', S' b = none) → ∃ A', Rel K p g Γ (ρ.set i (some (putP sh d π (.lst ds')))) σ S' (upd H' a (.lst vs')) A' := by
  obtain ⟨v', v1', P, A1, Q, z1, z2, z3, z4, z5⟩ := r.at_ hs (slot_eq hd) (lstAt_eq hl)
  rw [hv] at z1
  cases z1
  rw [hv1] at z2
  cases z2
  obtain ⟨a, vs, ds0, B, t1, t2, t3, t4, t5⟩ := z3
  cases t1
  have hin : ∀ b ∈ a :: B, b ∈ A := fun b hb => by rw [z4, t4]; simp only [List.mem_append]; exact .inr (.inl hb)
  have nd : (a :: B).Nodup := by
    have z := r.nd
    rw [z4, t4] at z
    exact (List.nodup_append.mp (List.nodup_append.mp z).2.1).1
  refine ⟨a, vs, B, t2, t3, (r.fr a (hin a List.mem_cons_self)).1, t5, nd, fun b hb => (r.fr b (hin b (List.mem_cons_of_mem _ hb))).1, fun S' H' ds' vs' B' w al nB aB sub sn => ?_⟩
  have sa : S' a = none := by
    cases q : S' a with
    | none => rfl
    | some u =>
      rcases w.nw a u q with y | y
      · rw [(r.fr a (hin a List.mem_cons_self)).1] at y; cases y
      · rw [t3] at y; cases y
  refine z5 S' (upd H' a (.lst vs')) (.lst ds') (a :: B') w.e (fun b o hb nb => ?_) (fun b o hb => ?_) w.nw ⟨a, vs', ds', B', rfl, t2, upd_same, rfl, al.imp fun d v A' hA z => z.mono Ex.rfl' fun b hb => upd_ne fun e => aB (e ▸ hA b hb)⟩ (List.nodup_cons.mpr ⟨aB, nB⟩) (fun b hb => ?_) fun b hb => ?_
  · rw [t4] at nb
    rw [upd_ne fun e => nb (by rw [e]; exact List.mem_cons_self)]
    exact w.eH b o hb
  · rw [upd_ne (ne_of_none hb sa)]
    exact w.sH b o hb
  · rcases List.mem_cons.mp hb with y | y
    · rw [t4]; exact .inl (by rw [y]; exact List.mem_cons_self)
    · rcases sub b y with x | x
      · rw [t4]; exact .inl (List.mem_cons_of_mem _ x)
      · exact .inr x
  · rcases List.mem_cons.mp hb with y | y
    · rw [y]; exact sa
    · exact sn b y
theorem all3_grow {K : PySem.W.Frag} {S H S' H' : Hp} (w : Gw S H S' H') {ds : List D} {vs : List V} {B : List Addr} (al : All3 (Own K S H esh) ds vs B) : All3 (Own K S' H' esh) ds vs B := al.imp fun d v A' hA z => z.mono w.e fun a ha => by
  obtain ⟨o, ho⟩ := z.live a ha
  rw [ho, w.eH a o ho]
theorem none_grow {K : PySem.W.Frag} {S H S' H' : Hp} (w : Gw S H S' H') {ds : List D} {vs : List V} {B : List Addr} (al : All3 (Own K S H esh) ds vs B) (h : ∀ b ∈ B, S b = none) : ∀ b ∈ B, S' b = none := fun b hb => by
  obtain ⟨o, ho⟩ := all3_ol al b hb
  cases q : S' b with
  | none => rfl
  | some u =>
    rcases w.nw b u q with y | y
    · rw [h b hb] at y; cases y
    · rw [ho] at y; cases y
variable {Γl : List Sh} {c : Cfg}
/-- x.append(e) -/
def sApp (i : Nat) (sh esh : Sh) (pm : PM) (m : ME) : MS := fun ρ => match slot i ρ, pm ρ with
  | some d, some π => (match lstAt sh esh d π with
    | some ds => (match m ρ with
      | .ok x => if line (ds.length + 1) then .nx (ρ.set i (some (putP sh d π (.lst (ds ++ [x]))))) else .fail
      | .exc x => .ex x ρ
      | .fail => .fail)
    | none => .fail)
  | _, _ => .fail
theorem vs_app {apos : Pos} (hs : Γ[i]? = some sh) (ho : VP X c.w.p Γ i sh o pm) (he : VE X c.w Γ e esh m) (hcx : c.Cx Γ) (hbase : attributeBase o "append" X.env (eval o X.env) = eval o X.env := by rfl)
    (hfew : ((backTo pos (starEach (e :: []) X.env)).all (fun x => !x.1) && (backToKw pos (keywordEach [] X.env)).all (fun x => x.1.isSome)
      && decide ((e :: ([] : List Expr)).length + ([] : List Keyword).length + (if ([] : List Keyword).isEmpty then 0 else 1) < 30)) = true := by rfl)
    (hline : (apos.endLine == pos.line) = true := by rfl) (hs1 : starEach (e :: []) X.env = (false, eval e X.env) :: starEach [] X.env := by rfl) (hplain : (backTo pos (starEach [] X.env)).any (·.1) = false := by rfl) {pos' : Pos} (hsw : swapsWith (.Call (.Attribute o "append" apos) [e] [] pos) none pos'.line X.env = pure false := by rfl) :
    VS X c Γ Γ Γl (.Expr (.Call (.Attribute o "append" apos) [e] [] pos) pos') (sApp i sh esh pm m) :=
  psImp (ps_expr (pe_bm PySem.F.plainAttrs_list PySem.F.slot_list_append PySem.F.type_list_append mt_append ho (pa_cons he pa_nil hs1) hbase hfew hline hs1 hplain) hsw) fun D σ H ⟨ρ, g, S, A, r, q⟩ => by
  unfold sApp at q
  cases h1 : slot i ρ with
  | none => rw [h1] at q; exact q.elim
  | some d =>
    cases h2 : pm ρ with
    | none => rw [h1, h2] at q; exact q.elim
    | some π =>
      simp only [h1, h2] at q
      cases h3 : lstAt sh esh d π with
      | none => simp only [h3] at q; exact q.elim
      | some ds =>
        simp only [h3] at q
        refine ⟨ρ, g, S, A, d, π, _, r, h1, h2, lstAt_eq h3, fun v v1 S1 H1 w1 hv hv1 => ?_⟩
        have r1 := r.grow w1
        obtain ⟨a, vs, B, t1, t2, t3, t4, t5, t6, t7⟩ := r1.list_at hs h1 h3 hv hv1
        refine ⟨by rw [t1]; exact .inl ⟨rfl, vs, SqL.of t2⟩, ρ, g, S1, A, r1, ?_⟩
        cases h4 : m ρ with
        | fail => simp only [h4] at q; exact q
        | exc x => simp only [h4] at q; exact Thrown.trans w1 (Post.thrown r q hcx)
        | ok x =>
          simp only [h4] at q
          intro y S2 H2 B2 w2 ow n2 f2
          by_cases hz : line (ds.length + 1) = true
          · rw [if_pos hz] at q
            have hlen : vs.length < sizeLine := by
              have z := line_ok hz
              rw [← t4.length]
              omega
            refine ⟨a, vs, y, t1, rfl, w2.eH _ _ t2, hlen, ?_⟩
            have al := all3_grow w2 t4
            have nB2 : ∀ b ∈ B2, H1 b = none := fun b hb => (f2 b hb).1
            obtain ⟨A', r'⟩ := t7 S2 H2 (ds ++ [x]) (vs ++ [y]) (B ++ B2) w2 (all3_snoc ow al) (List.nodup_append.mpr ⟨(List.nodup_cons.mp t5).2, n2, fun b hb b' hb' z => by
              subst z
              obtain ⟨o, ho⟩ := all3_ol t4 b hb
              rw [nB2 b hb'] at ho; cases ho⟩) (fun z => by
              rcases List.mem_append.mp z with z | z
              · exact (List.nodup_cons.mp t5).1 z
              · have z2 := nB2 a z
                rw [t2] at z2; cases z2) (fun b hb => (List.mem_append.mp hb).imp id (nB2 b)) fun b hb => by
              rcases List.mem_append.mp hb with z | z
              · exact none_grow w2 t4 t6 b z
              · exact (f2 b z).2
            exact q σ S2 _ A' r' (exTrans w1.e w2.e)
          · rw [if_neg hz] at q; exact q.elim
/-- one item replaced, its own addresses let go -/
theorem all3_put {K : PySem.W.Frag} {S H : Hp} {d : D} {v : V} {A1 : List Addr} (o : Own K S H esh d v A1) : ∀ {ds : List D} {vs : List V} {B : List Addr} {j : Nat}, All3 (Own K S H esh) ds vs B → j < ds.length → ∃ P B1 Q, B = P ++ (B1 ++ Q) ∧ All3 (Own K S H esh) (ds.set j d) (vs.set j v) (P ++ (A1 ++ Q))
  | [], _, _, _, _, h => absurd h (Nat.not_lt_zero _)
  | d0 :: ds, _, _, 0, ⟨w, r, B1, B2, h1, h2, h3, h4⟩, _ => ⟨[], B1, B2, h2, by rw [h1]; exact ⟨v, r, A1, B2, rfl, rfl, o, h4⟩⟩
  | d0 :: ds, _, _, j + 1, ⟨w, r, B1, B2, h1, h2, h3, h4⟩, h => by
    obtain ⟨P, C1, Q, q1, q2⟩ := all3_put o (j := j) h4 (by simpa using h)
    exact ⟨B1 ++ P, C1, Q, by rw [h2, q1, List.append_assoc], by rw [h1]; exact ⟨w, r.set j v, B1, P ++ (A1 ++ Q), rfl, by rw [List.append_assoc], h3, q2⟩⟩
/-- x[i] = e -/
def sSet (i : Nat) (sh esh : Sh) (pm : PM) (mi m : ME) : MS := fun ρ => match m ρ with
  | .fail => .fail
  | .exc x => .ex x ρ
  | .ok x => match slot i ρ, pm ρ with
    | some d, some π => (match lstAt sh esh d π, mi ρ with
      | some ds, .ok (.int k) => (match ixN ds.length k with
        | some j => .nx (ρ.set i (some (putP sh d π (.lst (ds.set j x)))))
        | none => .fail)
      | _, _ => .fail)
    | _, _ => .fail
theorem set_ok {K : PySem.W.Frag} {m' : ME} {D : Ends} {σ : L2.St} {H : Hp} (hs : Γ[i]? = some sh) (hx : NoX mi) (hcx : c.Cx Γ) (h : tVs K c Γ Γ Γl (sSet i sh esh pm mi m) D σ H) :
    tAsg (tV K c.w Γ esh m) (gSub (tVP K c.w.p Γ i sh pm) (tV K c.w Γ .s mi) rSetL) D σ H := by
  obtain ⟨ρ, g, S, A, r, q⟩ := h
  unfold sSet at q
  refine ⟨ρ, g, S, A, r, ?_⟩
  cases h4 : m ρ with
  | fail => rw [h4] at q; exact q
  | exc x => rw [h4] at q; exact Post.thrown r q hcx
  | ok x =>
    simp only [h4] at q
    cases h1 : slot i ρ with
    | none => simp only [h1] at q; exact q.elim
    | some d =>
      cases h2 : pm ρ with
      | none => simp only [h1, h2] at q; exact q.elim
      | some π =>
        simp only [h1, h2] at q
        cases h3 : lstAt sh esh d π with
        | none => simp only [h3] at q; exact q.elim
        | some ds =>
          simp only [h3] at q
          split at q
          · rename_i ds' k h5 h6
            cases h5
            split at q
            · rename_i j h7
              intro y S1 H1 B1 w1 ow n1 f1
              have r1 := r.grow w1
              refine ⟨ρ, g, S1, A, d, π, _, r1, h1, h2, lstAt_eq h3, fun v v1 S2 H2 w2 hv hv1 => ?_⟩
              have r2 := r1.grow w2
              refine ⟨ρ, g, S2, A, r2, ?_⟩
              rw [h6]
              intro z S3 H3 B3 w3 ⟨_, p3⟩ _ _
              have r3 := r2.grow w3
              obtain ⟨a, vs, B, t1, t2, t3, t4, t5, t6, t7⟩ := r3.list_at hs h1 h3 hv (valAt_grow w3.eH hv1)
              have w13 := w2.trans w3
              have ow3 : Own K S3 H3 esh x y B1 := ow.mono w13.e fun b hb => by
                obtain ⟨o, ho⟩ := ow.live b hb
                rw [ho, w13.eH b o ho]
              have hj : j < ds.length := (ixN_seq h7).2.1
              obtain ⟨P, C1, Q, e1, e2⟩ := all3_put ow3 t4 hj
              refine ⟨a, vs, k, j, t1, p3, t2, by rw [← t4.length]; exact h7, ?_⟩
              have aB1 : ∀ b ∈ B1, b ∉ A := fun b hb hA => by
                have z := (r.apart (S' := S1) n1 f1).1
                exact (List.nodup_append.mp z).2.2 b hb b hA rfl
              have inA : ∀ b ∈ a :: B, b ∈ A ∨ True := fun _ _ => .inr trivial
              have Hn : ∀ b ∈ B1, H b = none := fun b hb => (f1 b hb).1
              have liveA : ∀ b, (∃ o, H b = some o) → b ∉ B1 := fun b ⟨o, ho⟩ hb => by rw [Hn b hb] at ho; cases ho
              -- the list and its items stood ahead of it all
              obtain ⟨a', vs', B', u1, u2, u3, u4, u5, u6, u7⟩ := r.list_at hs h1 h3 hv (v1 := v1) (by
                obtain ⟨v9, v8, _, _, _, x1, x2, _⟩ := r.at_ hs (slot_eq h1) (lstAt_eq h3)
                rw [hv] at x1
                cases x1
                have x3 := valAt_grow (exTrans w1.eH w2.eH) x2
                rw [hv1] at x3
                rw [x2, x3])
              have ea : a' = a := by
                rw [t1] at u1
                exact (V.ref.inj u1).symm
              subst ea
              have al3 := all3_grow (w1.trans w13) u4
              have evs : vs' = vs := by
                have z := (w1.trans w13).eH _ _ u2
                rw [t2] at z
                exact (HO.lst.inj (Option.some.inj z)).symm
              subst evs
              obtain ⟨P', C', Q', e1', e2'⟩ := all3_put ow3 al3 hj
              obtain ⟨A', r'⟩ := u7 S3 H3 (ds.set j x) (vs'.set j y) (P' ++ (B1 ++ Q')) (w1.trans w13) e2' (by
                have nd := (List.nodup_cons.mp u5).2
                rw [e1'] at nd
                simp only [List.nodup_append, List.mem_append] at nd ⊢
                obtain ⟨m1, ⟨m2, m3, m4⟩, m5⟩ := nd
                have lv : ∀ b, b ∈ P' ∨ b ∈ Q' → b ∉ B1 := fun b hb => liveA b (all3_ol u4 b (by rw [e1']; simp only [List.mem_append]; rcases hb with y | y <;> simp [y]))
                refine ⟨m1, ⟨n1, m3, fun b hb b' hb' z => lv b (.inr (z ▸ hb')) hb⟩, fun b hb b' hb' z => ?_⟩
                rcases hb' with y | y
                · exact lv b (.inl hb) (z ▸ y)
                · exact m5 b hb b' (.inr y) z) (fun z => by
                simp only [List.mem_append] at z
                have nd := (List.nodup_cons.mp u5).1
                rw [e1'] at nd
                simp only [List.mem_append] at nd
                rcases z with z | z | z
                · exact nd (.inl z)
                · exact liveA _ ⟨_, u2⟩ z
                · exact nd (.inr (.inr z))) (fun b hb => by
                simp only [List.mem_append] at hb
                rw [e1']
                simp only [List.mem_append]
                rcases hb with z | z | z
                · exact .inl (.inl z)
                · exact .inr (Hn b z)
                · exact .inl (.inr (.inr z))) fun b hb => by
                simp only [List.mem_append] at hb
                have old := none_grow (w1.trans w13) u4 u6
                rw [e1'] at old
                simp only [List.mem_append] at old
                rcases hb with z | z | z
                · exact old b (.inl z)
                · have z2 := (f1 b z).2
                  obtain ⟨o, ho⟩ := ow.live b z
                  cases q9 : S3 b with
                  | none => rfl
                  | some u =>
                    rcases w13.nw b u q9 with x | x
                    · rw [z2] at x; cases x
                    · rw [ho] at x; cases x
                · exact old b (.inr (.inr z))
              exact q σ S3 _ A' r' ((w1.trans w13).e)
            · exact q.elim
          · exact q.elim
theorem vs_set {e2 : Expr} {p3 : Pos} (hs : Γ[i]? = some sh) (ho : VP X c.w.p Γ i sh o pm) (hi : VE X c.w Γ e2 .s mi) (he : VE X c.w Γ e esh m) (hx : NoX mi) (hcx : c.Cx Γ) (h : PS X (.Assign [.Subscript o e2 p3] e pos) (tAsg (tV X.K c.w Γ esh m) (gSub (tVP X.K c.w.p Γ i sh pm) (tV X.K c.w Γ .s mi) rSetL))) :
    VS X c Γ Γ Γl (.Assign [.Subscript o e2 p3] e pos) (sSet i sh esh pm mi m) := psImp h fun D σ H q => set_ok (m' := m) hs hx hcx q
end
end VL

namespace VL
open PySem PySem.Spec PyProof.Rows L2
open Evl (Ex)
/-! ### dicts -/
def keyOf : D → Option L2.Key
  | .int i => some (.inl i)
  | .str s => some (.inr s)
  | _ => none
theorem keyOf_rep {K : PySem.W.Frag} {S : Hp} {d : D} {v : V} {k : L2.Key} (h : keyOf d = some k) (r : Rep K S d v) : v = kV k := by
  cases d <;> cases h <;> exact r
def putD {α : Type} (kvs : List (L2.Key × α)) (k : L2.Key) (x : α) : List (L2.Key × α) :=
  if (kvs.any fun kv => decide (kv.1 = k)) = true then kvs.map (fun kv => if kv.1 = k then (kv.1, x) else kv) else kvs ++ [(k, x)]
def getD' {α : Type} (kvs : List (L2.Key × α)) (k : L2.Key) : Option α := (kvs.find? fun kv => decide (kv.1 = k)).map (·.2)
section
variable {K : PySem.W.Frag} {S H : Hp}
theorem repK_any {k : L2.Key} : ∀ {kvs : List (L2.Key × D)} {ws : List (L2.Key × V)}, RepK K S kvs ws → (kvs.any fun kv => decide (kv.1 = k)) = (ws.any fun kv => decide (kv.1 = k))
  | [], _, h => by rw [show _ = [] from h]; rfl
  | (_, _) :: _, _, ⟨v, r, h1, h2, h3⟩ => by rw [h1, List.any_cons, List.any_cons, repK_any h3]
theorem repK_map {k : L2.Key} {x : D} {y : V} (hx : Rep K S x y) : ∀ {kvs : List (L2.Key × D)} {ws : List (L2.Key × V)}, RepK K S kvs ws → RepK K S (kvs.map fun kv => if kv.1 = k then (kv.1, x) else kv) (ws.map fun kv => if kv.1 = k then (kv.1, y) else kv)
  | [], _, h => by rw [show _ = [] from h]; rfl
  | (k', d) :: r, _, ⟨v, r', h1, h2, h3⟩ => by
    rw [h1, List.map_cons, List.map_cons]
    by_cases e : k' = k
    · simp only [if_pos e]
      exact ⟨y, _, rfl, hx, repK_map hx h3⟩
    · simp only [if_neg e]
      exact ⟨v, _, rfl, h2, repK_map hx h3⟩
theorem repK_app {k : L2.Key} {x : D} {y : V} (hx : Rep K S x y) : ∀ {kvs : List (L2.Key × D)} {ws : List (L2.Key × V)}, RepK K S kvs ws → RepK K S (kvs ++ [(k, x)]) (ws ++ [(k, y)])
  | [], _, h => by rw [show _ = [] from h]; exact ⟨y, [], rfl, hx, rfl⟩
  | (k', d) :: r, _, ⟨v, r', h1, h2, h3⟩ => by rw [h1]; exact ⟨v, _, rfl, h2, repK_app hx h3⟩
theorem repK_put {kvs : List (L2.Key × D)} {ws : List (L2.Key × V)} {k : L2.Key} {x : D} {y : V} (h : RepK K S kvs ws) (hx : Rep K S x y) : RepK K S (putD kvs k x) (putK ws k y) := by
  unfold putD putK
  rw [repK_any h]
  split
  · exact repK_map hx h
  · exact repK_app hx h
theorem repK_get {k : L2.Key} : ∀ {kvs : List (L2.Key × D)} {ws : List (L2.Key × V)}, RepK K S kvs ws → (getD' kvs k = none ∧ valV ws k = none) ∨ ∃ d v, getD' kvs k = some d ∧ valV ws k = some v ∧ Rep K S d v
  | [], _, h => by rw [show _ = [] from h]; exact .inl ⟨rfl, rfl⟩
  | (k', d) :: r, _, ⟨v, r', h1, h2, h3⟩ => by
    rw [h1]
    by_cases e : k' = k
    · refine .inr ⟨d, v, ?_, valV_pos e, h2⟩
      simp [getD', List.find?_cons, e]
    · rw [valV_neg e]
      have e2 : getD' ((k', d) :: r) k = getD' r k := by simp [getD', List.find?_cons, e]
      rw [e2]
      exact repK_get h3
theorem dGet {a : Addr} {kvs : List (L2.Key × D)} {ws : List (L2.Key × V)} {k : L2.Key} (h : RepK K S kvs ws) (ha : H a = some (.dK ws)) : ∃ o, DGet H a (kV k) o ∧ ((getD' kvs k = none ∧ o = none) ∨ ∃ d v, getD' kvs k = some d ∧ o = some v ∧ Rep K S d v) := by
  refine ⟨_, DGet.k ha, ?_⟩
  rcases repK_get (k := k) h with ⟨h1, h2⟩ | ⟨d, v, h1, h2, h3⟩
  · exact .inl ⟨h1, h2⟩
  · exact .inr ⟨d, v, h1, h2, h3⟩
end
/-! ### new dicts; d[k]; k in d; d.get -/
section
variable {X : Cx} {W : Wp} {Γ : List Sh} {e o f : Expr} {m mo mi mx : ME} {pos apos cpos : Pos} {i : Nat} {sh : Sh} {pm : PM}
theorem ve_dict0 : VE X W Γ (.Dict [] [] pos) (.M .s) (mC (.dic [])) := peImp pe_dnewK fun σ H Q ⟨ρ, g, S, A, r, q⟩ p hp => by
  refine q _ S _ [p] (.newO r.sH hp) ⟨p, [], [], [], rfl, rfl, upd_same, rfl, rfl, rfl, rfl⟩ (by simp) fun a ha => ?_
  have e : a = p := by simpa using ha
  subst e
  exact ⟨hp, sub_new r.sH hp⟩
def dGetI : D → D → Option D
  | .dic kvs, k => (match keyOf k with
    | some k => getD' kvs k
    | none => none)
  | _, _ => none
theorem ve_dget (hu : X.A.units + 1 < cLine) (ho : VE X W Γ o .s mo) (hi : VE X W Γ e .s mi) (hs : NoSl e) : VE X W Γ (.Subscript o e pos) .s (mBin dGetI mo mi) := peImp (pe_dget hu ho hi hs) fun σ H Q h =>
  bin_ok (r := fun x y H2 Q => ∃ a v, x = .ref a ∧ DGet H2 a y (some v) ∧ Q v H2) (fun S H dx dy x y d Q sH rx ry e q => by
    unfold dGetI at e
    split at e
    · rename_i kvs k
      cases e1 : keyOf dy with
      | none => rw [e1] at e; cases e
      | some k =>
        rw [e1] at e
        obtain ⟨a, ws, h1, h2, h3⟩ := rx
        obtain ⟨o, g1, g2⟩ := dGet (k := k) h3 (sH _ _ h2)
        rcases g2 with ⟨g3, _⟩ | ⟨d', v, g3, g4, g5⟩
        · simp only [g3] at e; cases e
        · simp only [g3] at e
          cases e
          exact ⟨a, v, h1, by rw [keyOf_rep e1 ry, ← g4]; exact g1, q.same sH g5⟩
    · cases e) h
def bInD : D → D → Option Bool
  | k, .dic kvs => (match keyOf k with
    | some k => some (getD' kvs k).isSome
    | none => none)
  | _, _ => none
def dInD (x y : D) : Option D := (bInD x y).map D.bl
def dNotInD (x y : D) : Option D := (bInD x y).map fun b => D.bl (!b)
theorem inD_core {K : PySem.W.Frag} {S H : Hp} {dx dy : D} {x y : V} {b : Bool} (sH : Ex S H) (rx : Rep K S dx x) (ry : Rep K S dy y) (e : bInD dx dy = some b) : ∃ a o, y = .ref a ∧ DGet H a x o ∧ o.isSome = b := by
  unfold bInD at e
  split at e
  · rename_i k kvs
    cases e1 : keyOf dx with
    | none => rw [e1] at e; cases e
    | some k =>
      rw [e1] at e
      obtain ⟨a, ws, h1, h2, h3⟩ := ry
      obtain ⟨o, g1, g2⟩ := dGet (k := k) h3 (sH _ _ h2)
      refine ⟨a, o, h1, by rw [keyOf_rep e1 rx]; exact g1, ?_⟩
      cases e
      rcases g2 with ⟨g3, g4⟩ | ⟨d', v, g3, g4, g5⟩
      · rw [g3, g4]; rfl
      · rw [g3, g4]; rfl
  · cases e
theorem ve_inD (hu : X.A.units + 1 < cLine) (hk : VE X W Γ e .s mi) (ho : VE X W Γ o .s mo) (hm : behindInMarks .In o = false) : VE X W Γ (.Compare e [.In] [o] pos) .s (mBin dInD mi mo) := peImp (pe_cmp (pc_din hu hk ho) hm) fun σ H Q h =>
  bin_ok (r := fun y x H2 Q => ∃ a o, x = .ref a ∧ DGet H2 a y o ∧ Q (.bl o.isSome) H2) (fun S H dx dy x y d Q sH rx ry e q => by
    unfold dInD at e
    cases e1 : bInD dx dy with
    | none => rw [e1] at e; cases e
    | some b =>
      rw [e1] at e
      cases e
      obtain ⟨a, o, h1, h2, h3⟩ := inD_core sH rx ry e1
      exact ⟨a, o, h1, h2, by rw [h3]; exact q.same sH rfl⟩) h
theorem ve_notInD (hu : X.A.units + 1 < cLine) (hk : VE X W Γ e .s mi) (ho : VE X W Γ o .s mo) (hm : behindInMarks .NotIn o = false) : VE X W Γ (.Compare e [.NotIn] [o] pos) .s (mBin dNotInD mi mo) := peImp (pe_cmp (pc_dnotin hu hk ho) hm) fun σ H Q h =>
  bin_ok (r := fun y x H2 Q => ∃ a o, x = .ref a ∧ DGet H2 a y o ∧ Q (.bl (!o.isSome)) H2) (fun S H dx dy x y d Q sH rx ry e q => by
    unfold dNotInD at e
    cases e1 : bInD dx dy with
    | none => rw [e1] at e; cases e
    | some b =>
      rw [e1] at e
      cases e
      obtain ⟨a, o, h1, h2, h3⟩ := inD_core sH rx ry e1
      exact ⟨a, o, h1, h2, by rw [h3]; exact q.same sH rfl⟩) h
variable {Γl : List Sh} {c : Cfg}
/-- d[k] = e, d held by a slot alone, its values shared -/
def sPut (i : Nat) (sh : Sh) (pm : PM) (mi m : ME) : MS := fun ρ => match m ρ with
  | .fail => .fail
  | .exc x => .ex x ρ
  | .ok x => match slot i ρ, pm ρ with
    | some d, some π => (match dicAt sh .s d π, mi ρ with
      | some kvs, .ok kd => (match keyOf kd with
        | some k => if line (kvs.length + 1) then .nx (ρ.set i (some (putP sh d π (.dic (putD kvs k x))))) else .fail
        | none => .fail)
      | _, _ => .fail)
    | _, _ => .fail
theorem Rel.dict_at {K : PySem.W.Frag} {p : Nat} {g : Gh} {ρ : Env} {σ : L2.St} {S H : Hp} {A : List Addr} {d : D} {π : List Nat} {kvs : List (L2.Key × D)} (r : Rel K p g Γ ρ σ S H A) (hs : Γ[i]? = some sh) (hd : slot i ρ = some d) (hl : dicAt sh .s d π = some kvs) {v v1 : V} (hv : σ[i]? = some (some v)) (hv1 : valAt H v π = some v1) :
    ∃ a ws, v1 = .ref a ∧ H a = some (.dK ws) ∧ RepK K S kvs ws ∧
      ∀ S' H' kvs' ws', Gw S H S' H' → RepK K S' kvs' ws' → ∃ A', Rel K p g Γ (ρ.set i (some (putP sh d π (.dic kvs')))) σ S' (upd H' a (.dK ws')) A' := by
  obtain ⟨v', v1', P, A1, Q, z1, z2, z3, z4, z5⟩ := r.at_ hs (slot_eq hd) (dicAt_eq hl)
  rw [hv] at z1
  cases z1
  rw [hv1] at z2
  cases z2
  obtain ⟨a, ws, kvs0, B, t1, t2, t3, t4, t5, t6⟩ := z3
  cases t1
  obtain ⟨eB, t7⟩ := all3_s_reps t6
  subst eB
  have hin : a ∈ A := by rw [z4, t4]; simp
  refine ⟨a, ws, t2, t3, repK_of t5 t7, fun S' H' kvs' ws' w rk => ?_⟩
  have sa : S' a = none := by
    cases q : S' a with
    | none => rfl
    | some u =>
      rcases w.nw a u q with y | y
      · rw [(r.fr a hin).1] at y; cases y
      · rw [t3] at y; cases y
  obtain ⟨k1, k2⟩ := reps_of_K rk
  refine z5 S' (upd H' a (.dK ws')) (.dic kvs') [a] w.e (fun b o hb nb => ?_) (fun b o hb => ?_) w.nw ⟨a, ws', kvs', [], rfl, t2, upd_same, rfl, k1, all3_s k2⟩ (by simp) (fun b hb => ?_) fun b hb => ?_
  · rw [t4] at nb
    rw [upd_ne fun e => nb (by rw [e]; exact List.mem_cons_self)]
    exact w.eH b o hb
  · rw [upd_ne (ne_of_none hb sa)]
    exact w.sH b o hb
  · rw [t4]; exact .inl hb
  · have e : b = a := by simpa using hb
    rw [e]; exact sa
theorem vs_put {e2 : Expr} {p3 : Pos} (hu : X.A.units + 1 < cLine) (hs : Γ[i]? = some sh) (ho : VP X c.w.p Γ i sh o pm) (hi : VE X c.w Γ e2 .s mi) (he : VE X c.w Γ e .s m) (hx : NoX mi) (hcx : c.Cx Γ) (hsw : swapsWith e (some (.Subscript o e2 p3)) pos.line X.env = pure false := by rfl) :
    VS X c Γ Γ Γl (.Assign [.Subscript o e2 p3] e pos) (sPut i sh pm mi m) := psImp (ps_dput hu ho hi he hsw) fun D σ H ⟨ρ, g, S, A, r, q⟩ => by
  unfold sPut at q
  refine ⟨ρ, g, S, A, r, ?_⟩
  cases h4 : m ρ with
  | fail => rw [h4] at q; exact q
  | exc x => rw [h4] at q; exact Post.thrown r q hcx
  | ok x =>
    simp only [h4] at q
    cases h1 : slot i ρ with
    | none => simp only [h1] at q; exact q.elim
    | some d =>
      cases h2 : pm ρ with
      | none => simp only [h1, h2] at q; exact q.elim
      | some π =>
        simp only [h1, h2] at q
        cases h3 : dicAt sh .s d π with
        | none => simp only [h3] at q; exact q.elim
        | some kvs =>
          cases h6 : mi ρ with
          | fail => simp only [h3, h6] at q; exact q.elim
          | exc z => simp only [h3, h6] at q; exact q.elim
          | ok kd =>
            simp only [h3, h6] at q
            cases h7 : keyOf kd with
            | none => simp only [h7] at q; exact q.elim
            | some k =>
              simp only [h7] at q
              by_cases hz : line (kvs.length + 1) = true
              · rw [if_pos hz] at q
                intro y S1 H1 B1 w1 ⟨_, ow⟩ n1 f1
                have r1 := r.grow w1
                refine ⟨ρ, g, S1, A, d, π, _, r1, h1, h2, dicAt_eq h3, fun v v1 S2 H2 w2 hv hv1 => ?_⟩
                have r2 := r1.grow w2
                refine ⟨ρ, g, S2, A, r2, ?_⟩
                rw [h6]
                intro z S3 H3 B3 w3 ⟨_, p3⟩ _ _
                have r3 := r2.grow w3
                obtain ⟨a, ws, t1, t2, t3, t4⟩ := r3.dict_at hs h1 h3 hv (valAt_grow w3.eH hv1)
                have hlen : ws.length < sizeLine := by
                  have z := line_ok hz
                  rw [← t3.length]
                  omega
                obtain ⟨A', r'⟩ := t4 S3 H3 (putD kvs k x) (putK ws k y) (.rfl' r3.sH) (repK_put t3 (ow.mono (exTrans w2.e w3.e)))
                exact ⟨a, _, t1, by rw [keyOf_rep h7 p3]; exact DPut.k t2 hlen, q σ S3 _ A' r' ((w1.trans (w2.trans w3)).e)⟩
              · rw [if_neg hz] at q; exact q.elim
end
end VL

namespace VL
open PySem PySem.Spec PyProof.Rows L2
open Evl (Ex)
/-! ### an owned slot read for a moment -/
def flatD : D → Bool
  | .non => true
  | .bl _ => true
  | .int _ => true
  | .str _ => true
  | _ => false
def mScal (m : ME) : ME := fun ρ => match m ρ with
  | .ok d => if flatD d then .ok d else .fail
  | _ => .fail
def mScalL (m : ME) : ME := fun ρ => match m ρ with
  | .ok (.lst ds) => if ds.all flatD then .ok (.lst ds) else .fail
  | _ => .fail
def mScalT (m : Env → R Bool) : Env → R Bool := fun ρ => match m ρ with
  | .ok b => .ok b
  | _ => .fail
section
variable {K : PySem.W.Frag} {S S1 S' H H' : Hp} {Q : VK} {d : D} {v : V}
/-- what is new of S' upon S -/
def newOf (S H S' : Hp) : Hp := fun a => match H a with
  | none => S' a
  | some _ => S a
theorem gw_new (sH : Ex S H) (w : Gw S1 H S' H') : Gw S H (newOf S H S') H' where
  e := fun a o h => by
    have z := sH a o h
    unfold newOf
    rw [z]
    exact h
  eH := w.eH
  sH := fun a o h => by
    unfold newOf at h
    cases z : H a with
    | none => rw [z] at h; exact w.sH a o h
    | some u => rw [z] at h; exact w.eH a o (sH a o h)
  nw := fun a o h => by
    unfold newOf at h
    cases z : H a with
    | none => exact .inr rfl
    | some u => rw [z] at h; exact .inl h
theorem flat_any {S T : Hp} : ∀ {d : D} {v : V}, flatD d = true → Rep K S d v → Rep K T d v
  | .non, _, _, r => r
  | .bl _, _, _, r => r
  | .int _, _, _, r => r
  | .str _, _, _, r => r
  | .lst _, _, h, _ | .frl _, _, h, _ | .tup _, _, h, _ | .dic _, _, h, _ | .dit _, _, h, _ | .obj _ _, _, h, _ => by cases h
theorem flats_any {S T : Hp} : ∀ {ds : List D} {vs : List V}, ds.all flatD = true → Reps K S ds vs → Reps K T ds vs
  | [], _, _, r => r
  | d :: ds, _, h, ⟨v, r, h1, h2, h3⟩ => by
    rw [List.all_cons, Bool.and_eq_true] at h
    exact ⟨v, r, h1, flat_any h.1 h2, flats_any h.2 h3⟩
end
section
variable {X : Cx} {W : Wp} {Γ : List Sh} {e : Expr} {m : ME}
/-- g.vp.length ≤ i is known of a slot that is not lent -/
theorem ve_bor (i : Nat) (h : VE X W (Γ.set i .s) e .s m) : VE X W Γ e .s (mScal m) := peImp h fun σ H Q ⟨ρ, g, S, A, r, q⟩ => by
  obtain ⟨S1, A1, r1, e1⟩ := r.freeze i
  unfold mScal at q
  refine ⟨ρ, g, S1, A1, r1, ?_⟩
  cases e2 : m ρ with
  | fail => rw [e2] at q; exact q
  | exc x => rw [e2] at q; exact q.elim
  | ok d =>
    rw [e2] at q
    by_cases hf : flatD d = true
    · simp only [if_pos hf] at q
      intro v S' H' B w ⟨eB, rp⟩ nd fr
      subst eB
      exact q v (newOf S H S') H' [] (gw_new r.sH w) ⟨rfl, flat_any hf rp⟩ nd fun _ z => nomatch z
    · simp only [if_neg hf] at q
theorem ve_borL (i : Nat) (h : VE X W (Γ.set i .s) e (.L .s) m) : VE X W Γ e (.L .s) (mScalL m) := peImp h fun σ H Q ⟨ρ, g, S, A, r, q⟩ => by
  obtain ⟨S1, A1, r1, e1⟩ := r.freeze i
  unfold mScalL at q
  refine ⟨ρ, g, S1, A1, r1, ?_⟩
  cases e2 : m ρ with
  | fail => rw [e2] at q; exact q
  | exc x => rw [e2] at q; exact q.elim
  | ok d =>
    rw [e2] at q
    cases d with
    | lst ds =>
      by_cases hf : ds.all flatD = true
      · simp only [if_pos hf] at q
        intro v S' H' B w ⟨a, vs, ds', B', h1, h2, h3, h4, h5⟩ nd fr
        cases h1
        obtain ⟨eB, rp⟩ := all3_s_reps h5
        refine q v (newOf S H S') H' B (gw_new r.sH w) ⟨a, vs, ds, B', rfl, h2, h3, h4, by rw [eB]; exact all3_s (flats_any hf rp)⟩ nd fun b hb => ⟨(fr b hb).1, ?_⟩
        unfold newOf
        rw [(fr b hb).1]
        exact (fr b hb).2
      · simp only [if_neg hf] at q
    | _ => exact q.elim
theorem vt_bor {t : Env → R Bool} (i : Nat) (h : VT X W (Γ.set i .s) e t) : VT X W Γ e (mScalT t) := ptImp h fun σ H Q ⟨ρ, g, S, A, r, q⟩ => by
  obtain ⟨S1, A1, r1, e1⟩ := r.freeze i
  unfold mScalT at q
  refine ⟨ρ, g, S1, A1, r1, ?_⟩
  cases e2 : t ρ with
  | fail => rw [e2] at q; exact q
  | exc x => rw [e2] at q; exact q.elim
  | ok b =>
    rw [e2] at q
    exact fun S' H' w => q (newOf S H S') H' (gw_new r.sH w)
theorem nx_scal : NoX (mScal m) := fun ρ x h => by
  unfold mScal at h
  split at h
  · split at h <;> cases h
  · cases h

/-! ### enumerate over a text -/
def Iset (x : Str) : It := ⟨fun i _ => i < x.cps.size, fun i H v H' => ∃ T c, v = .ref T ∧ H T = none ∧ x.cps[i]? = some c ∧ H' = upd H T (.tup [.int (i : Nat), .str ⟨#[c]⟩]), fun i _ => i = x.cps.size⟩
end
theorem turn_enumS {P : Program} {w : World} {K : PySem.W.Frag} {elts : List Expr} {kk : Nat} {tpos : Pos} (x : Str) (t : Tok) (e it : Addr) :
    Turn P w K (.Tuple elts kk tpos) (Iset x) [e, it] e (fun i h => (∃ old, IsEnum h e it ((i : Nat) : Int) old) ∧ h.IsStrIter it (strIterType x) x t i ∧ e ≠ it) where
  mem := by simp
  obj := fun i h ⟨⟨old, he⟩, ⟨o, ho, hc, hd⟩, _⟩ b hb => by
    have hb' : b = e ∨ b = it := by simpa using hb
    rcases hb' with z | z
    · rw [z]; exact ⟨_, he, fun v q => nomatch q⟩
    · rw [z]; exact ⟨o, ho, fun v q => by rw [hd] at q; cases q⟩
  keep := fun i h h' ⟨⟨old, he⟩, hi, hne⟩ k => let ⟨o, ho, r⟩ := hi; ⟨⟨old, k e (by simp) _ he⟩, ⟨o, k it (by simp) o ho, r⟩, hne⟩
  item := by
    intro X hP hw hK hc i pins s σ H E I hf ⟨⟨old, he⟩, hit, hne⟩ hg
    subst hP hw hK
    have hel : e < s.heap.objs.size := Heap.lt_size he
    have hil : it < s.heap.objs.size := by obtain ⟨_, q, _⟩ := hit; exact Heap.lt_size q
    have hh : X.A.in1.handled = none := I.ok.hd hc
    refine wpAny_pyNext_enum_itemC (Draws.text (prog := X.prog) (w := X.w) hh it x t) he hit hg hne (by simpa using hne) fun y h' tk hy ho hit' hT hsz hk => ?_
    obtain ⟨c, u, hc1, rfl⟩ := hy
    refine ⟨_, rfl, wpAny_letOwnedTupleGo_enum (s := { s with heap := h', toks := tk + 1 }) ho fun h2 he2 sb => ?_⟩
    have hT2 : h2.get? s.heap.objs.size = some { cls := .type "tuple", data := .seq #[.int i tk, .str ⟨#[c]⟩ u] } := (sb.2 _ (Nat.ne_of_gt hel)).trans hT
    have new : ObjOk X.prog X.w (upd H s.heap.objs.size (.tup [.int (i : Nat), .str ⟨#[c]⟩])) h2 s.heap.objs.size (.tup [.int (i : Nat), .str ⟨#[c]⟩]) :=
      ⟨by show 2 ≤ sizeLine; decide, [.int i tk, .str ⟨#[c]⟩ u], .cons ⟨_, rfl⟩ (.cons ⟨_, rfl⟩ .nil), ⟨_, hT2, rfl, _, rfl⟩⟩
    refine ⟨.ref s.heap.objs.size, _, I.turnedNew (t' := tk + 1) (ch := [e, it]) (fun b ob hb q => ?_) hf (Nat.le_refl _) new, rfl, ⟨_, c, rfl, I.hok.fresh (Nat.le_refl _), hc1, rfl⟩, ⟨⟨.str ⟨#[c]⟩ u, ?_⟩, (let ⟨o, ho, r⟩ := hit'; ⟨o, (sb.2 it (Ne.symm hne)).trans ho, r⟩), hne⟩, fun b hb => ?_⟩
    · have b1 : b ≠ e := fun z => hb (by simp [z])
      have b2 : b ≠ it := fun z => hb (by simp [z])
      exact (sb.2 b b1).trans (hk b ob b1 b2 q)
    · have e1 : ((i + 1 : Nat) : Int) = (i : Int) + 1 := by omega
      rw [e1]; exact he2
    · have hb' : b = e ∨ b = it := by simpa using hb
      have hlt : b < s.heap.objs.size := by
        rcases hb' with z | z
        · rw [z]; exact hel
        · rw [z]; exact hil
      rw [upd_ne (Nat.ne_of_lt hlt)]
      exact (hf b hb).1
  done := by
    intro X hP hw hK hc i pins s σ H E I hf ⟨⟨old, he⟩, hit, hne⟩ hg
    subst hP hw hK
    obtain ⟨f0, f1, f2, f3, f4, f5⟩ := hf it (by simp)
    have hh : X.A.in1.handled = none := I.ok.hd hc
    have ei : i = x.cps.size := hg
    subst ei
    exact wpAny_pyNext_enum_endD (Draws.text hh it x t) he hit fun h' hx => ⟨rfl, I.turned (t' := s.toks) (fun b o hb q => hx b o hb q) f0 f1 f3 f4 f5⟩
  self := fun A i s Q E ⟨⟨_, he⟩, _⟩ h => wpAny_pyIter_enum he h
section
variable {X : Cx} {W : Wp} {Γ : List Sh} {e : Expr} {mas : Env → R (List D)} {pos p tpos : Pos} {elts : List Expr} {kk : Nat}
def iEnumS (ta : TA) : TI := fun σ H R => ta σ H fun vs H1 => ∃ x, vs = [.str x] ∧ R (Iset x) H1
theorem pi_enumS {ta : TA} (hg : Gl X "enumerate") (hm : X.mg "enumerate" = none) (ha : PA X [e] ta) (hs : starEach [e] X.env = [(false, eval e X.env)] := by rfl) : PI X (.Tuple elts kk tpos) (.Call (.Name "enumerate" p) [e] [] pos) (iEnumS ta) := by
  refine ⟨fun pins s σ H R I h => ?_⟩
  refine Call_ (ld_blt I hg hm boot_enumerate (PyProof.Rows.callWith_type1 (thn (ha.run pos pins s σ H _ I h) fun us s1 hq => ?_) hs rfl))
  obtain ⟨vs, H1, I1, r1, x, ex, q⟩ := hq
  subst ex
  cases r1 with
  | cons r rr =>
    cases rr
    obtain ⟨t, rfl⟩ := r
    refine call_enumerate_str fun h' he hit hsz hk => wpAny_pyIter_enum he ?_
    have I2 : Inv X pins σ H1 { s1 with heap := h' } := I1.kept (t' := s1.toks) hk
    refine ⟨s1.heap.objs.size + 1, [s1.heap.objs.size + 1, s1.heap.objs.size], _, _, H1, rfl, I2, turn_enumS x t (s1.heap.objs.size + 1) s1.heap.objs.size, ⟨⟨.none, he⟩, hit, Nat.succ_ne_self _⟩, fun b hb => ?_, q⟩
    have hle : s1.heap.objs.size ≤ b := by
      have hb' : b = s1.heap.objs.size + 1 ∨ b = s1.heap.objs.size := by simpa using hb
      rcases hb' with z | z
      · rw [z]; exact Nat.le_add_right _ _
      · rw [z]; exact Nat.le_refl _
    exact I1.fpOk hle (I1.hok.fresh hle)
theorem yields_enumS {K : PySem.W.Frag} {S : Hp} {x : Str} : Yields K (Iset x) S (enums (chars x)) where
  go := fun i S' H' e1 e2 hi => by
    rw [enums_len, chars_len] at hi
    exact hi
  stop := fun i S' H' e1 e2 hi => by
    rw [enums_len, chars_len] at hi
    exact hi
  yld := fun i S' H' v H2 d e1 e2 y hd => by
    obtain ⟨T, c, rfl, hT, hc, rfl⟩ := y
    obtain ⟨dx, q1, rfl⟩ := enums_get hd
    unfold chars at q1
    rw [List.getElem?_map, Array.getElem?_toList, hc] at q1
    cases q1
    exact gw_pair (x := .int (i : Nat)) (dx := .int (i : Nat)) (y := .str ⟨#[c]⟩) (dy := .str ⟨#[c]⟩) e2 rfl rfl hT
def dEnum : List D → Option (List D)
  | [.lst ds] => some (enums ds)
  | [.frl ds] => some (enums ds)
  | [.str x] => some (enums (chars x))
  | _ => none
theorem vi_enum (hg : Gl X "enumerate") (hm : X.mg "enumerate" = none) (ha : VA X W Γ [e] mas) (hs : starEach [e] X.env = [(false, eval e X.env)] := by rfl) : VI X W Γ (.Tuple elts kk tpos) (.Call (.Name "enumerate" p) [e] [] pos) (mItA dEnum mas) :=
  piImp (piOr (pi_enum hg hm ha hs) (pi_enumS hg hm ha hs)) fun σ H R ⟨ρ, g, S, A, r, q⟩ => by
  unfold mItA at q
  cases e1 : mas ρ with
  | fail => rw [e1] at q; exact q.elim
  | exc x => rw [e1] at q; exact .inl ⟨ρ, g, S, A, r, by rw [e1]; exact q⟩
  | ok ds =>
    rw [e1] at q
    cases e2 : dEnum ds with
    | none => simp only [e2] at q
    | some l =>
      simp only [e2] at q
      unfold dEnum at e2
      split at e2
      · cases e2
        refine .inl ⟨ρ, g, S, A, r, ?_⟩
        rw [e1]
        intro vs S1 H1 w1 p1
        obtain ⟨v, rfl, a, xs, h1, h2, h3⟩ := reps1 p1
        exact ⟨a, xs, by rw [h1], SqL.of (w1.sH _ _ h2), q _ S1 H1 w1 (yields_enum (SqL.of h2) h3)⟩
      · cases e2
        refine .inl ⟨ρ, g, S, A, r, ?_⟩
        rw [e1]
        intro vs S1 H1 w1 p1
        obtain ⟨v, rfl, a, xs, h1, h2, h3⟩ := reps1 p1
        exact ⟨a, xs, by rw [h1], Evl.ex_l w1.sH h2, q _ S1 H1 w1 (yields_enum h2 h3)⟩
      · cases e2
        refine .inr ⟨ρ, g, S, A, r, ?_⟩
        rw [e1]
        intro vs S1 H1 w1 p1
        obtain ⟨v, rfl, h1⟩ := reps1 p1
        exact ⟨_, by rw [show v = _ from h1], q _ S1 H1 w1 yields_enumS⟩
      · cases e2
end
end VL

namespace VL
open PySem PySem.Spec PyProof.Rows L2
open Evl (Ex)
theorem nx_noP : ∀ ρ x, mNoP ρ ≠ .exc x := fun _ _ h => by cases h
theorem nx_part {a : ME} (h : NoX a) : ∀ ρ x, mPart a ρ ≠ .exc x := fun ρ x q => by
  unfold mPart at q
  cases e : a ρ with
  | fail => simp only [e] at q; cases q
  | exc y => exact h ρ y e
  | ok d =>
    rw [e] at q
    cases d <;> cases q
theorem nx_sl {f : D → Option Int → Option Int → Option D} {a : ME} {l k : Env → R (Option Int)} (h : NoX a) (hl : ∀ ρ x, l ρ ≠ .exc x) (hk : ∀ ρ x, k ρ ≠ .exc x) : NoX (mSl f a l k) := fun ρ x q => by
  unfold mSl at q
  split at q
  · cases q
  · rename_i y e
    exact h ρ y e
  · rename_i d e
    split at q
    · cases q
    · rename_i y e
      exact hl ρ y e
    · rename_i d e
      split at q
      · cases q
      · rename_i y e
        exact hk ρ y e
      · split at q <;> cases q
theorem okOwn_ok {Γ : List Sh} {p : Nat} {l : List Nat} (h : l.all (fun i => (match Γ[i]? with | some .s => true | _ => false) && decide (p ≤ i)) = true) : ∀ i ∈ l, Γ[i]? = some .s ∧ p ≤ i := fun i hi => by
  have z := List.all_eq_true.mp h i hi
  rw [Bool.and_eq_true] at z
  refine ⟨?_, of_decide_eq_true z.2⟩
  have z1 := z.1
  cases e : Γ[i]? with
  | none => rw [e] at z1; cases z1
  | some q =>
    rw [e] at z1
    cases q <;> first | rfl | cases z1
instance : Nonempty FuncData := ⟨default⟩
theorem hu2_of {A : Around} {k : Nat} (r : Room k A) : A.units + 65 < cLine := by have z := r.un; omega
noncomputable def fdAt (K : PySem.W.Frag) (a : Addr) : FuncData := Classical.epsilon fun fd => ∃ o, K.lookup a = some o ∧ o.data = .func fd
theorem fdAt_of {K : PySem.W.Frag} {x qual : Str} {params : Arguments} {body : List Stmt} {scope : Scope} {dvs : List V} {kws : List (Str × V)} {f : Addr} (h : ∃ fd, FunD K x qual params body scope dvs kws f fd) : FunD K x qual params body scope dvs kws f (fdAt K f) := by
  obtain ⟨fd, F⟩ := h
  have F2 := F
  obtain ⟨oc, od, dV, kV, doc, pm, an, cdv, ct, osl, e1, lk, _⟩ := F2.ex
  have z : ∃ o, K.lookup f = some o ∧ o.data = .func (fdAt K f) := Classical.epsilon_spec (p := fun fd => ∃ o, K.lookup f = some o ∧ o.data = .func fd) ⟨fd, _, lk, rfl⟩
  obtain ⟨o, h1, h2⟩ := z
  rw [lk] at h1
  cases h1
  have e : fd = fdAt K f := by
    simpa using h2
  rw [← e]
  exact F
theorem gcon_str {K : PySem.W.Frag} {mg : Str → Option Value} {x z : Str} (h : ∃ t, mg x = some (.str z t)) : GCon K mg x (.str z) := let ⟨t, e⟩ := h; ⟨_, .str z, e, ⟨t, rfl⟩, fun _ => rfl⟩
theorem gcon_int {K : PySem.W.Frag} {mg : Str → Option Value} {x : Str} {i : Int} (h : ∃ t, mg x = some (.int i t)) : GCon K mg x (.int i) := let ⟨t, e⟩ := h; ⟨_, .int i, e, ⟨t, rfl⟩, fun _ => rfl⟩
section
variable {X : Cx} {W : Wp} {Γ : List Sh} {e : Expr} {m : ME}
theorem truV_of {K : PySem.W.Frag} {S H : Hp} {d : D} {v : V} {b : Bool} (sH : Ex S H) (r : Rep K S d v) (h : dTruth d = some b) : TruV K v H b := by
  cases d with
  | non => cases h; rw [show v = _ from r]; rfl
  | bl c => cases h; rw [show v = _ from r]; rfl
  | int i => cases h; rw [show v = _ from r]; rfl
  | str x =>
    rw [show v = _ from r]
    have h' : (if x.length ≤ sizeLine then some (x.length != 0) else none) = some b := h
    split at h'
    · rename_i hz
      cases h'
      refine ⟨hz, ?_⟩
      cases e : x.length with
      | zero => rfl
      | succ n =>
        simp [bne]
        omega
    · cases h'
  | lst ds =>
    obtain ⟨a, xs, h1, h2, h3⟩ := r
    cases h
    rw [h1]
    refine .inl ⟨xs, SqL.of (sH _ _ h2), ?_⟩
    have := h3.length
    cases ds <;> cases xs <;> first | rfl | cases this
  | tup ds =>
    obtain ⟨a, xs, h1, h2, h3⟩ := r
    cases h
    rw [h1]
    refine .inr (.inl ⟨xs, Evl.ex_t sH h2, ?_⟩)
    have := h3.length
    cases ds <;> cases xs <;> first | rfl | cases this
  | dic ds =>
    obtain ⟨a, xs, h1, h2, h3⟩ := r
    cases h
    rw [h1]
    refine .inr (.inr ⟨xs, sH _ _ h2, ?_⟩)
    have := h3.length
    cases ds <;> cases xs <;> first | rfl | cases this
  | _ => cases h
theorem vt_tru (h : VE X W Γ e .s m) (he : ∀ whole, isTrue e X.env whole = (do let v ← whole; standAt e.pos; holding [v] (truthy v)) := by intro _; rfl) : VT X W Γ e (mTest dTruth m) := ptImp (pt_truth h he) fun σ H Q ⟨ρ, g, S, A, rel, q⟩ => by
  unfold mTest at q
  refine ⟨ρ, g, S, A, rel, ?_⟩
  cases e1 : m ρ with
  | fail => rw [e1] at q; exact q
  | exc x => rw [e1] at q; exact q
  | ok d =>
    rw [e1] at q
    cases e2 : dTruth d with
    | none => simp only [e2] at q
    | some b =>
      simp only [e2] at q
      intro v S' H' A1 w ow nd fr
      exact ⟨b, truV_of w.sH ow.2 e2, q S' H' w⟩
end
section
variable {X : Cx} {c : Cfg} {Γ Γl : List Sh} {e : Expr} {m : ME} {pos : Pos}
/-- x op= e, the slot shared -/
def sAug (i : Nat) (f : D → D → Option D) (m : ME) : MS := fun ρ => match slot i ρ, m ρ with
  | _, .fail => .fail
  | none, _ => .fail
  | some _, .exc x => .ex x ρ
  | some d, .ok d' => match f d d' with
    | none => .fail
    | some z => .nx (ρ.set i (some z))
theorem vs_aug (i : Nat) {x : Str} {op : Operator} {r : R2} {f : D → D → Option D} {pos' : Pos} (hN : X.N.Nodup) (ho : OpR X (inplaceOp op) r) (hr : ROk X.K r f .s) (he : VE X c.w Γ e .s m) (hcx : c.Cx Γ) (hs : Γ[i]? = some .s := by rfl) (hi : X.N[i]? = some x := by rfl) (hx : Loc X.env.scope x := by first | exact .inl rfl | exact .inr rfl) (hp : c.w.p ≤ i := by exact Nat.le_of_ble_eq_true rfl)
    (hf : X.fn x = true ∨ X.env.scope.names.lookup x = some .local := by first | exact .inl rfl | exact .inr rfl) : VS X c Γ Γ Γl (.AugAssign (.Name x pos') op e pos) (sAug i f m) := psImp (ps_aug hN hi hx he ho hf) fun D σ H ⟨ρ, g, S, A, r, q⟩ => by
  unfold sAug at q
  cases h1 : slot i ρ with
  | none =>
    rw [h1] at q
    cases h2 : m ρ <;> (rw [h2] at q; exact q.elim)
  | some d =>
    obtain ⟨P, B1, Q', q1, q2, q3, q4, _⟩ := r.slots.at_ hs
    obtain ⟨v, hv, ow'⟩ := q4 d (slot_eq h1)
    have ow := ow'.2
    refine ⟨v, hv, ρ, g, S, A, r, ?_⟩
    rw [h1] at q
    cases h2 : m ρ with
    | fail => rw [h2] at q; exact q.elim
    | exc y => rw [h2] at q; exact Post.thrown r q hcx
    | ok d' =>
      rw [h2] at q
      cases h3 : f d d' with
      | none => simp only [h3] at q; exact q.elim
      | some z =>
        simp only [h3] at q
        intro y S1 H1 A1 w1 ⟨_, o1⟩ _ _
        have r1 := r.grow w1
        refine hr S1 H1 d d' v y z _ w1.sH (ow.mono w1.e) o1 h3 ?_
        intro u S2 H2 A2 w2 o2 n2 f2
        obtain ⟨e2, o2'⟩ := o2
        obtain ⟨A3, r3⟩ := (r1.grow w2).setS o2' hs hp
        exact q _ S2 H2 A3 r3 (exTrans w1.e w2.e)
abbrev rAddP : R2 := fun x y H Q => (rI0 fun i j => .int (i + j)) x y H Q ∨ (∃ i j, x = .str i ∧ y = .str j ∧ i.length + j.length ≤ sizeLine ∧ Q (.str (i ++ j)) H)
def dAddP : D → D → Option D
  | .int i, .int j => some (.int (i + j))
  | .str x, .str y => if line (x.length + y.length) then some (.str (x ++ y)) else none
  | _, _ => none
theorem ip_addA : OpR X (inplaceOp .Add) rAddP := iop_add.or iop_add_str
theorem pk_add {K : PySem.W.Frag} : ROk K rAddP dAddP .s := fun S H dx dy x y d Q sH rx ry e q => by
  unfold dAddP at e
  split at e
  · cases e
    exact .inl ⟨_, _, rx, ry, q.same sH rfl⟩
  · split at e
    · rename_i hz
      cases e
      exact .inr ⟨_, _, rx, ry, line_ok hz, q.same sH rfl⟩
    · cases e
  · cases e
theorem ip_subA : OpR X (inplaceOp .Sub) (rI0 fun i j => .int (i - j)) := iop_sub
theorem ip_mulA : OpR X (inplaceOp .Mult) (rI CMul fun i j => .int (i * j)) := iop_mul
theorem pk_mul {K : PySem.W.Frag} : ROk K (rI CMul fun i j => .int (i * j)) dMulI .s := rk_IC fun _ _ h => cMul_ok h
theorem ip_divA : OpR X (inplaceOp .FloorDiv) (rI CDiv fun i j => .int (i / j)) := iop_fdiv
end
/-- the end of a law, what it may let out known of the world -/
theorem law_end {l : PySem.W.OpenLaw} {n k : Nat} {q : Program} {loose : List Str} {XP : (Str → Option Value) → Heap → Prop} {YP : World → Heap → Prop} {d : DefRec} {x : Str}
    (h1 : l.most = some n) (h2 : n ≤ sizeLine) (h3 : d.params.defaults = []) (room : Room k callerA) {f : List D → FR}
    (hf : ∀ ns : List Int, ns.length ≤ n → f [.frl (ns.map D.int)] = .ok (.bl true) [])
    (F : ∀ (w : World) (mg : Str → Option Value) (fa : Addr) (h : Heap), YP w h → h.Ns mainGlobals mg → mg d.name = some (.ref fa) →
      ∃ (K : PySem.W.Frag) (fd : FuncData), K.In h ∧ (∀ (s : Shared) (u : Value), BindsTo s fd ⟨[u], []⟩ [(x, u)]) ∧ ∀ base : Heap, K.In base → base.Ns mainGlobals mg → FnOk l.prog w K mg base (L2.CX l.prog w) k fa fd [x] (spF K 1 [] [] .s f)) :
    PySem.W.WalkO q loose XP YP l.row.toRowW d [] (fun f vs => PySem.call f vs) := by
  refine Att.attach_call h1 h3 fun w s₀ s₁ mg mb fa o pm cd doc a vs ns G Y ho hd hcd hmg hob hin hle hge => ?_
  obtain ⟨K, fd, KX, bd, FF⟩ := F w mg fa _ Y G.T.g hmg
  refine law_call KX G.T.g G.T.b G.T.builtins G.T.nolimit hge hob hin (Nat.le_trans hle h2) room FF bd (fun H hO hS => ?_) fun H e s' z => ?_
  · refine call_core (ds := [.frl (ns.map D.int)]) (S := H) Ex.rfl' ?_ rfl ?_
    · exact ⟨_, _, rfl, ⟨a, _, rfl, hS, ints_reps⟩, rfl⟩
    · rw [hf ns hle]
      intro v S' H' A1 w ⟨_, ow⟩ nd fr
      exact ow
  · obtain ⟨_, _, _, _, _, _, _, _, _, _, _, _, _, z⟩ := z
end VL

namespace VL
open PySem PySem.Spec PyProof.Rows L2
/-! ### what a denotation gives at given slots: rules for simp -/
section
variable {ρ ρ' : Env} {a b m mi : ME} {M N : MS} {d : D} {ds : List D} {mas : Env → R (List D)} {t u : Env → R Bool} {x : Exn}
@[simp] theorem ev_var {i : Nat} : mVar i ρ = (match ρ[i]? with
  | some (some d) => .ok d
  | _ => .fail) := id rfl
@[simp] theorem ev_c : mC d ρ = .ok d := id rfl
@[simp] theorem ev_bin {f : D → D → Option D} : mBin f a b ρ = (match a ρ with
  | .fail => .fail
  | .exc x => .exc x
  | .ok x => match b ρ with
    | .fail => .fail
    | .exc x => .exc x
    | .ok y => match f x y with
      | none => .fail
      | some d => .ok d) := id rfl
@[simp] theorem ev_un {f : D → Option D} : mUn f a ρ = (match a ρ with
  | .fail => .fail
  | .exc x => .exc x
  | .ok x => match f x with
    | none => .fail
    | some d => .ok d) := id rfl
@[simp] theorem ev_test {f : D → Option Bool} : mTest f a ρ = (match a ρ with
  | .fail => .fail
  | .exc x => .exc x
  | .ok x => match f x with
    | none => .fail
    | some b => .ok b) := id rfl
@[simp] theorem ev_bool {c : Bool} : dBool (.bl c) = some c := id rfl
@[simp] theorem ev_and : mAndT t u ρ = (match t ρ with
  | .ok true => u ρ
  | o => o) := id rfl
@[simp] theorem ev_or : mOrT t u ρ = (match t ρ with
  | .ok false => u ρ
  | o => o) := id rfl
@[simp] theorem ev_not : mNotT t ρ = (match t ρ with
  | .ok b => .ok (!b)
  | o => o) := id rfl
@[simp] theorem ev_nil : mNil ρ = .ok [] := id rfl
@[simp] theorem ev_cons : mCons a mas ρ = (match a ρ with
  | .fail => .fail
  | .exc x => .exc x
  | .ok d => match mas ρ with
    | .fail => .fail
    | .exc x => .exc x
    | .ok ds => .ok (d :: ds)) := id rfl
@[simp] theorem ev_args {f : List D → Option D} : mArgs f mas ρ = (match mas ρ with
  | .fail => .fail
  | .exc x => .exc x
  | .ok xs => match f xs with
    | none => .fail
    | some d => .ok d) := id rfl
@[simp] theorem ev_meth {ty : D → Bool} {f : D → List D → Option D} : mMeth ty f m mas ρ = (match m ρ with
  | .fail => .fail
  | .exc x => .exc x
  | .ok x => if ty x = true then (match mas ρ with
    | .fail => .fail
    | .exc x => .exc x
    | .ok xs => match f x xs with
      | none => .fail
      | some d => .ok d) else .fail) := id rfl
@[simp] theorem ev_andV : mAndV a b ρ = (match a ρ with
  | .ok (.bl true) => b ρ
  | .ok (.bl false) => .ok (.bl false)
  | .exc x => .exc x
  | _ => .fail) := id rfl
@[simp] theorem ev_orV : mOrV a b ρ = (match a ρ with
  | .ok (.bl false) => b ρ
  | .ok (.bl true) => .ok (.bl true)
  | .exc x => .exc x
  | _ => .fail) := id rfl
@[simp] theorem ev_ifE : mIfE t a b ρ = (match t ρ with
  | .ok true => a ρ
  | .ok false => b ρ
  | .exc x => .exc x
  | .fail => .fail) := by unfold mIfE; cases t ρ with | ok b => cases b <;> rfl | _ => rfl
@[simp] theorem ev_noP : mNoP ρ = .ok none := id rfl
@[simp] theorem ev_part : mPart a ρ = (match a ρ with
  | .exc x => .exc x
  | .ok (.int i) => .ok (some i)
  | _ => .fail) := id rfl
@[simp] theorem ev_sl {f : D → Option Int → Option Int → Option D} {l h : Env → R (Option Int)} : mSl f a l h ρ = (match a ρ with
  | .fail => .fail
  | .exc x => .exc x
  | .ok x => match l ρ with
    | .fail => .fail
    | .exc x => .exc x
    | .ok lo => match h ρ with
      | .fail => .fail
      | .exc x => .exc x
      | .ok hi => match f x lo hi with
        | some d => .ok d
        | none => .fail) := id rfl
@[simp] theorem ev_next : sNext ρ = .nx ρ := id rfl
@[simp] theorem ev_seq : sSeq M N ρ = (match M ρ with
  | .nx ρ' => N ρ'
  | o => o) := id rfl
@[simp] theorem ev_asg {i : Nat} : sAsg i m ρ = (match m ρ with
  | .fail => .fail
  | .exc x => .ex x ρ
  | .ok d => .nx (ρ.set i (some d))) := id rfl
@[simp] theorem ev_exp : sExp m ρ = (match m ρ with
  | .fail => .fail
  | .exc x => .ex x ρ
  | .ok _ => .nx ρ) := id rfl
@[simp] theorem ev_ret : sRet m ρ = (match m ρ with
  | .fail => .fail
  | .exc x => .ex x ρ
  | .ok d => .rt d ρ) := id rfl
@[simp] theorem ev_retMv {i : Nat} : sRetMv i ρ = (match ρ[i]? with
  | some (some d) => .rt d (ρ.set i none)
  | _ => .fail) := id rfl
@[simp] theorem ev_retN : sRetN ρ = .rt .non ρ := id rfl
@[simp] theorem ev_break : sBreak ρ = .bk ρ := id rfl
@[simp] theorem ev_cont : sCont ρ = .ct ρ := id rfl
@[simp] theorem ev_if : sIf t M N ρ = (match t ρ with
  | .ok true => M ρ
  | .ok false => N ρ
  | .exc x => .ex x ρ
  | .fail => .fail) := id rfl
@[simp] theorem ev_for {tgt : D → Env → Option Env} {it : Env → R (List D)} : sFor tgt it M ρ = (match it ρ with
  | .fail => .fail
  | .exc x => .ex x ρ
  | .ok ds => loopD tgt M ds ρ) := id rfl
@[simp] theorem ev_call {f : List D → FR} : mCall f mas ρ = (match mas ρ with
  | .fail => .fail
  | .exc x => .exc x
  | .ok ds => match f ds with
    | .fail => .fail
    | .ok d _ => .ok d
    | .exc x _ => .exc x) := id rfl
@[simp] theorem ev_call0 {f : List D → FR} : mCall0 f ρ = (match f [] with
  | .ok d _ => .ok d
  | _ => .fail) := id rfl
@[simp] theorem ev_it {f : D → Option (List D)} : mIt f a ρ = (match a ρ with
  | .fail => .fail
  | .exc x => .exc x
  | .ok d => match f d with
    | some l => .ok l
    | none => .fail) := id rfl
@[simp] theorem ev_itA {f : List D → Option (List D)} : mItA f mas ρ = (match mas ρ with
  | .fail => .fail
  | .exc x => .exc x
  | .ok d => match f d with
    | some l => .ok l
    | none => .fail) := id rfl
@[simp] theorem ev_tgName {i : Nat} : tgName i d ρ = some (ρ.set i (some d)) := id rfl
@[simp] theorem ev_tgNil : tgNil [] ρ = some ρ := id rfl
@[simp] theorem ev_tgCons {tg : D → Env → Option Env} {tu : List D → Env → Option Env} : tgCons tg tu (d :: ds) ρ = (match tg d ρ with
  | none => none
  | some ρ' => tu ds ρ') := by unfold tgCons; simp; cases tg d ρ <;> rfl
@[simp] theorem ev_tgTup {n : Nat} {tu : List D → Env → Option Env} : tgTup n tu (.tup ds) ρ = (if ds.length = n then tu ds ρ else none) := id rfl
@[simp] theorem ev_yes : mYes ρ = .ok true := id rfl
@[simp] theorem ev_scal : mScal m ρ = (match m ρ with
  | .ok d => if flatD d then .ok d else .fail
  | _ => .fail) := id rfl
@[simp] theorem ev_scalL : mScalL m ρ = (match m ρ with
  | .ok (.lst ds) => if ds.all flatD then .ok (.lst ds) else .fail
  | _ => .fail) := id rfl
@[simp] theorem ev_scalT : mScalT t ρ = (match t ρ with
  | .ok b => .ok b
  | _ => .fail) := id rfl
@[simp] theorem ev_aug {i : Nat} {f : D → D → Option D} : sAug i f m ρ = (match slot i ρ, m ρ with
  | _, .fail => .fail
  | none, _ => .fail
  | some _, .exc x => .ex x ρ
  | some d, .ok d' => match f d d' with
    | none => .fail
    | some z => .nx (ρ.set i (some z))) := id rfl
@[simp] theorem ev_fn {n p : Nat} {nn : Bool} : fnOf n p nn M ds = (match M (env0 n ds) with
  | .nx ρ => (match nn, outsOf p ρ with
    | true, some l => .ok .non l
    | _, _ => .fail)
  | .rt d ρ => (match outsOf p ρ with
    | some l => .ok d l
    | none => .fail)
  | .ex x ρ => (match outsOf p ρ with
    | some l => .exc x l
    | none => .fail)
  | _ => .fail) := id rfl
@[simp] theorem ev_outs0 : outsOf 0 ρ = some [] := id rfl
/-- append to a list that a slot alone holds -/
theorem ev_app0 {i : Nat} {xs : List D} (h : ρ[i]? = some (some (.lst xs))) (hm : m ρ = .ok d) (hl : line (xs.length + 1) = true) : sApp i (.L .s) .s (fun _ => some []) m ρ = .nx (ρ.set i (some (.lst (xs ++ [d])))) := by
  have e : slot i ρ = some (.lst xs) := by unfold slot; rw [h]
  have e1 : lstAt (.L .s) .s (.lst xs) [] = some xs := id rfl
  unfold sApp
  simp only [e, hm, e1]
  first
    | rw [if_pos hl]; rfl
    | (simp [hl, putP])
theorem slot_of {i : Nat} (h : ρ[i]? = some (some d)) : slot i ρ = some d := by unfold slot; rw [h]
theorem ev_put0 {i : Nat} {kvs : List (L2.Key × D)} {k : L2.Key} {kd : D} (h : ρ[i]? = some (some (.dic kvs))) (hm : m ρ = .ok d) (hi : mi ρ = .ok kd) (hk : keyOf kd = some k) (hl : line (kvs.length + 1) = true) : sPut i (.M .s) (fun _ => some []) mi m ρ = .nx (ρ.set i (some (.dic (putD kvs k d)))) := by
  have e : slot i ρ = some (.dic kvs) := by unfold slot; rw [h]
  have e1 : dicAt (.M .s) .s (.dic kvs) [] = some kvs := id rfl
  unfold sPut
  simp only [e, hm, hi, hk, e1]
  rw [if_pos hl]; rfl
theorem ev_lc {vs : List Nat} {tgt : D → Env → Option Env} {it : Env → R (List D)} {l : List D} (h : it ρ = .ok ds) (hl : ds.length ≤ 16777216) (h2 : lcD tgt t a (wipeD ρ vs) ds = some l) : mLc vs tgt it t a ρ = .ok (.lst l) := by
  unfold mLc
  rw [h]
  have z : ds.length ≤ sizeLine := by rw [sizeLine_eq]; exact hl
  simp only [if_pos z, h2]
/-- a loop whose body only goes on, from one state to the next -/
theorem loop_fold {σ : Type} {α : Type} (env : σ → Env) (val : α → D) (step : σ → α → σ) {tgt : D → Env → Option Env} (ok : σ → List α → Prop)
    (hs : ∀ s x xs, ok s (x :: xs) → ok (step s x) xs ∧ ∃ ρ1, tgt (val x) (env s) = some ρ1 ∧ (M ρ1 = .nx (env (step s x)) ∨ M ρ1 = .ct (env (step s x)))) :
    ∀ xs s, ok s xs → loopD tgt M (xs.map val) (env s) = .nx (env (xs.foldl step s))
  | [], s, _ => rfl
  | x :: xs, s, h => by
    obtain ⟨h1, ρ1, h2, h3⟩ := hs s x xs h
    have ih := loop_fold env val step ok hs xs (step s x) h1
    rw [List.map_cons, loopD, h2]
    rcases h3 with h3 | h3 <;> (simp only [h3]; rw [ih]; rfl)
end
end VL

namespace PL
open PySem PySem.Spec PyProof.Rows L2 VL
/-! ### the drawing of values: the same text in each law -/
noncomputable def M_cell : MS :=
  (sSeq (sIf (mTest dBool (mBin dLt (mVar 1) (mArgs dLen (mCons (mVar 0) mNil)))) (sRet (mArgs dInt (mCons (mBin dIx (mVar 0) (mVar 1)) mNil))) sNext)
  (sRet (mC (.int 0))))
noncomputable def f_cell : List D → FR := fnOf 2 0 false M_cell
def cell (ns : List Int) (k : Nat) : Int := (ns[k]?).getD 0
theorem atI_nat {α : Type} {xs : List α} {k : Nat} (h : k < xs.length) : atI xs (k : Int) = some xs[k] := by
  have h' : (k : Int) < (xs.length : Int) := by omega
  have e : ixN xs.length (k : Int) = some k := by unfold ixN; simp [h]
  unfold atI
  rw [e]
  simp [h]
theorem cell_ok (ns : List Int) (k : Nat) : f_cell [.frl (ns.map .int), .int k] = .ok (.int (cell ns k)) [] := by
  by_cases h : k < ns.length
  · have h2 : k < (ns.map D.int).length := by simpa using h
    have e := atI_nat h2
    simp [f_cell, M_cell, env0, dLen, dLt, h, dIx, e, dInt, cell]
  · simp [f_cell, M_cell, env0, dLen, dLt, h, dIx, dInt, cell]
noncomputable def M_mix : MS :=
  (sSeq (sAsg 2 (mBin dMod (mArgs dInt (mCons (mBin dAdd (mBin dAdd (mBin dMulI (mVar 0) (mC (.int 48271))) (mBin dMulI (mVar 1) (mC (.int 69621)))) (mC (.int 12345))) mNil)) (mC (.int 2147483647))))
  (sSeq (sAsg 2 (mBin dMod (mArgs dInt (mCons (mBin dAdd (mBin dAdd (mBin dMulI (mVar 2) (mC (.int 16807))) (mBin dMulI (mVar 1) (mC (.int 40692)))) (mC (.int 777))) mNil)) (mC (.int 2147483629))))
  (sRet (mBin dDiv (mVar 2) (mC (.int 997))))))
noncomputable def f_mix : List D → FR := fnOf 3 0 false M_mix
def mix (c k : Int) : Int := (((c * 48271 + k * 69621 + 12345) % 2147483647) * 16807 + k * 40692 + 777) % 2147483629 / 997
theorem mulI_ok {i j : Int} (h1 : -lim < j) (h2 : j < lim) : dMulI (.int i) (.int j) = some (.int (i * j)) := by
  simp [dMulI, dIC, cMul, cdec_pos (show (-lim < i ∧ i < lim) ∨ (-lim < j ∧ j < lim) from .inr ⟨h1, h2⟩)]
theorem modI_ok {i j : Int} (h : 0 < j) : dMod (.int i) (.int j) = some (.int (i % j)) := by simp [dMod, dIC, cMod, h]
theorem divI_ok {i j : Int} (h : 0 < j) (h2 : j < 1073741824) : dDiv (.int i) (.int j) = some (.int (i / j)) := by simp [dDiv, dIC, cDiv, h, h2]
theorem mix_ok (c k : Int) : f_mix [.int c, .int k] = .ok (.int (mix c k)) [] := by
  have e1 : ∀ i : Int, dMulI (.int i) (.int 48271) = some (.int (i * 48271)) := fun i => mulI_ok (by decide) (by decide)
  have e2 : ∀ i : Int, dMulI (.int i) (.int 69621) = some (.int (i * 69621)) := fun i => mulI_ok (by decide) (by decide)
  have e3 : ∀ i : Int, dMulI (.int i) (.int 16807) = some (.int (i * 16807)) := fun i => mulI_ok (by decide) (by decide)
  have e4 : ∀ i : Int, dMulI (.int i) (.int 40692) = some (.int (i * 40692)) := fun i => mulI_ok (by decide) (by decide)
  have e5 : ∀ i : Int, dMod (.int i) (.int 2147483647) = some (.int (i % 2147483647)) := fun i => modI_ok (by decide)
  have e6 : ∀ i : Int, dMod (.int i) (.int 2147483629) = some (.int (i % 2147483629)) := fun i => modI_ok (by decide)
  have e7 : ∀ i : Int, dDiv (.int i) (.int 997) = some (.int (i / 997)) := fun i => divI_ok (by decide) (by decide)
  simp [f_mix, M_mix, env0, e1, e2, e3, e4, e5, e6, e7, dAdd, dInt, mix]
noncomputable def M_row : MS :=
  (sSeq (sAsg 3 (mArgs dLst mNil))
  (sSeq (sAsg 4 (mArgs dAbs (mCons (mVar 0) mNil)))
  (sSeq (sFor (tgName 5) (mItA dRng1 (mCons (mVar 1) mNil)) (sIf (mTest dBool (mBin dGe (mArgs dAbs (mCons (mVar 0) mNil)) (mC (.int 1000000000000000000)))) (sSeq (sApp 3 (.L .s) .s (fun _ => some []) (mBin dMod (mArgs dInt (mCons (mVar 4) mNil)) (mVar 2)))
  (sAsg 4 (mBin dDiv (mVar 4) (mVar 2)))) (sApp 3 (.L .s) .s (fun _ => some []) (mBin dMod (mArgs dInt (mCons (mCall f_mix (mCons (mVar 0) (mCons (mVar 5) mNil))) mNil)) (mVar 2)))))
  (sRet (mVar 3)))))
noncomputable def f_row : List D → FR := fnOf 6 0 false M_row
structure RowS where
  acc : List Int
  rest : Int
  k : Option D
def rowE (c n b : Int) (s : RowS) : VL.Env := [some (.int c), some (.int n), some (.int b), some (.lst (s.acc.map D.int)), some (.int s.rest), s.k]
def ab (c : Int) : Int := if c < 0 then -c else c
def rowStep (c b : Int) (s : RowS) (k : Nat) : RowS := if 1000000000000000000 ≤ ab c then ⟨s.acc ++ [s.rest % b], s.rest / b, some (.int k)⟩ else ⟨s.acc ++ [mix c k % b], s.rest, some (.int k)⟩
def rowL (c : Int) (n : Nat) (b : Int) : List Int := ((List.range n).foldl (rowStep c b) ⟨[], ab c, none⟩).acc
theorem rowStep_len (c b : Int) : ∀ (l : List Nat) (s : RowS), (l.foldl (rowStep c b) s).acc.length = s.acc.length + l.length
  | [], s => rfl
  | x :: l, s => by
    rw [List.foldl_cons, rowStep_len c b l, List.length_cons]
    unfold rowStep
    split <;> (rw [List.length_append, List.length_singleton]; omega)
theorem rowStep_in (c : Int) {b : Int} (hb : 0 < b) : ∀ (l : List Nat) (s : RowS), (∀ x ∈ s.acc, 0 ≤ x ∧ x < b) → ∀ x ∈ (l.foldl (rowStep c b) s).acc, 0 ≤ x ∧ x < b
  | [], s, h => h
  | y :: l, s, h => by
    rw [List.foldl_cons]
    refine rowStep_in c hb l _ fun x hx => ?_
    unfold rowStep at hx
    split at hx
    · rcases List.mem_append.mp hx with z | z
      · exact h x z
      · rw [List.mem_singleton.mp z]; exact ⟨Int.emod_nonneg _ (by omega), Int.emod_lt_of_pos _ hb⟩
    · rcases List.mem_append.mp hx with z | z
      · exact h x z
      · rw [List.mem_singleton.mp z]; exact ⟨Int.emod_nonneg _ (by omega), Int.emod_lt_of_pos _ hb⟩
theorem rowL_len (c : Int) (n : Nat) (b : Int) : (rowL c n b).length = n := by
  unfold rowL
  rw [rowStep_len]
  simp
theorem rowL_in (c : Int) (n : Nat) {b : Int} (hb : 0 < b) : ∀ x ∈ rowL c n b, 0 ≤ x ∧ x < b := rowStep_in c hb _ _ (by simp)
theorem r1_ok (n : Nat) (hn : n < 10000000) : dRng1 [.int (n : Int)] = some ((List.range n).map fun k => D.int (k : Nat)) := by
  have e : dRng1 [.int (n : Int)] = (if cdec (-big ≤ (n : Int) ∧ (n : Int) < big) = true then some (rngD 0 (n : Int).toNat) else none) := rfl
  rw [e, if_pos (cdec_pos (by unfold big; omega))]
  simp [rngD]
noncomputable def rowB : MS := (sIf (mTest dBool (mBin dGe (mArgs dAbs (mCons (mVar 0) mNil)) (mC (.int 1000000000000000000)))) (sSeq (sApp 3 (.L .s) .s (fun _ => some []) (mBin dMod (mArgs dInt (mCons (mVar 4) mNil)) (mVar 2)))
      (sAsg 4 (mBin dDiv (mVar 4) (mVar 2)))) (sApp 3 (.L .s) .s (fun _ => some []) (mBin dMod (mArgs dInt (mCons (mCall f_mix (mCons (mVar 0) (mCons (mVar 5) mNil))) mNil)) (mVar 2))))
theorem a1_ok (i : Int) : dAbs [.int i] = some (.int (ab i)) := rfl
theorem ge_ok (i j : Int) : dGe (.int i) (.int j) = some (.bl (cdec (j ≤ i))) := rfl
theorem row_step (c : Int) (n : Nat) (b : Int) (hb : 0 < b) (hb2 : b < 1073741824) (s : RowS) (k : Nat) (hk : s.acc.length < 10000001) : rowB ((rowE c n b s).set 5 (some (.int (k : Nat)))) = .nx (rowE c n b (rowStep c b s k)) := by
  have m1 : ∀ i : Int, dMod (.int i) (.int b) = some (.int (i % b)) := fun i => modI_ok hb
  have d1 : ∀ i : Int, dDiv (.int i) (.int b) = some (.int (i / b)) := fun i => divI_ok hb hb2
  have hl : line ((s.acc.map D.int).length + 1) = true := by
    rw [List.length_map]
    exact decide_eq_true (by omega)
  have ge : mTest dBool (mBin dGe (mArgs dAbs (mCons (mVar 0) mNil)) (mC (.int 1000000000000000000))) ((rowE c n b s).set 5 (some (.int (k : Nat)))) = .ok (cdec (1000000000000000000 ≤ ab c)) := by
    simp [rowE, a1_ok, ge_ok]
  unfold rowB
  rw [ev_if, ge]
  by_cases hc : 1000000000000000000 ≤ ab c
  · have q := ev_app0 (ρ := (rowE c n b s).set 5 (some (.int (k : Nat)))) (i := 3) (xs := s.acc.map D.int) (m := (mBin dMod (mArgs dInt (mCons (mVar 4) mNil)) (mVar 2))) (d := .int (s.rest % b)) rfl (by simp [rowE, dInt, m1]) hl
    rw [cdec_pos hc]
    simp only [ev_seq, q]
    unfold rowStep
    rw [if_pos hc]
    simp [rowE, d1]
  · have q := ev_app0 (ρ := (rowE c n b s).set 5 (some (.int (k : Nat)))) (i := 3) (xs := s.acc.map D.int) (m := (mBin dMod (mArgs dInt (mCons (mCall f_mix (mCons (mVar 0) (mCons (mVar 5) mNil))) mNil)) (mVar 2))) (d := .int (mix c k % b)) rfl (by simp only [rowE, List.set_cons_succ, List.set_cons_zero]; simp [-ev_fn, mix_ok, dInt, m1]) hl
    rw [cdec_neg hc]
    simp only [q]
    unfold rowStep
    rw [if_neg hc]
    simp [rowE]
theorem row_loop (c : Int) (n : Nat) (b : Int) (hn : n < 10000000) (hb : 0 < b) (hb2 : b < 1073741824) :
    loopD (tgName 5) rowB ((List.range n).map fun k => D.int (k : Nat)) (rowE c n b ⟨[], ab c, none⟩) = .nx (rowE c n b ((List.range n).foldl (rowStep c b) ⟨[], ab c, none⟩)) := by
  refine loop_fold (rowE c n b) (fun k : Nat => D.int (k : Nat)) (rowStep c b) (fun s l => s.acc.length + l.length < 10000001) (fun s k xs hk => ⟨?_, _, rfl, .inl (row_step c n b hb hb2 s k (by omega))⟩) (List.range n) ⟨[], ab c, none⟩ ?_
  · have z := rowStep_len c b [k] s
    rw [List.foldl_cons, List.foldl_nil] at z
    rw [z]
    rw [List.length_cons] at hk
    rw [List.length_singleton]
    omega
  · rw [List.length_range]
    show 0 + n < _
    omega
theorem row_ok (c : Int) (n : Nat) (b : Int) (hn : n < 10000000) (hb : 0 < b) (hb2 : b < 1073741824) : f_row [.int c, .int n, .int b] = .ok (.lst ((rowL c n b).map D.int)) [] := by
  have s1 : sAsg 3 (mArgs dLst mNil) (env0 6 [.int c, .int n, .int b]) = .nx [some (.int c), some (.int n), some (.int b), some (.lst []), none, none] := by
    simp [env0, dLst]
  have s2 : sAsg 4 (mArgs dAbs (mCons (mVar 0) mNil)) [some (.int c), some (.int n), some (.int b), some (.lst []), none, none] = .nx [some (.int c), some (.int n), some (.int b), some (.lst []), some (.int (ab c)), none] := by
    simp [a1_ok]
  have s3 : mItA dRng1 (mCons (mVar 1) mNil) [some (D.int c), some (.int n), some (.int b), some (.lst []), some (.int (ab c)), none] = .ok ((List.range n).map fun k => D.int (k : Nat)) := by
    simp [r1_ok n hn]
  have loop := row_loop c n b hn hb hb2
  have e0 : rowE c n b ⟨[], ab c, none⟩ = [some (.int c), some (.int n), some (.int b), some (.lst []), some (.int (ab c)), none] := rfl
  rw [e0] at loop
  unfold f_row M_row
  rw [show (sIf (mTest dBool (mBin dGe (mArgs dAbs (mCons (mVar 0) mNil)) (mC (.int 1000000000000000000)))) (sSeq (sApp 3 (.L .s) .s (fun _ => some []) (mBin dMod (mArgs dInt (mCons (mVar 4) mNil)) (mVar 2)))
      (sAsg 4 (mBin dDiv (mVar 4) (mVar 2)))) (sApp 3 (.L .s) .s (fun _ => some []) (mBin dMod (mArgs dInt (mCons (mCall f_mix (mCons (mVar 0) (mCons (mVar 5) mNil))) mNil)) (mVar 2)))) = rowB from rfl]
  rw [ev_fn, ev_seq, s1]
  simp only []
  rw [ev_seq, s2]
  simp only []
  rw [ev_seq, ev_for, s3]
  simp only [loop]
  simp [rowE, rowL]
end PL

namespace PL
open PySem PySem.Spec PyProof.Rows L2 VL
/-! ### equality of plain data -/
mutual
def eqOk : D → Bool
  | .non => true
  | .int _ => true
  | .str s => PyData.canLay0 (.str s)
  | .lst ds => eqOks ds
  | .tup ds => eqOks ds
  | _ => false
def eqOks : List D → Bool
  | [] => true
  | d :: ds => eqOk d && eqOks ds
end
mutual
def dep : D → Nat
  | .lst ds => deps ds + 1
  | .tup ds => deps ds + 1
  | _ => 0
def deps : List D → Nat
  | [] => 0
  | d :: ds => max (dep d) (deps ds)
end
mutual
theorem toP_ok : ∀ {d : D}, eqOk d = true → ∃ p, toP d = some p ∧ p.canLay0 = true ∧ p.depth = dep d
  | .non, _ => ⟨.none, rfl, rfl, by simp [PyData.depth, dep]⟩
  | .int i, _ => ⟨.int i, rfl, rfl, by simp [PyData.depth, dep]⟩
  | .str s, h => ⟨.str s, rfl, by simpa [eqOk] using h, by simp [PyData.depth, dep]⟩
  | .lst ds, h => by
    obtain ⟨l, h1, h2, h3⟩ := toPs_ok (show eqOks ds = true by simpa [eqOk] using h)
    exact ⟨.list l, by unfold toP; rw [h1], by simpa [PyData.canLay0] using h2, by simp [PyData.depth, dep, h3]⟩
  | .tup ds, h => by
    obtain ⟨l, h1, h2, h3⟩ := toPs_ok (show eqOks ds = true by simpa [eqOk] using h)
    exact ⟨.tuple l, by unfold toP; rw [h1], by simpa [PyData.canLay0] using h2, by simp [PyData.depth, dep, h3]⟩
  | .bl _, h | .frl _, h | .dic _, h | .dit _, h | .obj _ _, h => by simp [eqOk] at h
theorem toPs_ok : ∀ {ds : List D}, eqOks ds = true → ∃ l, toPs ds = some l ∧ PyData.canLayAll0 l = true ∧ PyData.depthAll l = deps ds
  | [], _ => ⟨[], rfl, by simp [PyData.canLayAll0], by simp [PyData.depthAll, deps]⟩
  | d :: ds, h => by
    have h' : eqOk d = true ∧ eqOks ds = true := by simpa [eqOks] using h
    obtain ⟨p, a1, a2, a3⟩ := toP_ok h'.1
    obtain ⟨l, b1, b2, b3⟩ := toPs_ok h'.2
    exact ⟨p :: l, by unfold toPs; rw [a1, b1], by simp [PyData.canLayAll0, a2, b2], by simp [PyData.depthAll, deps, a3, b3]⟩
end
mutual
theorem eqv_D : ∀ {x y : D} {p q : PyData}, eqOk x = true → eqOk y = true → toP x = some p → toP y = some q → (PyData.eqv p q = true ↔ x = y)
  | .non, y, p, q, hx, hy, h1, h2 => by
    cases h1
    cases y with
    | lst ds => obtain ⟨l, e, _⟩ := toPs_ok (show eqOks ds = true by simpa [eqOk] using hy); unfold toP at h2; rw [e] at h2; cases h2; simp [PyData.eqv]
    | tup ds => obtain ⟨l, e, _⟩ := toPs_ok (show eqOks ds = true by simpa [eqOk] using hy); unfold toP at h2; rw [e] at h2; cases h2; simp [PyData.eqv]
    | _ => first | (cases h2; simp [PyData.eqv]) | simp [eqOk] at hy
  | .int i, y, p, q, hx, hy, h1, h2 => by
    cases h1
    cases y with
    | lst ds => obtain ⟨l, e, _⟩ := toPs_ok (show eqOks ds = true by simpa [eqOk] using hy); unfold toP at h2; rw [e] at h2; cases h2; simp [PyData.eqv]
    | tup ds => obtain ⟨l, e, _⟩ := toPs_ok (show eqOks ds = true by simpa [eqOk] using hy); unfold toP at h2; rw [e] at h2; cases h2; simp [PyData.eqv]
    | bl b => simp [eqOk] at hy
    | _ => first | (cases h2; simp [PyData.eqv]) | simp [eqOk] at hy
  | .str s, y, p, q, hx, hy, h1, h2 => by
    cases h1
    cases y with
    | lst ds => obtain ⟨l, e, _⟩ := toPs_ok (show eqOks ds = true by simpa [eqOk] using hy); unfold toP at h2; rw [e] at h2; cases h2; simp [PyData.eqv]
    | tup ds => obtain ⟨l, e, _⟩ := toPs_ok (show eqOks ds = true by simpa [eqOk] using hy); unfold toP at h2; rw [e] at h2; cases h2; simp [PyData.eqv]
    | _ => first | (cases h2; simp [PyData.eqv]) | simp [eqOk] at hy
  | .lst xs, y, p, q, hx, hy, h1, h2 => by
    have hx' : eqOks xs = true := by simpa [eqOk] using hx
    obtain ⟨l, e, _⟩ := toPs_ok hx'
    unfold toP at h1; rw [e] at h1; cases h1
    cases y with
    | lst ys =>
      have hy' : eqOks ys = true := by simpa [eqOk] using hy
      obtain ⟨m, e', _⟩ := toPs_ok hy'
      unfold toP at h2; rw [e'] at h2; cases h2
      have z := eqv_Ds hx' hy' e e'
      simpa [PyData.eqv] using z
    | tup ds => obtain ⟨l, e, _⟩ := toPs_ok (show eqOks ds = true by simpa [eqOk] using hy); unfold toP at h2; rw [e] at h2; cases h2; simp [PyData.eqv]
    | _ => first | (cases h2; simp [PyData.eqv]) | simp [eqOk] at hy
  | .tup xs, y, p, q, hx, hy, h1, h2 => by
    have hx' : eqOks xs = true := by simpa [eqOk] using hx
    obtain ⟨l, e, _⟩ := toPs_ok hx'
    unfold toP at h1; rw [e] at h1; cases h1
    cases y with
    | tup ys =>
      have hy' : eqOks ys = true := by simpa [eqOk] using hy
      obtain ⟨m, e', _⟩ := toPs_ok hy'
      unfold toP at h2; rw [e'] at h2; cases h2
      have z := eqv_Ds hx' hy' e e'
      simpa [PyData.eqv] using z
    | lst ds => obtain ⟨l, e, _⟩ := toPs_ok (show eqOks ds = true by simpa [eqOk] using hy); unfold toP at h2; rw [e] at h2; cases h2; simp [PyData.eqv]
    | _ => first | (cases h2; simp [PyData.eqv]) | simp [eqOk] at hy
  | .bl _, _, _, _, h, _, _, _ | .frl _, _, _, _, h, _, _, _ | .dic _, _, _, _, h, _, _, _ | .dit _, _, _, _, h, _, _, _ | .obj _ _, _, _, _, h, _, _, _ => by simp [eqOk] at h
theorem eqv_Ds : ∀ {xs ys : List D} {ps qs : List PyData}, eqOks xs = true → eqOks ys = true → toPs xs = some ps → toPs ys = some qs → (PyData.eqvAll ps qs = true ↔ xs = ys)
  | [], [], _, _, _, _, h1, h2 => by cases h1; cases h2; simp [PyData.eqvAll]
  | [], y :: ys, _, _, _, hy, h1, h2 => by
    cases h1
    obtain ⟨l, e, _⟩ := toPs_ok hy
    rw [e] at h2; cases h2
    unfold toPs at e
    split at e
    · cases e; simp [PyData.eqvAll]
    · cases e
  | x :: xs, [], _, _, hx, _, h1, h2 => by
    cases h2
    obtain ⟨l, e, _⟩ := toPs_ok hx
    rw [e] at h1; cases h1
    unfold toPs at e
    split at e
    · cases e; simp [PyData.eqvAll]
    · cases e
  | x :: xs, y :: ys, _, _, hx, hy, h1, h2 => by
    have hx' : eqOk x = true ∧ eqOks xs = true := by simpa [eqOks] using hx
    have hy' : eqOk y = true ∧ eqOks ys = true := by simpa [eqOks] using hy
    obtain ⟨p, a1, _⟩ := toP_ok hx'.1
    obtain ⟨l, a2, _⟩ := toPs_ok hx'.2
    obtain ⟨q, b1, _⟩ := toP_ok hy'.1
    obtain ⟨m, b2, _⟩ := toPs_ok hy'.2
    unfold toPs at h1 h2
    rw [a1, a2] at h1
    rw [b1, b2] at h2
    cases h1; cases h2
    have z1 := eqv_D hx'.1 hy'.1 a1 b1
    have z2 := eqv_Ds hx'.2 hy'.2 a2 b2
    simp only [PyData.eqvAll, Bool.and_eq_true, z1, z2, List.cons.injEq]
end
theorem pEq_ok {x y : D} (hx : eqOk x = true) (hy : eqOk y = true) (dx : dep x ≤ 64) (dy : dep y ≤ 64) : pEq x y = some (cdec (x = y)) := by
  obtain ⟨p, a1, a2, a3⟩ := toP_ok hx
  obtain ⟨q, b1, b2, b3⟩ := toP_ok hy
  have z := eqv_D hx hy a1 b1
  have s1 : SeqAt.shaped p = true := by unfold SeqAt.shaped; rw [a2, a3]; simpa using dx
  have s2 : SeqAt.shaped q = true := by unfold SeqAt.shaped; rw [b2, b3]; simpa using dy
  unfold pEq
  rw [a1, b1]
  simp only [s1, s2, Bool.and_self, if_true]
  by_cases h : x = y
  · rw [cdec_pos h, z.mpr h]
  · rw [cdec_neg h]
    cases e : PyData.eqv p q with
    | true => exact absurd (z.mp e) h
    | false => rfl
theorem dEq_ok {x y : D} (hx : eqOk x = true) (hy : eqOk y = true) (dx : dep x ≤ 64) (dy : dep y ≤ 64) : dEq x y = some (.bl (cdec (x = y))) := by
  unfold dEq; rw [pEq_ok hx hy dx dy]; rfl
theorem dNe_ok {x y : D} (hx : eqOk x = true) (hy : eqOk y = true) (dx : dep x ≤ 64) (dy : dep y ≤ 64) : dNe x y = some (.bl (!cdec (x = y))) := by
  unfold dNe; rw [pEq_ok hx hy dx dy]; rfl
theorem eqI_ok {i j : Int} : dEq (.int i) (.int j) = some (.bl (cdec (i = j))) := by
  rw [dEq_ok (by simp [eqOk]) (by simp [eqOk]) (by simp [dep]) (by simp [dep])]
  by_cases h : i = j
  · rw [cdec_pos h, cdec_pos (by rw [h])]
  · rw [cdec_neg h, cdec_neg (by simpa using h)]
theorem neI_ok {i j : Int} : dNe (.int i) (.int j) = some (.bl (!cdec (i = j))) := by
  rw [dNe_ok (by simp [eqOk]) (by simp [eqOk]) (by simp [dep]) (by simp [dep])]
  by_cases h : i = j
  · rw [cdec_pos h, cdec_pos (by rw [h])]
  · rw [cdec_neg h, cdec_neg (by simpa using h)]
/-! ### texts as lists of codes -/
def T (l : List Nat) : Str := ⟨l.toArray⟩
def Asc (l : List Nat) : Prop := ∀ c ∈ l, c < 128
theorem T_cps (l : List Nat) : (T l).cps.toList = l := by simp [T]
theorem T_len (l : List Nat) : (T l).length = l.length := by simp [T, Str.length]
theorem T_app (l m : List Nat) : T l ++ T m = T (l ++ m) := by
  show Str.mk ((T l).cps ++ (T m).cps) = _
  simp [T]
theorem T_inj {l m : List Nat} (h : T l = T m) : l = m := by
  have z := congrArg (fun s : Str => s.cps.toList) h
  simpa [T] using z
theorem T_chars (l : List Nat) : chars (T l) = l.map fun c => D.str (T [c]) := by
  unfold chars
  rw [T_cps]
  rfl
theorem T_lower {l : List Nat} (h : Asc l) : Txt.lower (T l) = T (l.map lo1) := by
  rw [lower_ascii (by rw [T_cps]; exact h)]
  simp [T]
theorem T_upper {l : List Nat} (h : Asc l) : Txt.upper (T l) = T (l.map up1) := by
  rw [upper_ascii (by rw [T_cps]; exact h)]
  simp [T]
theorem T_in (c : Nat) (l : List Nat) : strIn (T [c]) (T l) = decide (c ∈ l) := by
  have z := StrLaws.found_one (T l) c
  rw [T_cps] at z
  exact z
theorem T_slice {l : List Nat} {a b : Nat} (hab : a ≤ b) (hb : b ≤ l.length) : Txt.slice (T l) (some (a : Int)) (some (b : Int)) = T ((l.drop a).take (b - a)) := by
  have hb' : b ≤ (T l).length := by rw [T_len]; exact hb
  unfold Txt.slice
  split
  · next h =>
    rw [StrLaws.strSliceIndices_plain hab hb', List.length_map, List.length_range, Bool.and_eq_true, beq_iff_eq, beq_iff_eq, T_len] at h
    have h2 := h.2
    have e1 : a = 0 := by omega
    have e2 : b = l.length := by omega
    rw [e1, e2, List.drop_zero, Nat.sub_zero, List.take_length]
  · rw [StrLaws.sliced_plain (T l) hab hb', T_cps]
    rfl
theorem T_strOk {l : List Nat} (h : Asc l) : PyData.canLay0 (.str (T l)) = true := by
  have e : PyData.strOk (T l) = true := by
    unfold PyData.strOk
    rw [← Array.all_toList, T_cps, List.all_eq_true]
    exact fun c hc => decide_eq_true (Nat.lt_trans (h c hc) (by decide))
  simpa [PyData.canLay0] using e
theorem glue_one : ∀ (l a : List Nat), (l.map fun c => T [c]).foldl (fun acc p => acc ++ (T []).cps ++ p.cps) a.toArray = (a ++ l).toArray
  | [], a => by simp
  | c :: l, a => by
    have ih := glue_one l (a ++ [c])
    rw [List.map_cons, List.foldl_cons]
    have e : a.toArray ++ (T []).cps ++ (T [c]).cps = (a ++ [c]).toArray := by simp [T]
    rw [e, ih]
    simp
theorem join_one : ∀ l : List Nat, Txt.join (T []) (l.map fun c => T [c]) = T l
  | [] => rfl
  | c :: l => by
    have z := glue_one l [c]
    exact congrArg Str.mk z
theorem strsT (l : List (List Nat)) : strsOf (l.map fun w => D.str (T w)) = some (l.map T) := by
  have e : (l.map fun w => D.str (T w)) = (l.map T).map D.str := by simp
  rw [e, strsOf_map]
end PL

namespace PL
open PySem PySem.Spec PyProof.Rows L2 VL
theorem toVs_strs : ∀ l : List Str, toVs (l.map D.str) = some (l.map V.str)
  | [] => rfl
  | s :: l => by
    rw [List.map_cons, List.map_cons]
    unfold toVs
    rw [toVs_strs l]
    rfl
theorem toVs_ints : ∀ l : List Int, toVs (l.map D.int) = some (l.map V.int)
  | [] => rfl
  | s :: l => by
    rw [List.map_cons, List.map_cons]
    unfold toVs
    rw [toVs_ints l]
    rfl
theorem inV_strs (a : Str) (l : List Str) : inV (.str a) (l.map V.str) = cdec (a ∈ l) := by
  rw [cdec_eq]
  induction l with
  | nil => simp [inV]
  | cons x l ih =>
    rw [List.map_cons]
    simp [inV] at ih ⊢
    rw [ih]
    by_cases h : x = a
    · subst h
      have h3 : eqV (.str x) (.str x) = true := by unfold eqV; simp
      simp [h3]
    · have h2 : ¬ a = x := fun z => h z.symm
      have h3 : eqV (.str x) (.str a) = false := by unfold eqV; simp [h]
      simp [h2, h3]
theorem notInF_strs (a : Str) (l : List Str) : dNotInF (.str a) (.lst (l.map D.str)) = some (.bl (!cdec (a ∈ l))) := by
  have e : bInF (.str a) (.lst (l.map D.str)) = some (inV (.str a) (l.map V.str)) := by
    unfold bInF
    simp only [toVs_strs]
    rfl
  unfold dNotInF
  rw [e, inV_strs]
  rfl
theorem mapT (l : List (List Nat)) : (l.map fun w => D.str (T w)) = (l.map T).map D.str := by simp
theorem mem_T {w : List Nat} {l : List (List Nat)} : T w ∈ l.map T ↔ w ∈ l := by
  rw [List.mem_map]
  exact ⟨fun ⟨v, h1, h2⟩ => T_inj h2 ▸ h1, fun h => ⟨w, h, rfl⟩⟩
theorem inStr (c : Nat) (l : List Nat) : dIn (.str (T [c])) (.str (T l)) = some (.bl (cdec (c ∈ l))) := by
  have e : bIn (.str (T [c])) (.str (T l)) = some (strIn (T [c]) (T l)) := rfl
  unfold dIn
  rw [e, T_in, cdec_eq]
  rfl
theorem notInFStr (c : Nat) (l : List Nat) : dNotInF (.str (T [c])) (.str (T l)) = some (.bl (!cdec (c ∈ l))) := by
  have e : bInF (.str (T [c])) (.str (T l)) = some (strIn (T [c]) (T l)) := rfl
  unfold dNotInF
  rw [e, T_in, cdec_eq]
  rfl
theorem addT {l m : List Nat} (h : l.length + m.length ≤ 16777216) : dAdd (.str (T l)) (.str (T m)) = some (.str (T (l ++ m))) := by
  have hl : line ((T l).length + (T m).length) = true := by rw [T_len, T_len]; exact decide_eq_true h
  show (if line ((T l).length + (T m).length) then some (D.str (T l ++ T m)) else none) = _
  rw [if_pos hl, T_app]
theorem neT {l m : List Nat} (hl : Asc l) (hm : Asc m) : dNe (.str (T l)) (.str (T m)) = some (.bl (!cdec (l = m))) := by
  rw [dNe_ok (by unfold eqOk; exact T_strOk hl) (by unfold eqOk; exact T_strOk hm) (by simp [dep]) (by simp [dep])]
  by_cases h : l = m
  · rw [cdec_pos h, cdec_pos (by rw [h])]
  · rw [cdec_neg h, cdec_neg (fun z => h (T_inj (by simpa using z)))]
theorem eqOks_strs : ∀ {l : List (List Nat)}, (∀ w ∈ l, Asc w) → eqOks (l.map fun w => D.str (T w)) = true
  | [], _ => rfl
  | w :: l, h => by
    rw [List.map_cons]
    unfold eqOks
    rw [eqOks_strs fun v hv => h v (List.mem_cons_of_mem _ hv), Bool.and_true]
    unfold eqOk
    exact T_strOk (h w (List.mem_cons_self ..))
theorem deps_strs : ∀ (l : List (List Nat)), deps (l.map fun w => D.str (T w)) = 0
  | [] => rfl
  | w :: l => by rw [List.map_cons]; unfold deps; rw [deps_strs l]; rfl
theorem neTs {l m : List (List Nat)} (hl : ∀ w ∈ l, Asc w) (hm : ∀ w ∈ m, Asc w) : dNe (.lst (l.map fun w => .str (T w))) (.lst (m.map fun w => .str (T w))) = some (.bl (!cdec (l = m))) := by
  rw [dNe_ok (by unfold eqOk; exact eqOks_strs hl) (by unfold eqOk; exact eqOks_strs hm) (by unfold dep; rw [deps_strs]; decide) (by unfold dep; rw [deps_strs]; decide)]
  by_cases h : l = m
  · rw [cdec_pos h, cdec_pos (by rw [h])]
  · rw [cdec_neg h, cdec_neg (fun z => h ?_)]
    have z1 : (l.map fun w => D.str (T w)) = m.map fun w => D.str (T w) := by simpa using z
    have z2 := congrArg (fun l : List D => l.map fun d => match d with
      | .str s => s.cps.toList
      | _ => []) z1
    simpa [T, List.map_map, Function.comp_def] using z2
theorem lowT {l : List Nat} (h : Asc l) (hl : l.length ≤ 5592405) : dLower (.str (T l)) [] = some (.str (T (l.map lo1))) := by
  have c : cLow (T l) = true := by unfold cLow; rw [T_len]; exact decide_eq_true hl
  show (if cLow (T l) = true then some (D.str (Txt.lower (T l))) else none) = _
  rw [if_pos c, T_lower h]
theorem upT {l : List Nat} (h : Asc l) (hl : l.length ≤ 5592405) : dUpper (.str (T l)) [] = some (.str (T (l.map up1))) := by
  have c : cLow (T l) = true := by unfold cLow; rw [T_len]; exact decide_eq_true hl
  show (if cLow (T l) = true then some (D.str (Txt.upper (T l))) else none) = _
  rw [if_pos c, T_upper h]
theorem slT {l : List Nat} {a b : Nat} (hab : a ≤ b) (hb : b ≤ l.length) (hl : l.length ≤ 16777216) : dSl (.str (T l)) (some (a : Int)) (some (b : Int)) = some (.str (T ((l.drop a).take (b - a)))) := by
  have c : line (T l).length = true := by rw [T_len]; exact decide_eq_true hl
  show (if line (T l).length then some (D.str (Txt.slice (T l) (some (a : Int)) (some (b : Int)))) else none) = _
  rw [if_pos c, T_slice hab hb]
theorem sum_map_const (l : List Nat) : ((l.map fun c => T [c]).map Str.length).sum = l.length := by
  induction l with
  | nil => rfl
  | cons c l ih =>
    rw [List.map_cons, List.map_cons, List.sum_cons, ih, T_len]
    simp
    omega
theorem joinT (l : List Nat) (hl : l.length ≤ 16777216) : dJoin (.str (T [])) [.lst (l.map fun c => .str (T [c]))] = some (.str (T l)) := by
  have e : strsOf (l.map fun c => D.str (T [c])) = some (l.map fun c => T [c]) := by
    have e2 : (l.map fun c => D.str (T [c])) = (l.map fun c => T [c]).map D.str := by simp
    rw [e2, strsOf_map]
  have hz : line (((l.map fun c => T [c]).map Str.length).sum + (l.map fun c => T [c]).length * (T []).length) = true := by
    rw [sum_map_const, T_len]
    simp [line]
    exact hl
  show (match strsOf (l.map fun c => D.str (T [c])) with
    | some l => if line ((l.map Str.length).sum + l.length * (T []).length) then some (D.str (Txt.join (T []) l)) else none
    | none => none) = _
  rw [e]
  simp only []
  rw [if_pos hz, join_one]
theorem sortedL (l : List (List Nat)) (h : l.length < 64) : ∃ m : List (List Nat), sortStr (l.map T) = m.map T ∧ m.Perm l := by
  have hp : (sortStr (l.map T)).Perm (l.map T) := List.mergeSort_perm _ _
  refine ⟨(sortStr (l.map T)).map fun s => s.cps.toList, ?_, ?_⟩
  · rw [List.map_map]
    have : ∀ s ∈ sortStr (l.map T), (T ∘ fun s : Str => s.cps.toList) s = s := fun s hs => by
      simp [T]
    rw [List.map_congr_left this]
    simp
  · have z := hp.map fun s : Str => s.cps.toList
    rw [List.map_map] at z
    have e : (l.map ((fun s : Str => s.cps.toList) ∘ T)) = l := by
      have : ∀ w ∈ l, ((fun s : Str => s.cps.toList) ∘ T) w = w := fun w hw => by simp [T]
      rw [List.map_congr_left this]
      simp
    rw [e] at z
    exact z
theorem sortedLst (l : List (List Nat)) (h : l.length < 64) {m : List (List Nat)} (e : sortStr (l.map T) = m.map T) : dSorted [.lst (l.map fun w => .str (T w))] = some (.lst (m.map fun w => .str (T w))) := by
  show (match strsOf (l.map fun w => D.str (T w)) with
    | some l => if l.length < 64 then some (D.lst ((sortStr l).map D.str)) else none
    | none => match intsOf (l.map fun w => D.str (T w)) with
      | some l => if l.length < 64 then some (D.lst ((sortInt l).map D.int)) else none
      | none => none) = _
  rw [strsT]
  simp only []
  rw [if_pos (by rw [List.length_map]; exact h), e, ← mapT]
theorem keysT : ∀ l : List (List Nat), strKeys (l.map fun w => ((.inr (T w), .bl true) : L2.Key × D)) = some (l.map T)
  | [] => rfl
  | w :: l => by
    rw [List.map_cons]
    unfold strKeys
    rw [keysT l]
    rfl
theorem sortedDic (l : List (List Nat)) (h : l.length < 64) {m : List (List Nat)} (e : sortStr (l.map T) = m.map T) : dSorted [.dic (l.map fun w => (.inr (T w), .bl true))] = some (.lst (m.map fun w => .str (T w))) := by
  show (match strKeys (l.map fun w => ((.inr (T w), .bl true) : L2.Key × D)) with
    | some l => if l.length < 64 then some (D.lst ((sortStr l).map D.str)) else none
    | none => none) = _
  rw [keysT]
  simp only []
  rw [if_pos (by rw [List.length_map]; exact h), e, ← mapT]
theorem putT (l : List (List Nat)) (w : List Nat) : putD (l.map fun w => ((.inr (T w), .bl true) : L2.Key × D)) (.inr (T w)) (.bl true) = (if w ∈ l then l else l ++ [w]).map fun w => ((.inr (T w), .bl true) : L2.Key × D) := by
  have e : ((l.map fun w => ((.inr (T w), .bl true) : L2.Key × D)).any fun kv => decide (kv.1 = .inr (T w))) = decide (w ∈ l) := by
    rw [Bool.eq_iff_iff, List.any_eq_true, decide_eq_true_eq]
    constructor
    · rintro ⟨kv, h1, h2⟩
      obtain ⟨v, hv, rfl⟩ := List.mem_map.mp h1
      have z : T v = T w := by simpa using h2
      rw [← T_inj z]
      exact hv
    · exact fun h => ⟨_, List.mem_map.mpr ⟨w, h, rfl⟩, by simp⟩
  unfold putD
  rw [e]
  by_cases h : w ∈ l
  · rw [if_pos (decide_eq_true h), if_pos h, List.map_map]
    refine List.map_congr_left fun v hv => ?_
    show (if ((.inr (T v) : L2.Key)) = .inr (T w) then _ else _) = _
    split <;> rfl
  · rw [if_neg (by simpa using h), if_neg h, List.map_append]
    rfl
theorem lc_map {α : Type} {tgt : D → VL.Env → Option VL.Env} {tt : VL.Env → R Bool} {te : ME} {ρ : VL.Env} (val out : α → D) : ∀ (xs : List α), (∀ x ∈ xs, ∃ ρ1, tgt (val x) ρ = some ρ1 ∧ tt ρ1 = .ok true ∧ te ρ1 = .ok (out x)) → lcD tgt tt te ρ (xs.map val) = some (xs.map out)
  | [], _ => rfl
  | x :: xs, h => by
    obtain ⟨ρ1, h1, h2, h3⟩ := h x (List.mem_cons_self ..)
    have ih := lc_map (tgt := tgt) (tt := tt) (te := te) (ρ := ρ) val out xs fun y hy => h y (List.mem_cons_of_mem _ hy)
    rw [List.map_cons, lcD, h1]
    simp only [h2, h3, ih]
    rfl
theorem ixT {l : List Nat} {i : Nat} (h : i < l.length) (hl : l.length ≤ 16777216) : dIx (.str (T l)) (.int (i : Int)) = some (.str (T [l[i]])) := by
  have c : line (T l).length = true := by rw [T_len]; exact decide_eq_true hl
  show (if line (T l).length then (atI (T l).cps.toList (i : Int)).map fun c => D.str ⟨#[c]⟩ else none) = _
  rw [if_pos c, T_cps, atI_nat h]
  rfl
theorem ixTI {l : List Nat} {i : Int} (h0 : 0 ≤ i) (h : i < l.length) (hl : l.length ≤ 16777216) : ∃ c ∈ l, dIx (.str (T l)) (.int i) = some (.str (T [c])) := by
  have h2 : i.toNat < l.length := by omega
  have e : (i.toNat : Int) = i := by omega
  have z := ixT h2 hl
  rw [e] at z
  exact ⟨_, List.getElem_mem h2, z⟩
theorem lst_ok {ds : List D} (h : ds.length ≤ 16777216) : dLst ds = some (.lst ds) := by
  unfold dLst
  rw [if_pos (by rw [sizeLine_eq]; exact h)]
theorem lenT {l : List Nat} (h : l.length ≤ 16777216) : dLen [.str (T l)] = some (.int (l.length : Nat)) := by
  have e : line l.length = true := decide_eq_true h
  show (if line (T l).length then some (D.int (T l).length) else none) = _
  rw [T_len, if_pos e]
end PL

namespace G
open PySem PySem.Spec PyProof.Rows L2 VL
/-! ### the text -/
def top (i : Nat) : Stmt := PySem.Challenge.pw_scanpages_k64_words.main.body.getD i (.Pass ⟨0, 0, 0, 0⟩)
abbrev s__law_chars : Stmt := top 8
theorem sc__law_chars : FnScope ["_law_first"] [] (defScope s__law_chars) := ⟨rfl, rfl, rfl, by decide +kernel, rfl, by decide +kernel, by decide +kernel⟩
abbrev s__law_cell : Stmt := top 4
theorem sc__law_cell : FnScope ["_law_script", "_law_k"] ["_law_script", "_law_k"] (defScope s__law_cell) := ⟨rfl, rfl, rfl, by decide +kernel, rfl, by decide +kernel, by decide +kernel⟩
abbrev s__law_mix : Stmt := top 5
theorem sc__law_mix : FnScope ["_law_cell_here", "_law_k", "_law_number"] ["_law_cell_here", "_law_k"] (defScope s__law_mix) := ⟨rfl, rfl, rfl, by decide +kernel, rfl, by decide +kernel, by decide +kernel⟩
abbrev s__law_row : Stmt := top 6
theorem sc__law_row : FnScope ["_law_cell_here", "_law_count", "_law_bound", "_law_found", "_law_rest", "_law_k"] ["_law_cell_here", "_law_count", "_law_bound"] (defScope s__law_row) := ⟨rfl, rfl, rfl, by decide +kernel, rfl, by decide +kernel, by decide +kernel⟩
abbrev s_words : Stmt := top 2
theorem sc_words : FnScope ["text", "plain", "found", "begin", "at", "char"] ["text"] (defScope s_words) := ⟨rfl, rfl, rfl, by decide +kernel, rfl, by decide +kernel, by decide +kernel⟩
abbrev s__law_words_of : Stmt := top 9
theorem sc__law_words_of : FnScope ["_law_text", "_law_found", "_law_current", "_law_char"] ["_law_text"] (defScope s__law_words_of) := ⟨rfl, rfl, rfl, by decide +kernel, rfl, by decide +kernel, by decide +kernel⟩
abbrev s_law : Stmt := top 10
theorem sc_law : FnScope ["_law_script", "_law_chars_here", "_law_text", "_law_actual", "_law_word", "_law_k"] ["_law_script"] (defScope s_law) := ⟨rfl, rfl, rfl, by decide +kernel, rfl, by decide +kernel, by decide +kernel⟩
/-! ### what each def gives, over plain data -/
noncomputable def M__law_chars : MS :=
  (sSeq (sAsg 0 (mC (.str (Str.ofString " !\"#$&'()*+,-./0123456789:;<=>?@ABCDEFGHIJKLMNOPQRSTUVWXYZ[\\]^_`"))))
  (sRet (mBin dAdd (mVar 0) (mC (.str (Str.ofString "abcdefghijklmnopqrstuvwxyz{|}~\n"))))))
noncomputable def f__law_chars : List D → FR := fnOf 1 0 false M__law_chars
noncomputable def M__law_cell : MS :=
  (sSeq (sIf (mTest dBool (mBin dLt (mVar 1) (mArgs dLen (mCons (mVar 0) mNil)))) (sRet (mArgs dInt (mCons (mBin dIx (mVar 0) (mVar 1)) mNil))) sNext)
  (sRet (mC (.int 0))))
noncomputable def f__law_cell : List D → FR := fnOf 2 0 false M__law_cell
noncomputable def M__law_mix : MS :=
  (sSeq (sAsg 2 (mBin dMod (mArgs dInt (mCons (mBin dAdd (mBin dAdd (mBin dMulI (mVar 0) (mC (.int 48271))) (mBin dMulI (mVar 1) (mC (.int 69621)))) (mC (.int 12345))) mNil)) (mC (.int 2147483647))))
  (sSeq (sAsg 2 (mBin dMod (mArgs dInt (mCons (mBin dAdd (mBin dAdd (mBin dMulI (mVar 2) (mC (.int 16807))) (mBin dMulI (mVar 1) (mC (.int 40692)))) (mC (.int 777))) mNil)) (mC (.int 2147483629))))
  (sRet (mBin dDiv (mVar 2) (mC (.int 997))))))
noncomputable def f__law_mix : List D → FR := fnOf 3 0 false M__law_mix
noncomputable def M__law_row : MS :=
  (sSeq (sAsg 3 (mArgs dLst mNil))
  (sSeq (sAsg 4 (mArgs dAbs (mCons (mVar 0) mNil)))
  (sSeq (sFor (tgName 5) (mItA dRng1 (mCons (mVar 1) mNil)) (sIf (mTest dBool (mBin dGe (mArgs dAbs (mCons (mVar 0) mNil)) (mC (.int 1000000000000000000)))) (sSeq (sApp 3 (.L .s) .s (fun _ => some []) (mBin dMod (mArgs dInt (mCons (mVar 4) mNil)) (mVar 2)))
  (sAsg 4 (mBin dDiv (mVar 4) (mVar 2)))) (sApp 3 (.L .s) .s (fun _ => some []) (mBin dMod (mArgs dInt (mCons (mCall f__law_mix (mCons (mVar 0) (mCons (mVar 5) mNil))) mNil)) (mVar 2)))))
  (sRet (mVar 3)))))
noncomputable def f__law_row : List D → FR := fnOf 6 0 false M__law_row
noncomputable def M_words : MS :=
  (sSeq (sAsg 1 (mMeth isStrD dLower (mVar 0) mNil))
  (sSeq (sAsg 2 (mC (.dic [])))
  (sSeq (sAsg 3 (mC (.int 0)))
  (sSeq (sFor (tgTup 2 (tgCons (tgName 4) (tgCons (tgName 5) tgNil))) (mItA dEnum (mCons (mBin dAdd (mVar 1) (mC (.str (Str.ofString " ")))) mNil)) (sIf (mTest dBool (mBin dNotInF (mVar 5) (mC (.str (Str.ofString "abcdefghijklmnopqrstuvwxyz0123456789"))))) (sSeq (sIf (mTest dBool (mBin dGt (mVar 4) (mVar 3))) (sPut 2 (.M .s) (fun _ => some []) (mSl dSl (mVar 1) (mPart (mVar 3)) (mPart (mVar 4))) (mC (.bl true))) sNext)
  (sAsg 3 (mBin dAdd (mVar 4) (mC (.int 1))))) sNext))
  (sRet (mScalL (mArgs dSorted (mCons (mVar 2) mNil))))))))
noncomputable def f_words : List D → FR := fnOf 6 0 false M_words
noncomputable def M__law_words_of : MS :=
  (sSeq (sAsg 1 (mArgs dLst mNil))
  (sSeq (sAsg 2 (mC (.str (Str.ofString ""))))
  (sSeq (sFor (tgName 3) (mIt dIter (mBin dAdd (mMeth isStrD dLower (mVar 0) mNil) (mC (.str (Str.ofString " "))))) (sIf (mTest dBool (mBin dIn (mVar 3) (mC (.str (Str.ofString "abcdefghijklmnopqrstuvwxyz0123456789"))))) (sAsg 2 (mBin dAdd (mVar 2) (mVar 3))) (sSeq (sIf (mAndT (mTest dBool (mBin dNe (mVar 2) (mC (.str (Str.ofString ""))))) (mScalT (mTest dBool (mBin dNotInF (mVar 2) (mVar 1))))) (sApp 1 (.L .s) .s (fun _ => some []) (mVar 2)) sNext)
  (sAsg 2 (mC (.str (Str.ofString "")))))))
  (sRet (mScalL (mArgs dSorted (mCons (mVar 1) mNil)))))))
noncomputable def f__law_words_of : List D → FR := fnOf 4 0 false M__law_words_of
noncomputable def M_law : MS :=
  (sSeq (sAsg 1 (mCall0 f__law_chars))
  (sSeq (sIf (mTest dBool (mBin dEq (mBin dMod (mCall f__law_cell (mCons (mVar 0) (mCons (mC (.int 0)) mNil))) (mC (.int 2))) (mC (.int 1)))) (sAsg 1 (mC (.str (Str.ofString "aAbB19 .-\n")))) sNext)
  (sSeq (sAsg 2 (mMeth isStrD dJoin (mC (.str (Str.ofString ""))) (mCons (mLc [5] (tgName 5) (mIt dIter (mCall f__law_row (mCons (mCall f__law_cell (mCons (mVar 0) (mCons (mC (.int 1)) mNil))) (mCons (mBin dMod (mBin dDiv (mCall f__law_cell (mCons (mVar 0) (mCons (mC (.int 0)) mNil))) (mC (.int 2))) (mC (.int 61))) (mCons (mArgs dLen (mCons (mVar 1) mNil)) mNil))))) mYes (mBin dIx (mVar 1) (mVar 5))) mNil)))
  (sSeq (sAsg 3 (mCall f_words (mCons (mVar 2) mNil)))
  (sSeq (sIf (mOrT (mNotT (mTest dBool (mUn (dIsi "list") (mVar 3)))) (mOrT (mTest dBool (mBin dNe (mVar 3) (mCall f__law_words_of (mCons (mVar 2) mNil)))) (mTest dBool (mBin dNe (mCall f_words (mCons (mMeth isStrD dUpper (mVar 2) mNil) mNil)) (mVar 3))))) (sRet (mC (.bl false))) sNext)
  (sSeq (sFor (tgName 4) (mIt dIter (mVar 3)) (sIf (mTest dBool (mBin dNe (mCall f_words (mCons (mVar 4) mNil)) (mArgs dLst (mCons (mVar 4) mNil)))) (sRet (mC (.bl false))) sNext))
  (sRet (mC (.bl true)))))))))
noncomputable def f_law : List D → FR := fnOf 6 0 false M_law
/-! ### what the top leaves -/
structure Txt (K : PySem.W.Frag) (mg : Str → Option Value) : Prop where
  f__law_chars : FunD K "_law_chars" "_law_chars" (defArgs s__law_chars) (defBody s__law_chars) (defScope s__law_chars) [] [] (He.ga K "_law_chars") (fdAt K (He.ga K "_law_chars"))
  g__law_chars : mg "_law_chars" = some (.ref (He.ga K "_law_chars"))
  k__law_chars : PySem.W.keepIn K (.ref (He.ga K "_law_chars")) = true
  bd__law_chars : Binds K (fdAt K (He.ga K "_law_chars")) [] []
  f__law_cell : FunD K "_law_cell" "_law_cell" (defArgs s__law_cell) (defBody s__law_cell) (defScope s__law_cell) [] [] (He.ga K "_law_cell") (fdAt K (He.ga K "_law_cell"))
  g__law_cell : mg "_law_cell" = some (.ref (He.ga K "_law_cell"))
  k__law_cell : PySem.W.keepIn K (.ref (He.ga K "_law_cell")) = true
  bd__law_cell : Binds K (fdAt K (He.ga K "_law_cell")) ["_law_script", "_law_k"] []
  f__law_mix : FunD K "_law_mix" "_law_mix" (defArgs s__law_mix) (defBody s__law_mix) (defScope s__law_mix) [] [] (He.ga K "_law_mix") (fdAt K (He.ga K "_law_mix"))
  g__law_mix : mg "_law_mix" = some (.ref (He.ga K "_law_mix"))
  k__law_mix : PySem.W.keepIn K (.ref (He.ga K "_law_mix")) = true
  bd__law_mix : Binds K (fdAt K (He.ga K "_law_mix")) ["_law_cell_here", "_law_k"] []
  f__law_row : FunD K "_law_row" "_law_row" (defArgs s__law_row) (defBody s__law_row) (defScope s__law_row) [] [] (He.ga K "_law_row") (fdAt K (He.ga K "_law_row"))
  g__law_row : mg "_law_row" = some (.ref (He.ga K "_law_row"))
  k__law_row : PySem.W.keepIn K (.ref (He.ga K "_law_row")) = true
  bd__law_row : Binds K (fdAt K (He.ga K "_law_row")) ["_law_cell_here", "_law_count", "_law_bound"] []
  f_words : FunD K "words" "words" (defArgs s_words) (defBody s_words) (defScope s_words) [] [] (He.ga K "words") (fdAt K (He.ga K "words"))
  g_words : mg "words" = some (.ref (He.ga K "words"))
  k_words : PySem.W.keepIn K (.ref (He.ga K "words")) = true
  bd_words : Binds K (fdAt K (He.ga K "words")) ["text"] []
  f__law_words_of : FunD K "_law_words_of" "_law_words_of" (defArgs s__law_words_of) (defBody s__law_words_of) (defScope s__law_words_of) [] [] (He.ga K "_law_words_of") (fdAt K (He.ga K "_law_words_of"))
  g__law_words_of : mg "_law_words_of" = some (.ref (He.ga K "_law_words_of"))
  k__law_words_of : PySem.W.keepIn K (.ref (He.ga K "_law_words_of")) = true
  bd__law_words_of : Binds K (fdAt K (He.ga K "_law_words_of")) ["_law_text"] []
  f_law : FunD K "law" "law" (defArgs s_law) (defBody s_law) (defScope s_law) [] [] (He.ga K "law") (fdAt K (He.ga K "law"))
  g_law : mg "law" = some (.ref (He.ga K "law"))
  k_law : PySem.W.keepIn K (.ref (He.ga K "law")) = true
  bd_law : Binds K (fdAt K (He.ga K "law")) ["_law_script"] []
  b_abs : mg "abs" = none
  b_bool : mg "bool" = none
  b_enumerate : mg "enumerate" = none
  b_int : mg "int" = none
  b_isinstance : mg "isinstance" = none
  b_len : mg "len" = none
  b_list : mg "list" = none
  b_range : mg "range" = none
  b_sorted : mg "sorted" = none
  c_WORD_CHARS : GCon K mg "WORD_CHARS" (.str (Str.ofString "abcdefghijklmnopqrstuvwxyz0123456789"))
section
variable {P : Program} {w : World} {K : PySem.W.Frag} {mg : Str → Option Value} {base : Heap}
theorem ok__law_chars (T : Txt K mg) : FnOk P w K mg base (L2.CX P w) 1 (He.ga K "_law_chars") (fdAt K (He.ga K "_law_chars")) [] (spF K 0 [] [] .s f__law_chars) := by
  refine ok_fn (N := ["_law_first"]) (k := 0) (Γ' := [.s]) (nn := false) (M := M__law_chars) T.f__law_chars sc__law_chars (by decide) rfl (by decide) (fun _ => rfl) rfl fun cdv A outer s H E hr => ?_
  have nd := sc__law_chars.nd
  have hU := hr.units
  have hU1 := hu_of hr
  have hU2 := hu2_of hr
  have tk := takes_of (X := cxOf (L2.CX P w) P w K mg base ["_law_first"] "_law_chars" (defScope s__law_chars) (He.ga K "_law_chars") cdv A outer s H E) (E := E) rfl rfl rfl rfl
  exact (vss_cons (by exact (vs_asg 0 nd ve_str rfl)) (by exact (vss_one (by exact (vs_ret (by exact (ve_op op_addA rk_add (by exact (ve_var 0)) ve_str)) rfl rfl)))))
theorem ok__law_cell (T : Txt K mg) : FnOk P w K mg base (L2.CX P w) 1 (He.ga K "_law_cell") (fdAt K (He.ga K "_law_cell")) ["_law_script", "_law_k"] (spF K 2 [] [] .s f__law_cell) := by
  refine ok_fn (N := ["_law_script", "_law_k"]) (k := 0) (Γ' := [.s, .s]) (nn := false) (M := M__law_cell) T.f__law_cell sc__law_cell (by decide) rfl (by decide) (fun _ => rfl) rfl fun cdv A outer s H E hr => ?_
  have nd := sc__law_cell.nd
  have hU := hr.units
  have hU1 := hu_of hr
  have hU2 := hu2_of hr
  have tk := takes_of (X := cxOf (L2.CX P w) P w K mg base ["_law_script", "_law_k"] "_law_cell" (defScope s__law_cell) (He.ga K "_law_cell") cdv A outer s H E) (E := E) rfl rfl rfl rfl
  exact (vss_cons (by exact (vs_if (by exact (vt_cmp op_ltA rk_lt (by exact (ve_var 1)) (by exact (ve_callB call_lenA ck_len rfl T.b_len PySem.boot_len (by exact (va_cons (by exact (ve_var 0)) va_nil)))) (nomark _))) (by exact (vss_one (by exact (vs_ret (by exact (ve_callTy call_int1 ck_int rfl T.b_int PyProof.Rows.boot_int (by exact (va_cons (by exact (ve_ix ix_seq rk_ix (by exact (ve_var 0)) (by exact (ve_var 1)) (fun _ _ => rfl))) va_nil)))) rfl rfl)))) vss_nil rfl)) (by exact (vss_one (by exact (vs_ret ve_int rfl rfl)))))
theorem ok__law_mix (T : Txt K mg) : FnOk P w K mg base (L2.CX P w) 1 (He.ga K "_law_mix") (fdAt K (He.ga K "_law_mix")) ["_law_cell_here", "_law_k"] (spF K 2 [] [] .s f__law_mix) := by
  refine ok_fn (N := ["_law_cell_here", "_law_k", "_law_number"]) (k := 0) (Γ' := [.s, .s, .s]) (nn := false) (M := M__law_mix) T.f__law_mix sc__law_mix (by decide) rfl (by decide) (fun _ => rfl) rfl fun cdv A outer s H E hr => ?_
  have nd := sc__law_mix.nd
  have hU := hr.units
  have hU1 := hu_of hr
  have hU2 := hu2_of hr
  have tk := takes_of (X := cxOf (L2.CX P w) P w K mg base ["_law_cell_here", "_law_k", "_law_number"] "_law_mix" (defScope s__law_mix) (He.ga K "_law_mix") cdv A outer s H E) (E := E) rfl rfl rfl rfl
  exact (vss_cons (by exact (vs_asg 2 nd (by exact (ve_op op_mod rk_mod (by exact (ve_callTy call_int1 ck_int rfl T.b_int PyProof.Rows.boot_int (by exact (va_cons (by exact (ve_op op_addA rk_add (by exact (ve_op op_addA rk_add (by exact (ve_op op_mulA rk_mul (by exact (ve_var 0)) ve_int)) (by exact (ve_op op_mulA rk_mul (by exact (ve_var 1)) ve_int)))) ve_int)) va_nil)))) ve_int)) rfl)) (by exact (vss_cons (by exact (vs_asg 2 nd (by exact (ve_op op_mod rk_mod (by exact (ve_callTy call_int1 ck_int rfl T.b_int PyProof.Rows.boot_int (by exact (va_cons (by exact (ve_op op_addA rk_add (by exact (ve_op op_addA rk_add (by exact (ve_op op_mulA rk_mul (by exact (ve_var 2)) ve_int)) (by exact (ve_op op_mulA rk_mul (by exact (ve_var 1)) ve_int)))) ve_int)) va_nil)))) ve_int)) rfl)) (by exact (vss_one (by exact (vs_ret (by exact (ve_op op_fdiv rk_div (by exact (ve_var 2)) ve_int)) rfl rfl)))))))
theorem ok__law_row (T : Txt K mg) : FnOk P w K mg base (L2.CX P w) 2 (He.ga K "_law_row") (fdAt K (He.ga K "_law_row")) ["_law_cell_here", "_law_count", "_law_bound"] (spF K 3 [] [] .s f__law_row) := by
  refine ok_fn (N := ["_law_cell_here", "_law_count", "_law_bound", "_law_found", "_law_rest", "_law_k"]) (k := 1) (Γ' := [.s, .s, .s, .s, .s, .s]) (nn := false) (M := M__law_row) T.f__law_row sc__law_row (by decide) rfl (by decide) (fun _ => rfl) rfl fun cdv A outer s H E hr => ?_
  have nd := sc__law_row.nd
  have hU := hr.units
  have hU1 := hu_of hr
  have hU2 := hu2_of hr
  have tk := takes_of (X := cxOf (L2.CX P w) P w K mg base ["_law_cell_here", "_law_count", "_law_bound", "_law_found", "_law_rest", "_law_k"] "_law_row" (defScope s__law_row) (He.ga K "_law_row") cdv A outer s H E) (E := E) rfl rfl rfl rfl
  have C__law_mix := ok__law_mix (P := P) (w := w) (base := base) T
  exact (vss_cons (by exact (vs_asg 3 nd (by exact (ve_lst va_nil)) rfl)) (by exact (vss_cons (by exact (vs_asg 4 nd (by exact (ve_callB call_abs ck_abs rfl T.b_abs PyProof.Rows.boot_abs (by exact (va_cons (by exact (ve_var 0)) va_nil)))) rfl)) (by exact (vss_cons (by exact (vs_for (passes_of rfl) rfl (by exact (vi_range1 rfl T.b_range (by exact (va_cons (by exact (ve_var 1)) va_nil)))) (by exact (vg_name 5 nd)) (by exact (vss_one (by exact (vs_if (by exact (vt_cmp op_ge rk_ge (by exact (ve_callB call_abs ck_abs rfl T.b_abs PyProof.Rows.boot_abs (by exact (va_cons (by exact (ve_var 0)) va_nil)))) ve_int (nomark _))) (by exact (vss_cons (by exact (vs_app (sh := (.L .s)) (esh := .s) (i := 3) rfl vp_var (by exact (ve_op op_mod rk_mod (by exact (ve_callTy call_int1 ck_int rfl T.b_int PyProof.Rows.boot_int (by exact (va_cons (by exact (ve_var 4)) va_nil)))) (by exact (ve_var 2)))) rfl)) (by exact (vss_one (by exact (vs_asg 4 nd (by exact (ve_op op_fdiv rk_div (by exact (ve_var 4)) (by exact (ve_var 2)))) rfl)))))) (by exact (vss_one (by exact (vs_app (sh := (.L .s)) (esh := .s) (i := 3) rfl vp_var (by exact (ve_op op_mod rk_mod (by exact (ve_callTy call_int1 ck_int rfl T.b_int PyProof.Rows.boot_int (by exact (va_cons (by exact (ve_call C__law_mix tk (hr.mono (by decide)) rfl T.g__law_mix T.k__law_mix T.bd__law_mix (by exact (va_cons (by exact (ve_var 0)) (by exact (va_cons (by exact (ve_var 5)) va_nil)))) rfl (len_cons (len_cons len_nil)))) va_nil)))) (by exact (ve_var 2)))) rfl)))) rfl)))) rfl)) (by exact (vss_one (by exact (vs_frz 3 (by exact (vs_ret (by exact (ve_var 3)) rfl rfl)))))))))))
theorem ok_words (T : Txt K mg) : FnOk P w K mg base (L2.CX P w) 1 (He.ga K "words") (fdAt K (He.ga K "words")) ["text"] (spF K 1 [] [] .s f_words) := by
  refine ok_fn (N := ["text", "plain", "found", "begin", "at", "char"]) (k := 0) (Γ' := [.s, .s, (.M .s), .s, .s, .s]) (nn := false) (M := M_words) T.f_words sc_words (by decide) rfl (by decide) (fun _ => rfl) rfl fun cdv A outer s H E hr => ?_
  have nd := sc_words.nd
  have hU := hr.units
  have hU1 := hu_of hr
  have hU2 := hu2_of hr
  have tk := takes_of (X := cxOf (L2.CX P w) P w K mg base ["text", "plain", "found", "begin", "at", "char"] "words" (defScope s_words) (He.ga K "words") cdv A outer s H E) (E := E) rfl rfl rfl rfl
  exact (vss_cons (by exact (vs_asg 1 nd (by exact (ve_bm0 PySem.F.plainAttrs_str PySem.F.slot_str_lower PySem.F.type_str_lower mt_lower ty_str mk_lower (by exact (ve_var 0)))) rfl)) (by exact (vss_cons (by exact (vs_asg 2 nd ve_dict0 rfl)) (by exact (vss_cons (by exact (vs_asg 3 nd ve_int rfl)) (by exact (vss_cons (by exact (vs_for (passes_of rfl) rfl (by exact (vi_enum rfl T.b_enumerate (by exact (va_cons (by exact (ve_op op_addA rk_add (by exact (ve_var 1)) ve_str)) va_nil)))) (by exact (vg_tup rfl (by exact (vgs_cons (by exact (vg_name 4 nd)) (by exact (vgs_cons (by exact (vg_name 5 nd)) vgs_nil)))))) (by exact (vss_one (by exact (vs_if (by exact (vt_cmp op_notInA rk_notIn (by exact (ve_var 5)) (by exact (ve_glob rfl T.c_WORD_CHARS)) rfl)) (by exact (vss_cons (by exact (vs_if (by exact (vt_cmp op_gt rk_gt (by exact (ve_var 4)) (by exact (ve_var 3)) (nomark _))) (by exact (vss_one (by exact (vs_put (sh := (.M .s)) (i := 2) hU1 rfl vp_var (by exact (ve_sl sl_all sk_sl (by exact (ve_var 1)) (by exact (vo_some (by exact (ve_var 3)))) (by exact (vo_some (by exact (ve_var 4)))))) ve_bl (by (repeat' (first | exact nx_nil | exact nx_var | exact nx_c | exact nx_scal | exact nx_noP | apply nx_sl | apply nx_part | apply nx_cons | apply nx_bin | apply nx_un | apply nx_args | apply nx_meth))) rfl)))) vss_nil rfl)) (by exact (vss_one (by exact (vs_asg 3 nd (by exact (ve_op op_addA rk_add (by exact (ve_var 4)) ve_int)) rfl)))))) vss_nil rfl)))) rfl)) (by exact (vss_one (by exact (vs_ret (by exact (ve_frz (by exact (ve_borL 2 (by exact (ve_callB (call_sortedA rfl) ck_sorted rfl T.b_sorted PyProof.Rows.boot_sorted (by exact (va_cons (by exact (ve_var 2)) va_nil)))))))) rfl rfl)))))))))))
theorem ok__law_words_of (T : Txt K mg) : FnOk P w K mg base (L2.CX P w) 1 (He.ga K "_law_words_of") (fdAt K (He.ga K "_law_words_of")) ["_law_text"] (spF K 1 [] [] .s f__law_words_of) := by
  refine ok_fn (N := ["_law_text", "_law_found", "_law_current", "_law_char"]) (k := 0) (Γ' := [.s, (.L .s), .s, .s]) (nn := false) (M := M__law_words_of) T.f__law_words_of sc__law_words_of (by decide) rfl (by decide) (fun _ => rfl) rfl fun cdv A outer s H E hr => ?_
  have nd := sc__law_words_of.nd
  have hU := hr.units
  have hU1 := hu_of hr
  have hU2 := hu2_of hr
  have tk := takes_of (X := cxOf (L2.CX P w) P w K mg base ["_law_text", "_law_found", "_law_current", "_law_char"] "_law_words_of" (defScope s__law_words_of) (He.ga K "_law_words_of") cdv A outer s H E) (E := E) rfl rfl rfl rfl
  exact (vss_cons (by exact (vs_asg 1 nd (by exact (ve_lst va_nil)) rfl)) (by exact (vss_cons (by exact (vs_asg 2 nd ve_str rfl)) (by exact (vss_cons (by exact (vs_for (passes_of rfl) rfl (by exact (vi_seq (by exact (ve_op op_addA rk_add (by exact (ve_bm0 PySem.F.plainAttrs_str PySem.F.slot_str_lower PySem.F.type_str_lower mt_lower ty_str mk_lower (by exact (ve_var 0)))) ve_str)))) (by exact (vg_name 3 nd)) (by exact (vss_one (by exact (vs_if (by exact (vt_cmp (op_inA hU2) rk_in (by exact (ve_var 3)) ve_str rfl)) (by exact (vss_one (by exact (vs_asg 2 nd (by exact (ve_op op_addA rk_add (by exact (ve_var 2)) (by exact (ve_var 3)))) rfl)))) (by exact (vss_cons (by exact (vs_if (by exact (vt_w (by exact (vw_and (by exact (vt_cmp (op_neD hU) rk_ne (by exact (ve_var 2)) ve_str (nomark _))) (by exact (vw_and1 (by exact (vt_bor 1 (by exact (vt_cmp op_notInA rk_notIn (by exact (ve_var 2)) (by exact (ve_var 1)) rfl)))))))))) (by exact (vss_one (by exact (vs_app (sh := (.L .s)) (esh := .s) (i := 1) rfl vp_var (by exact (ve_var 2)) rfl)))) vss_nil rfl)) (by exact (vss_one (by exact (vs_asg 2 nd ve_str rfl)))))) rfl)))) rfl)) (by exact (vss_one (by exact (vs_ret (by exact (ve_frz (by exact (ve_borL 1 (by exact (ve_callB (call_sortedA rfl) ck_sorted rfl T.b_sorted PyProof.Rows.boot_sorted (by exact (va_cons (by exact (ve_var 1)) va_nil)))))))) rfl rfl)))))))))
theorem ok_law (T : Txt K mg) : FnOk P w K mg base (L2.CX P w) 3 (He.ga K "law") (fdAt K (He.ga K "law")) ["_law_script"] (spF K 1 [] [] .s f_law) := by
  refine ok_fn (N := ["_law_script", "_law_chars_here", "_law_text", "_law_actual", "_law_word", "_law_k"]) (k := 2) (Γ' := [.s, .s, .s, .s, .s, .s]) (nn := false) (M := M_law) T.f_law sc_law (by decide) rfl (by decide) (fun _ => rfl) rfl fun cdv A outer s H E hr => ?_
  have nd := sc_law.nd
  have hU := hr.units
  have hU1 := hu_of hr
  have hU2 := hu2_of hr
  have tk := takes_of (X := cxOf (L2.CX P w) P w K mg base ["_law_script", "_law_chars_here", "_law_text", "_law_actual", "_law_word", "_law_k"] "law" (defScope s_law) (He.ga K "law") cdv A outer s H E) (E := E) rfl rfl rfl rfl
  have C__law_chars := ok__law_chars (P := P) (w := w) (base := base) T
  have C__law_cell := ok__law_cell (P := P) (w := w) (base := base) T
  have C__law_row := ok__law_row (P := P) (w := w) (base := base) T
  have C_words := ok_words (P := P) (w := w) (base := base) T
  have C__law_words_of := ok__law_words_of (P := P) (w := w) (base := base) T
  exact (vss_cons (by exact (vs_asg 1 nd (by exact (ve_call0 C__law_chars (hr.mono (by decide)) rfl T.g__law_chars T.k__law_chars T.bd__law_chars)) rfl)) (by exact (vss_cons (by exact (vs_if (by exact (vt_cmp (op_eqD hU) rk_eq (by exact (ve_op op_mod rk_mod (by exact (ve_call C__law_cell tk (hr.mono (by decide)) rfl T.g__law_cell T.k__law_cell T.bd__law_cell (by exact (va_cons (by exact (ve_var 0)) (by exact (va_cons ve_int va_nil)))) rfl (len_cons (len_cons len_nil)))) ve_int)) ve_int (nomark _))) (by exact (vss_one (by exact (vs_asg 1 nd ve_str rfl)))) vss_nil rfl)) (by exact (vss_cons (by exact (vs_asg 2 nd (by exact (ve_bm PySem.F.plainAttrs_str PySem.F.slot_str_join PySem.F.type_str_join mt_join ty_str mk_join ve_str (by exact (va_cons (by exact (ve_frz (by exact (ve_lc (own := [((Str.ofString "_law_k"), 5)]) rfl nd (by exact (vi_seq (by exact (ve_call C__law_row tk (hr.mono (by decide)) rfl T.g__law_row T.k__law_row T.bd__law_row (by exact (va_cons (by exact (ve_call C__law_cell tk (hr.mono (by decide)) rfl T.g__law_cell T.k__law_cell T.bd__law_cell (by exact (va_cons (by exact (ve_var 0)) (by exact (va_cons ve_int va_nil)))) rfl (len_cons (len_cons len_nil)))) (by exact (va_cons (by exact (ve_op op_mod rk_mod (by exact (ve_op op_fdiv rk_div (by exact (ve_call C__law_cell tk (hr.mono (by decide)) rfl T.g__law_cell T.k__law_cell T.bd__law_cell (by exact (va_cons (by exact (ve_var 0)) (by exact (va_cons ve_int va_nil)))) rfl (len_cons (len_cons len_nil)))) ve_int)) ve_int)) (by exact (va_cons (by exact (ve_callB call_lenA ck_len rfl T.b_len PySem.boot_len (by exact (va_cons (by exact (ve_var 1)) va_nil)))) va_nil)))))) rfl (len_cons (len_cons (len_cons len_nil))))))) (blkOk_by (by rfl)) (okOwn_ok rfl) (fun _ _ _ _ _ => (by exact (vg_name 5 nd))) (fun _ _ _ _ _ => vts_nil) (fun _ _ _ _ _ => (by exact (ve_ix ix_seq rk_ix (by exact (ve_var 1)) (by exact (ve_var 5)) (fun _ _ => rfl)))))))) va_nil)))) rfl)) (by exact (vss_cons (by exact (vs_asg 3 nd (by exact (ve_call C_words tk (hr.mono (by decide)) rfl T.g_words T.k_words T.bd_words (by exact (va_cons (by exact (ve_var 2)) va_nil)) rfl (len_cons len_nil))) rfl)) (by exact (vss_cons (by exact (vs_if (by exact (vt_w (by exact (vw_or (by exact (vt_not (by exact (vt_val (by exact (ve_isi (T := "list") rfl T.b_isinstance rfl T.b_list (by decide +kernel) (by exact (ve_var 3)))))))) (by exact (vw_or (by exact (vt_cmp (op_neD hU) rk_ne (by exact (ve_var 3)) (by exact (ve_call C__law_words_of tk (hr.mono (by decide)) rfl T.g__law_words_of T.k__law_words_of T.bd__law_words_of (by exact (va_cons (by exact (ve_var 2)) va_nil)) rfl (len_cons len_nil))) (nomark _))) (by exact (vw_or1 (by exact (vt_cmp (op_neD hU) rk_ne (by exact (ve_call C_words tk (hr.mono (by decide)) rfl T.g_words T.k_words T.bd_words (by exact (va_cons (by exact (ve_bm0 PySem.F.plainAttrs_str PySem.F.slot_str_upper PySem.F.type_str_upper mt_upper ty_str mk_upper (by exact (ve_var 2)))) va_nil)) rfl (len_cons len_nil))) (by exact (ve_var 3)) (nomark _))))))))))) (by exact (vss_one (by exact (vs_ret ve_bl rfl rfl)))) vss_nil rfl)) (by exact (vss_cons (by exact (vs_for (passes_of rfl) rfl (by exact (vi_seq (by exact (ve_var 3)))) (by exact (vg_name 4 nd)) (by exact (vss_one (by exact (vs_if (by exact (vt_cmp (op_neD hU) rk_ne (by exact (ve_call C_words tk (hr.mono (by decide)) rfl T.g_words T.k_words T.bd_words (by exact (va_cons (by exact (ve_var 4)) va_nil)) rfl (len_cons len_nil))) (by exact (ve_frz (by exact (ve_lst (by exact (va_cons (by exact (ve_var 4)) va_nil)))))) (nomark _))) (by exact (vss_one (by exact (vs_ret ve_bl rfl rfl)))) vss_nil rfl)))) rfl)) (by exact (vss_one (by exact (vs_ret ve_bl rfl rfl)))))))))))))))
end
/-! ### the head -/
def d__law_chars : He.DefD := ⟨("_law_chars", none), "_law_chars", "_law_chars", defArgs s__law_chars, defBody s__law_chars, defScope s__law_chars, [], []⟩
def d__law_cell : He.DefD := ⟨("_law_cell", none), "_law_cell", "_law_cell", defArgs s__law_cell, defBody s__law_cell, defScope s__law_cell, [], []⟩
def d__law_mix : He.DefD := ⟨("_law_mix", none), "_law_mix", "_law_mix", defArgs s__law_mix, defBody s__law_mix, defScope s__law_mix, [], []⟩
def d__law_row : He.DefD := ⟨("_law_row", none), "_law_row", "_law_row", defArgs s__law_row, defBody s__law_row, defScope s__law_row, [], []⟩
def d_words : He.DefD := ⟨("words", none), "words", "words", defArgs s_words, defBody s_words, defScope s_words, [], []⟩
def d__law_words_of : He.DefD := ⟨("_law_words_of", none), "_law_words_of", "_law_words_of", defArgs s__law_words_of, defBody s__law_words_of, defScope s__law_words_of, [], []⟩
def d_law : He.DefD := ⟨("law", none), "law", "law", defArgs s_law, defBody s_law, defScope s_law, [], []⟩
def fn : List He.DefD := [d__law_chars, d__law_cell, d__law_mix, d__law_row, d_words, d__law_words_of, d_law]
def fa : List He.Fa := [.glo "_law_chars", .glo "_law_cell", .glo "_law_mix", .glo "_law_row", .glo "words", .glo "_law_words_of", .glo "law", .free "abs", .free "bool", .free "enumerate", .free "int", .free "isinstance", .free "len", .free "list", .free "range", .free "sorted", .str "WORD_CHARS" (Str.ofString "abcdefghijklmnopqrstuvwxyz0123456789")]
theorem txt {K : PySem.W.Frag} {h : Heap} {mg : Str → Option Value} (X : K.In h) (G : h.Ns mainGlobals mg) (c : He.SaysD fa fn K) : Txt K mg := by
  have F0 := fdAt_of (c.def_ 0 (d := d__law_chars) rfl)
  have F1 := fdAt_of (c.def_ 1 (d := d__law_cell) rfl)
  have F2 := fdAt_of (c.def_ 2 (d := d__law_mix) rfl)
  have F3 := fdAt_of (c.def_ 3 (d := d__law_row) rfl)
  have F4 := fdAt_of (c.def_ 4 (d := d_words) rfl)
  have F5 := fdAt_of (c.def_ 5 (d := d__law_words_of) rfl)
  have F6 := fdAt_of (c.def_ 6 (d := d_law) rfl)
  exact {
    f__law_chars := F0
    g__law_chars := He.glo_ok X G (c.fact 0 (f := .glo "_law_chars") rfl)
    k__law_chars := F0.kp
    bd__law_chars := F0.bindsN (fun _ _ _ _ _ _ us hl => match us, hl with | [], _ => rfl)
    f__law_cell := F1
    g__law_cell := He.glo_ok X G (c.fact 1 (f := .glo "_law_cell") rfl)
    k__law_cell := F1.kp
    bd__law_cell := F1.bindsN (fun _ _ _ _ _ _ us hl => match us, hl with | [_, _], _ => rfl)
    f__law_mix := F2
    g__law_mix := He.glo_ok X G (c.fact 2 (f := .glo "_law_mix") rfl)
    k__law_mix := F2.kp
    bd__law_mix := F2.bindsN (fun _ _ _ _ _ _ us hl => match us, hl with | [_, _], _ => rfl)
    f__law_row := F3
    g__law_row := He.glo_ok X G (c.fact 3 (f := .glo "_law_row") rfl)
    k__law_row := F3.kp
    bd__law_row := F3.bindsN (fun _ _ _ _ _ _ us hl => match us, hl with | [_, _, _], _ => rfl)
    f_words := F4
    g_words := He.glo_ok X G (c.fact 4 (f := .glo "words") rfl)
    k_words := F4.kp
    bd_words := F4.bindsN (fun _ _ _ _ _ _ us hl => match us, hl with | [_], _ => rfl)
    f__law_words_of := F5
    g__law_words_of := He.glo_ok X G (c.fact 5 (f := .glo "_law_words_of") rfl)
    k__law_words_of := F5.kp
    bd__law_words_of := F5.bindsN (fun _ _ _ _ _ _ us hl => match us, hl with | [_], _ => rfl)
    f_law := F6
    g_law := He.glo_ok X G (c.fact 6 (f := .glo "law") rfl)
    k_law := F6.kp
    bd_law := F6.bindsN (fun _ _ _ _ _ _ us hl => match us, hl with | [_], _ => rfl)
    b_abs := He.free_ok X G (c.fact 7 (f := .free "abs") rfl)
    b_bool := He.free_ok X G (c.fact 8 (f := .free "bool") rfl)
    b_enumerate := He.free_ok X G (c.fact 9 (f := .free "enumerate") rfl)
    b_int := He.free_ok X G (c.fact 10 (f := .free "int") rfl)
    b_isinstance := He.free_ok X G (c.fact 11 (f := .free "isinstance") rfl)
    b_len := He.free_ok X G (c.fact 12 (f := .free "len") rfl)
    b_list := He.free_ok X G (c.fact 13 (f := .free "list") rfl)
    b_range := He.free_ok X G (c.fact 14 (f := .free "range") rfl)
    b_sorted := He.free_ok X G (c.fact 15 (f := .free "sorted") rfl)
    c_WORD_CHARS := gcon_str (He.str_ok X G (c.fact 16 (f := .str "WORD_CHARS" (Str.ofString "abcdefghijklmnopqrstuvwxyz0123456789")) rfl)) }
abbrev R : PySem.W.OpenRow := PySem.W.OpenLaw.row PySem.Challenge.rw_scanpages_k64_words
abbrev hk : PySem.W.Hook := He.hookD 4 fa fn
def ob (s : PySem.W.SharedT) : He.AlD := He.obsDG 4 fa fn (HandSHeadRun.getT s)
theorem ob_eq (s : PySem.W.SharedT) : ob s = hk.obs s.abs := He.obsDG_eq (HandSHeadRun.getT_eq s)
def names : List PySem.Str := ["WORD_CHARS", "words", "_law_cell", "_law_mix", "_law_row", "_law_is_int", "_law_chars", "_law_words_of"]
theorem run (w : World) : HandSHeadRun.RunEq R (PySem.W.view R.prog [10]) hk ob 1060 names w := by
  intro os
  kernel_rfl
end G

namespace G
open PySem PySem.Spec PyProof.Rows L2 VL PL
def wch : List Nat := (List.range 26).map (· + 97) ++ (List.range 10).map (· + 48)
theorem wch_eq : Str.ofString "abcdefghijklmnopqrstuvwxyz0123456789" = T wch := by decide +kernel
theorem wch_asc : Asc wch := by unfold Asc; decide +kernel
theorem sp_eq : Str.ofString " " = T [32] := by decide +kernel
theorem em_eq : Str.ofString "" = T [] := by decide +kernel
def tk (s : List (List Nat) × List Nat) (c : Nat) : List (List Nat) × List Nat := if c ∈ wch then (s.1, s.2 ++ [c]) else (if s.2 ≠ [] then (if s.2 ∈ s.1 then s.1 else s.1 ++ [s.2]) else s.1, [])
def toks (l : List Nat) : List (List Nat) := ((l ++ [32]).foldl tk ([], [])).1
structure TkOk (n : Nat) (s : List (List Nat) × List Nat) : Prop where
  w : ∀ w ∈ s.1, w ≠ [] ∧ (∀ c ∈ w, c ∈ wch) ∧ w.length ≤ n
  c : ∀ c ∈ s.2, c ∈ wch
  n1 : s.1.length ≤ n
  n2 : s.2.length ≤ n
theorem tk_ok {n : Nat} {s : List (List Nat) × List Nat} (h : TkOk n s) (c : Nat) : TkOk (n + 1) (tk s c) := by
  unfold tk
  have up : ∀ w ∈ s.1, w ≠ [] ∧ (∀ c ∈ w, c ∈ wch) ∧ w.length ≤ n + 1 := fun w hw => ⟨(h.w w hw).1, (h.w w hw).2.1, Nat.le_succ_of_le (h.w w hw).2.2⟩
  by_cases hc : c ∈ wch
  · rw [if_pos hc]
    refine ⟨up, fun d hd => ?_, Nat.le_succ_of_le h.n1, ?_⟩
    · rcases List.mem_append.mp hd with z | z
      · exact h.c d z
      · rw [List.mem_singleton.mp z]; exact hc
    · rw [List.length_append, List.length_singleton]; have := h.n2; omega
  · rw [if_neg hc]
    by_cases he : s.2 ≠ []
    · rw [if_pos he]
      by_cases hm : s.2 ∈ s.1
      · rw [if_pos hm]; exact ⟨up, (fun _ z => nomatch z), Nat.le_succ_of_le h.n1, Nat.zero_le _⟩
      · rw [if_neg hm]
        refine ⟨fun w hw => ?_, (fun _ z => nomatch z), ?_, Nat.zero_le _⟩
        · rcases List.mem_append.mp hw with z | z
          · exact up w z
          · rw [List.mem_singleton.mp z]; exact ⟨he, h.c, Nat.le_succ_of_le h.n2⟩
        · show (s.1 ++ [s.2]).length ≤ _
          rw [List.length_append, List.length_singleton]; have := h.n1; omega
    · rw [if_neg he]; exact ⟨up, (fun _ z => nomatch z), Nat.le_succ_of_le h.n1, Nat.zero_le _⟩
theorem tks_ok : ∀ {n : Nat} {s : List (List Nat) × List Nat} (l : List Nat), TkOk n s → TkOk (n + l.length) (l.foldl tk s)
  | n, s, [], h => h
  | n, s, c :: l, h => by
    have z := tks_ok l (tk_ok h c)
    have e : n + 1 + l.length = n + (c :: l).length := by rw [List.length_cons]; omega
    rw [e] at z
    exact z
theorem tk0 : TkOk 0 ([], []) := ⟨(fun _ z => nomatch z), (fun _ z => nomatch z), Nat.le_refl _, Nat.le_refl _⟩
theorem toks_ok (l : List Nat) : TkOk (l.length + 1) ((l ++ [32]).foldl tk ([], [])) := by
  have z := tks_ok (l ++ [32]) tk0
  rw [List.length_append, List.length_singleton, Nat.zero_add] at z
  exact z
theorem asc_w {w : List Nat} (h : ∀ c ∈ w, c ∈ wch) : Asc w := fun c hc => wch_asc c (h c hc)
/-! ### the words gathered sign by sign -/
structure WS where
  s : List (List Nat) × List Nat
  k : Option D
def woE (t : D) (s : WS) : VL.Env := [some t, some (.lst (s.s.1.map fun w => .str (T w))), some (.str (T s.s.2)), s.k]
def woStep (s : WS) (c : Nat) : WS := ⟨tk s.s c, some (.str (T [c]))⟩
noncomputable def woB : MS := (sIf (mTest dBool (mBin dIn (mVar 3) (mC (.str (Str.ofString "abcdefghijklmnopqrstuvwxyz0123456789"))))) (sAsg 2 (mBin dAdd (mVar 2) (mVar 3))) (sSeq (sIf (mAndT (mTest dBool (mBin dNe (mVar 2) (mC (.str (Str.ofString ""))))) (mScalT (mTest dBool (mBin dNotInF (mVar 2) (mVar 1))))) (sApp 1 (.L .s) .s (fun _ => some []) (mVar 2)) sNext)
  (sAsg 2 (mC (.str (Str.ofString ""))))))
theorem wo_step (t : D) (s : WS) (c : Nat) {n : Nat} (h : TkOk n s.s) (hn : n < 1000) : woB ((woE t s).set 3 (some (.str (T [c])))) = .nx (woE t (woStep s c)) := by
  have e3 : (woE t s).set 3 (some (.str (T [c]))) = [some t, some (.lst (s.s.1.map fun w => .str (T w))), some (.str (T s.s.2)), some (.str (T [c]))] := rfl
  rw [e3]
  have hin := inStr c wch
  have h1 := h.n1
  have h2 := h.n2
  have hadd : dAdd (.str (T s.s.2)) (.str (T [c])) = some (.str (T (s.s.2 ++ [c]))) := addT (by rw [List.length_singleton]; omega)
  have hne : dNe (.str (T s.s.2)) (.str (T [])) = some (.bl (!cdec (s.s.2 = []))) := neT (asc_w h.c) (fun _ z => nomatch z)
  have hni : dNotInF (.str (T s.s.2)) (.lst (s.s.1.map fun w => .str (T w))) = some (.bl (!cdec (s.s.2 ∈ s.s.1))) := by
    rw [mapT, notInF_strs]
    by_cases z : s.s.2 ∈ s.s.1
    · rw [cdec_pos z, cdec_pos (mem_T.mpr z)]
    · rw [cdec_neg z, cdec_neg (fun y => z (mem_T.mp y))]
  have happ := ev_app0 (ρ := [some t, some (.lst (s.s.1.map fun w => .str (T w))), some (.str (T s.s.2)), some (.str (T [c]))]) (i := 1) (xs := s.s.1.map fun w => .str (T w)) (m := mVar 2) (d := .str (T s.s.2)) rfl rfl (by rw [List.length_map]; exact decide_eq_true (by omega))
  unfold woB
  rw [wch_eq, em_eq]
  unfold woStep tk
  by_cases hc : c ∈ wch
  · simp [hin, cdec_pos hc, hadd, if_pos hc, woE]
  · by_cases he : s.s.2 = []
    · rw [he] at hne
      rw [cdec_pos rfl] at hne
      simp [hin, cdec_neg hc, hne, if_neg hc, he, woE]
    · by_cases hm : s.s.2 ∈ s.s.1
      · simp [hin, cdec_neg hc, hne, cdec_neg he, hni, cdec_pos hm, if_neg hc, he, hm, woE]
      · simp [hin, cdec_neg hc, hne, cdec_neg he, hni, cdec_neg hm, if_neg hc, he, hm, woE, happ]
theorem wo_fold : ∀ (l : List Nat) (s : WS), (l.foldl woStep s).s = l.foldl tk s.s
  | [], _ => rfl
  | c :: l, s => wo_fold l (woStep s c)
theorem wo_loop (t : D) (l : List Nat) (hl : l.length < 500) : loopD (tgName 3) woB (l.map fun c => D.str (T [c])) (woE t ⟨([], []), none⟩) = .nx (woE t (l.foldl woStep ⟨([], []), none⟩)) := by
  refine loop_fold (woE t) (fun c => D.str (T [c])) woStep (fun s l => ∃ n, TkOk n s.s ∧ n + l.length < 500) (fun s c xs ⟨n, h1, h2⟩ => ⟨⟨n + 1, tk_ok h1 c, by rw [List.length_cons] at h2; omega⟩, _, rfl, .inl (wo_step t s c h1 (by rw [List.length_cons] at h2; omega))⟩) l _ ⟨0, tk0, by omega⟩
theorem words_of_ok (l : List Nat) (ha : Asc l) (hl : l.length < 62) {m : List (List Nat)} (hm : sortStr ((toks (l.map lo1)).map T) = m.map T) : f__law_words_of [.str (T l)] = .ok (.lst (m.map fun w => .str (T w))) [] := by
  have hlo : Asc (l.map lo1) := fun c hc => by
    obtain ⟨d, hd, rfl⟩ := List.mem_map.mp hc
    have := ha d hd
    unfold lo1
    split <;> omega
  have e1 : dLower (.str (T l)) [] = some (.str (T (l.map lo1))) := lowT ha (by omega)
  have e2 : dAdd (.str (T (l.map lo1))) (.str (T [32])) = some (.str (T (l.map lo1 ++ [32]))) := addT (by simp; omega)
  have e3 : dIter (.str (T (l.map lo1 ++ [32]))) = some ((l.map lo1 ++ [32]).map fun c => D.str (T [c])) := by
    show some (chars (T (l.map lo1 ++ [32]))) = _
    rw [T_chars]
  have loop := wo_loop (.str (T l)) (l.map lo1 ++ [32]) (by simp; omega)
  have ok := toks_ok (l.map lo1)
  have es : dSorted [.lst ((toks (l.map lo1)).map fun w => .str (T w))] = some (.lst (m.map fun w => .str (T w))) := sortedLst _ (by have := ok.n1; rw [List.length_map] at this; show ((l.map lo1 ++ [32]).foldl tk ([], [])).1.length < 64; omega) hm
  have ew : (woE (.str (T l)) ⟨([], []), none⟩) = [some (.str (T l)), some (.lst []), some (.str (T [])), none] := rfl
  rw [ew] at loop
  unfold f__law_words_of M__law_words_of
  rw [show (sIf (mTest dBool (mBin dIn (mVar 3) (mC (.str (Str.ofString "abcdefghijklmnopqrstuvwxyz0123456789"))))) (sAsg 2 (mBin dAdd (mVar 2) (mVar 3))) (sSeq (sIf (mAndT (mTest dBool (mBin dNe (mVar 2) (mC (.str (Str.ofString ""))))) (mScalT (mTest dBool (mBin dNotInF (mVar 2) (mVar 1))))) (sApp 1 (.L .s) .s (fun _ => some []) (mVar 2)) sNext)
    (sAsg 2 (mC (.str (Str.ofString "")))))) = woB from rfl, em_eq, sp_eq]
  have s1 : sAsg 1 (mArgs dLst mNil) (env0 4 [.str (T l)]) = .nx [some (.str (T l)), some (.lst []), none, none] := by simp [env0, dLst]
  have s3 : mIt dIter (mBin dAdd (mMeth isStrD dLower (mVar 0) mNil) (mC (.str (T [32])))) [some (.str (T l)), some (.lst []), some (.str (T [])), none] = .ok ((l.map lo1 ++ [32]).map fun c => D.str (T [c])) := by
    simp only [ev_it, ev_bin, ev_meth, ev_var, ev_nil, ev_c]
    simp [isStrD, e1, e2, e3]
  rw [ev_fn, ev_seq, s1]
  simp only [ev_seq, ev_asg, ev_c, List.set_cons_succ, List.set_cons_zero, ev_for]
  rw [s3]
  simp only [loop]
  have fin : (List.foldl woStep { s := ([], []), k := none } (l.map lo1 ++ [32])).s.1 = toks (l.map lo1) := by rw [wo_fold]; rfl
  have fl : (m.map fun w => D.str (T w)).all flatD = true := by simp [flatD]
  simp only [woE, fin]
  simp only [ev_ret, ev_scalL, ev_args, ev_cons, ev_var, ev_nil]
  simp [es, fl, flatD]
/-! ### the words cut out by their places -/
structure WT where
  s : List (List Nat) × List Nat
  b : Nat
  a : Option D
  k : Option D
def wtE (t : D) (p : List Nat) (s : WT) : VL.Env := [some t, some (.str (T p)), some (.dic (s.s.1.map fun w => (.inr (T w), .bl true))), some (.int (s.b : Nat)), s.a, s.k]
def wtVal (x : Nat × Nat) : D := .tup [.int (x.2 : Nat), .str (T [x.1])]
def wtStep (s : WT) (x : Nat × Nat) : WT := ⟨tk s.s x.1, if x.1 ∈ wch then s.b else x.2 + 1, some (.int (x.2 : Nat)), some (.str (T [x.1]))⟩
structure WtOk (p : List Nat) (s : WT) (xs : List (Nat × Nat)) : Prop where
  ex : ∃ pre rest : List Nat, p ++ [32] = pre ++ rest ∧ xs = rest.zipIdx pre.length ∧ s.b ≤ pre.length ∧ s.s.2 = pre.drop s.b ∧ TkOk pre.length s.s
noncomputable def wtB : MS := (sIf (mTest dBool (mBin dNotInF (mVar 5) (mC (.str (Str.ofString "abcdefghijklmnopqrstuvwxyz0123456789"))))) (sSeq (sIf (mTest dBool (mBin dGt (mVar 4) (mVar 3))) (sPut 2 (.M .s) (fun _ => some []) (mSl dSl (mVar 1) (mPart (mVar 3)) (mPart (mVar 4))) (mC (.bl true))) sNext)
  (sAsg 3 (mBin dAdd (mVar 4) (mC (.int 1))))) sNext)
theorem wt_step (t : D) (p : List Nat) (hp : p.length < 500) (s : WT) (x : Nat × Nat) (xs : List (Nat × Nat)) (h : WtOk p s (x :: xs)) : WtOk p (wtStep s x) xs ∧ ∃ ρ1, tgTup 2 (tgCons (tgName 4) (tgCons (tgName 5) tgNil)) (wtVal x) (wtE t p s) = some ρ1 ∧ (wtB ρ1 = .nx (wtE t p (wtStep s x)) ∨ wtB ρ1 = .ct (wtE t p (wtStep s x))) := by
  obtain ⟨pre, rest, h1, h2, h3, h4, h5⟩ := h.ex
  cases rest with
  | nil => cases h2
  | cons c rest =>
    rw [List.zipIdx_cons] at h2
    obtain ⟨e1, e2⟩ := List.cons.inj h2
    subst e1
    have hlen : pre.length + (rest.length + 1) = p.length + 1 := by
      have z := congrArg List.length h1
      simp at z
      omega
    have hpre : pre = p.take pre.length := by
      have z := congrArg (fun l : List Nat => l.take pre.length) h1
      simp only [List.take_left'] at z
      rw [List.take_append_of_le_length (by omega)] at z
      simpa using z.symm
    refine ⟨⟨pre ++ [c], rest, by rw [h1]; simp, by rw [e2]; simp, ?_, ?_, ?_⟩, [some t, some (.str (T p)), some (.dic (s.s.1.map fun w => (.inr (T w), .bl true))), some (.int (s.b : Nat)), some (.int (pre.length : Nat)), some (.str (T [c]))], ?_, .inl ?_⟩
    · show (if c ∈ wch then s.b else pre.length + 1) ≤ _
      rw [List.length_append, List.length_singleton]
      split <;> omega
    · show (tk s.s c).2 = (pre ++ [c]).drop (if c ∈ wch then s.b else pre.length + 1)
      unfold tk
      by_cases hc : c ∈ wch
      · rw [if_pos hc, if_pos hc, List.drop_append_of_le_length h3, ← h4]
      · rw [if_neg hc, if_neg hc]
        simp
    · show TkOk (pre ++ [c]).length (tk s.s c)
      rw [List.length_append, List.length_singleton]
      exact tk_ok h5 c
    · simp [wtVal, wtE]
    · have hni := notInFStr c wch
      have hcl : s.s.2.length = pre.length - s.b := by rw [h4, List.length_drop]
      have hsl : dSl (.str (T p)) (some (s.b : Int)) (some (pre.length : Int)) = some (.str (T s.s.2)) := by
        rw [slT h3 (by omega) (by omega)]
        rw [h4]
        conv => rhs; rw [hpre]
        rw [List.drop_take]
      have hgt : dGt (.int (pre.length : Int)) (.int (s.b : Int)) = some (.bl (cdec ((s.b : Int) < (pre.length : Int)))) := rfl
      have hput := ev_put0 (ρ := [some t, some (.str (T p)), some (.dic (s.s.1.map fun w => (.inr (T w), .bl true))), some (.int (s.b : Nat)), some (.int (pre.length : Nat)), some (.str (T [c]))]) (i := 2) (kvs := s.s.1.map fun w => (.inr (T w), .bl true)) (m := mC (.bl true)) (d := .bl true) (mi := mSl dSl (mVar 1) (mPart (mVar 3)) (mPart (mVar 4))) (kd := .str (T s.s.2)) (k := .inr (T s.s.2)) rfl rfl (by simp [hsl]) rfl (by rw [List.length_map]; have := h5.n1; exact decide_eq_true (by omega))
      rw [putT] at hput
      have hadd : dAdd (.int (pre.length : Int)) (.int 1) = some (.int ((pre.length + 1 : Nat) : Int)) := rfl
      unfold wtB
      rw [wch_eq]
      unfold wtStep tk
      by_cases hc : c ∈ wch
      · simp [hni, cdec_pos hc, if_pos hc, wtE]
      · by_cases he : s.s.2 = []
        · have hb : ¬ ((s.b : Int) < (pre.length : Int)) := by
            rw [he] at hcl
            simp at hcl
            omega
          rw [cdec_neg hb] at hgt
          simp [hni, cdec_neg hc, hgt, if_neg hc, he, wtE, hadd]
        · have hb : (s.b : Int) < (pre.length : Int) := by
            have z : s.s.2.length ≠ 0 := fun z => he (List.length_eq_zero_iff.mp z)
            omega
          rw [cdec_pos hb] at hgt
          simp [hni, cdec_neg hc, hgt, if_neg hc, he, wtE, hadd, hput]
theorem wt_fold : ∀ (l : List Nat) (n : Nat) (s : WT), ((l.zipIdx n).foldl wtStep s).s = l.foldl tk s.s
  | [], _, _ => rfl
  | c :: l, n, s => by rw [List.zipIdx_cons, List.foldl_cons, wt_fold l (n + 1), List.foldl_cons]; rfl
theorem wt_loop (t : D) (p : List Nat) (hp : p.length < 500) : loopD (tgTup 2 (tgCons (tgName 4) (tgCons (tgName 5) tgNil))) wtB ((p ++ [32]).zipIdx.map wtVal) (wtE t p ⟨([], []), 0, none, none⟩) = .nx (wtE t p ((p ++ [32]).zipIdx.foldl wtStep ⟨([], []), 0, none, none⟩)) :=
  loop_fold (wtE t p) wtVal wtStep (WtOk p) (fun s x xs h => wt_step t p hp s x xs h) _ _ ⟨[], p ++ [32], rfl, rfl, Nat.le_refl _, rfl, tk0⟩
theorem lo_asc {l : List Nat} (ha : Asc l) : Asc (l.map lo1) := fun c hc => by
  obtain ⟨d, hd, rfl⟩ := List.mem_map.mp hc
  have := ha d hd
  unfold lo1
  split <;> omega
theorem words_ok (l : List Nat) (ha : Asc l) (hl : l.length < 62) {m : List (List Nat)} (hm : sortStr ((toks (l.map lo1)).map T) = m.map T) : f_words [.str (T l)] = .ok (.lst (m.map fun w => .str (T w))) [] := by
  have e1 : dLower (.str (T l)) [] = some (.str (T (l.map lo1))) := lowT ha (by omega)
  have e2 : dAdd (.str (T (l.map lo1))) (.str (T [32])) = some (.str (T (l.map lo1 ++ [32]))) := addT (by simp; omega)
  have e3 : dEnum [.str (T (l.map lo1 ++ [32]))] = some ((l.map lo1 ++ [32]).zipIdx.map wtVal) := by
    show some (enums (chars (T (l.map lo1 ++ [32])))) = _
    rw [T_chars]
    unfold enums
    rw [List.zipIdx_map, List.map_map]
    rfl
  have loop := wt_loop (.str (T l)) (l.map lo1) (by simp; omega)
  have ok := toks_ok (l.map lo1)
  have es : dSorted [.dic ((toks (l.map lo1)).map fun w => (.inr (T w), .bl true))] = some (.lst (m.map fun w => .str (T w))) := sortedDic _ (by have := ok.n1; rw [List.length_map] at this; show ((l.map lo1 ++ [32]).foldl tk ([], [])).1.length < 64; omega) hm
  have ew : (wtE (.str (T l)) (l.map lo1) ⟨([], []), 0, none, none⟩) = [some (.str (T l)), some (.str (T (l.map lo1))), some (.dic []), some (.int 0), none, none] := rfl
  rw [ew] at loop
  unfold f_words M_words
  rw [show (sIf (mTest dBool (mBin dNotInF (mVar 5) (mC (.str (Str.ofString "abcdefghijklmnopqrstuvwxyz0123456789"))))) (sSeq (sIf (mTest dBool (mBin dGt (mVar 4) (mVar 3))) (sPut 2 (.M .s) (fun _ => some []) (mSl dSl (mVar 1) (mPart (mVar 3)) (mPart (mVar 4))) (mC (.bl true))) sNext)
    (sAsg 3 (mBin dAdd (mVar 4) (mC (.int 1))))) sNext) = wtB from rfl, sp_eq]
  have s1 : sAsg 1 (mMeth isStrD dLower (mVar 0) mNil) (env0 6 [.str (T l)]) = .nx [some (.str (T l)), some (.str (T (l.map lo1))), none, none, none, none] := by simp [env0, isStrD, e1]
  have s3 : mItA dEnum (mCons (mBin dAdd (mVar 1) (mC (.str (T [32])))) mNil) [some (.str (T l)), some (.str (T (l.map lo1))), some (.dic []), some (.int 0), none, none] = .ok ((l.map lo1 ++ [32]).zipIdx.map wtVal) := by
    simp only [ev_itA, ev_bin, ev_cons, ev_var, ev_nil, ev_c]
    simp [e2, e3]
  rw [ev_fn, ev_seq, s1]
  simp only [ev_seq, ev_asg, ev_c, List.set_cons_succ, List.set_cons_zero, ev_for]
  rw [s3]
  simp only [loop]
  have fin : (List.foldl wtStep { s := ([], []), b := 0, a := none, k := none } (l.map lo1 ++ [32]).zipIdx).s.1 = toks (l.map lo1) := by rw [wt_fold]; rfl
  simp only [wtE, fin]
  simp only [ev_ret, ev_scalL, ev_args, ev_cons, ev_var, ev_nil]
  simp [es, flatD]
theorem lo_up {c : Nat} : lo1 (up1 c) = lo1 c := by
  unfold lo1 up1
  repeat' split
  all_goals omega
theorem lo_w {c : Nat} (h : c ∈ wch) : lo1 c = c := by
  have z : ∀ c ∈ wch, lo1 c = c := by decide +kernel
  exact z c h
theorem tk_word : ∀ (w : List Nat) (s : List (List Nat) × List Nat), (∀ c ∈ w, c ∈ wch) → w.foldl tk s = (s.1, s.2 ++ w)
  | [], s, _ => by simp
  | c :: w, s, h => by
    rw [List.foldl_cons, tk_word w _ fun d hd => h d (List.mem_cons_of_mem _ hd)]
    unfold tk
    rw [if_pos (h c (List.mem_cons_self ..))]
    simp
theorem toks_word {w : List Nat} (hne : w ≠ []) (h : ∀ c ∈ w, c ∈ wch) : toks (w.map lo1) = [w] := by
  have e : w.map lo1 = w := by
    have : ∀ c ∈ w, lo1 c = id c := fun c hc => lo_w (h c hc)
    rw [List.map_congr_left this, List.map_id]
  unfold toks
  rw [e, List.foldl_append, tk_word w _ h]
  have h32 : 32 ∉ wch := by decide +kernel
  simp [tk, h32, hne]
def allc : List Nat := ([32, 33, 34, 35, 36] ++ (List.range 59).map (· + 38)) ++ ((List.range 30).map (· + 97) ++ [10])
theorem chars_ok : f__law_chars [] = .ok (.str (T allc)) [] := by
  have e1 : Str.ofString " !\"#$&'()*+,-./0123456789:;<=>?@ABCDEFGHIJKLMNOPQRSTUVWXYZ[\\]^_`" = T ([32, 33, 34, 35, 36] ++ (List.range 59).map (· + 38)) := by decide +kernel
  have e2 : Str.ofString "abcdefghijklmnopqrstuvwxyz{|}~\n" = T ((List.range 30).map (· + 97) ++ [10]) := by decide +kernel
  have e3 := addT (l := [32, 33, 34, 35, 36] ++ (List.range 59).map (· + 38)) (m := (List.range 30).map (· + 97) ++ [10]) (by decide +kernel)
  unfold f__law_chars M__law_chars
  rw [e1, e2]
  simp only [ev_fn, ev_seq, ev_asg, ev_c, ev_ret, ev_bin, ev_var]
  simp only [env0, List.length_nil, List.map_nil, List.nil_append, Nat.sub_zero]
  simp only [List.replicate_one, List.set_cons_zero, List.getElem?_cons_zero, e3]
  rfl
def altc : List Nat := [97, 65, 98, 66, 49, 57, 32, 46, 45, 10]
theorem alt_eq : Str.ofString "aAbB19 .-\n" = T altc := by decide +kernel
theorem allc_asc : Asc allc := by unfold Asc; decide +kernel
theorem altc_asc : Asc altc := by unfold Asc; decide +kernel
theorem allc_len : allc.length = 95 := by decide +kernel
theorem cell_eq : f__law_cell = f_cell := rfl
theorem row_eq : f__law_row = f_row := rfl
theorem text_ok (cs : List Nat) (ha : Asc cs) (hl : 0 < cs.length) (hl2 : cs.length < 100) (c : Int) (n : Nat) : ∃ l : List Nat, Asc l ∧ l.length = n ∧ (rowL c n cs.length).map (fun i => dIx (.str (T cs)) (.int i)) = l.map (fun c => some (.str (T [c]))) := by
  have hin := rowL_in c n (b := cs.length) (by omega)
  have hlen := rowL_len c n cs.length
  revert hin hlen
  generalize rowL c n cs.length = r
  intro hin hlen
  clear c
  induction r generalizing n with
  | nil => exact ⟨[], (fun _ z => nomatch z), hlen, rfl⟩
  | cons x r ih =>
    cases n with
    | zero => cases hlen
    | succ n =>
      obtain ⟨l, h1, h2, h3⟩ := ih n (fun y hy => hin y (List.mem_cons_of_mem _ hy)) (by simpa using hlen)
      obtain ⟨z1, z2⟩ := hin x (List.mem_cons_self ..)
      obtain ⟨k, hk, e⟩ := ixTI z1 z2 (by omega)
      refine ⟨k :: l, fun d hd => ?_, by rw [List.length_cons, h2], by rw [List.map_cons, List.map_cons, e, h3]⟩
      rcases List.mem_cons.mp hd with y | y
      · rw [y]; exact ha k hk
      · exact h1 d y
noncomputable def lawB : MS := (sIf (mTest dBool (mBin dNe (mCall f_words (mCons (mVar 4) mNil)) (mArgs dLst (mCons (mVar 4) mNil)))) (sRet (mC (.bl false))) sNext)
def lawE (ns : List Int) (cs l : List Nat) (m : List (List Nat)) (w k : Option D) : VL.Env := [some (.frl (ns.map D.int)), some (.str (T cs)), some (.str (T l)), some (.lst (m.map fun w => .str (T w))), w, k]
theorem law_step (ns : List Int) (cs l : List Nat) (m : List (List Nat)) (k : Option D) (w : List Nat) (hne : w ≠ []) (hw : ∀ c ∈ w, c ∈ wch) (hl : w.length < 62) : lawB (lawE ns cs l m (some (.str (T w))) k) = .nx (lawE ns cs l m (some (.str (T w))) k) := by
  have a := asc_w hw
  have e1 : f_words [.str (T w)] = .ok (.lst ([w].map fun w => .str (T w))) [] := words_ok w a hl (m := [w]) (by rw [toks_word hne hw]; exact (sortStr_of (List.Perm.refl _) rfl).symm)
  have e2 := neTs (l := [w]) (m := [w]) (fun v hv => by rw [List.mem_singleton.mp hv]; exact a) (fun v hv => by rw [List.mem_singleton.mp hv]; exact a)
  rw [cdec_pos rfl] at e2
  simp only [List.map_cons, List.map_nil] at e1 e2
  have e3 := lst_ok (ds := [D.str (T w)]) (show 1 ≤ 16777216 by decide)
  unfold lawB lawE
  simp [-ev_fn, e1, e2, e3]
theorem law_loop (ns : List Int) (cs l : List Nat) (m : List (List Nat)) (k : Option D) (h : ∀ w ∈ m, w ≠ [] ∧ (∀ c ∈ w, c ∈ wch) ∧ w.length < 62) : loopD (tgName 4) lawB (m.map fun w => D.str (T w)) (lawE ns cs l m none k) = .nx (lawE ns cs l m (m.foldl (fun _ w => some (D.str (T w))) none) k) := by
  refine loop_fold (fun s : Option D => lawE ns cs l m s k) (fun w => D.str (T w)) (fun _ w => some (D.str (T w))) (fun _ xs => ∀ w ∈ xs, w ≠ [] ∧ (∀ c ∈ w, c ∈ wch) ∧ w.length < 62) (fun s w xs hx => ⟨fun v hv => hx v (List.mem_cons_of_mem _ hv), _, rfl, .inl ?_⟩) m none h
  obtain ⟨h1, h2, h3⟩ := hx w (List.mem_cons_self ..)
  exact law_step ns cs l m k w h1 h2 h3
theorem law_true (ns : List Int) (hn : ns.length ≤ 63) : f_law [.frl (ns.map D.int)] = .ok (.bl true) [] := by
  have c0 := cell_ok ns 0
  have c1 := cell_ok ns 1
  rw [← cell_eq] at c0 c1
  generalize cell ns 0 = a at c0
  generalize cell ns 1 = b at c1
  obtain ⟨cs, hcs, hasc, hl1, hl2⟩ : ∃ cs : List Nat, cs = (if a % 2 = 1 then altc else allc) ∧ Asc cs ∧ 0 < cs.length ∧ cs.length < 100 := by
    refine ⟨_, rfl, ?_⟩
    split
    · exact ⟨altc_asc, by decide, by decide⟩
    · exact ⟨allc_asc, by rw [allc_len]; decide, by rw [allc_len]; decide⟩
  have hk : (a / 2 % 61).toNat < 61 := by
    have := Int.emod_lt_of_pos (a / 2) (b := 61) (by decide)
    have := Int.emod_nonneg (a / 2) (b := 61) (by decide)
    omega
  have hk2 : ((a / 2 % 61).toNat : Int) = a / 2 % 61 := by
    have := Int.emod_nonneg (a / 2) (b := 61) (by decide)
    omega
  obtain ⟨l, ha, hlen, hrow⟩ := text_ok cs hasc hl1 hl2 b (a / 2 % 61).toNat
  have r := row_ok b (a / 2 % 61).toNat cs.length (by omega) (by omega) (by omega)
  rw [← row_eq, hk2] at r
  obtain ⟨m, hm, hperm⟩ := sortedL (toks (l.map lo1)) (by have := (toks_ok (l.map lo1)).n1; rw [List.length_map] at this; show ((l.map lo1 ++ [32]).foldl tk ([], [])).1.length < 64; omega)
  have w1 := words_ok l ha (by omega) hm
  have w2 := words_of_ok l ha (by omega) hm
  have hup : (l.map up1).map lo1 = l.map lo1 := by
    rw [List.map_map]
    exact List.map_congr_left fun c _ => lo_up
  have w3 := words_ok (l.map up1) (fun c hc => by
    obtain ⟨d, hd, rfl⟩ := List.mem_map.mp hc
    have := ha d hd
    unfold up1
    split <;> omega) (by rw [List.length_map]; omega) (m := m) (by rw [hup]; exact hm)
  have hmem : ∀ w ∈ m, w ≠ [] ∧ (∀ c ∈ w, c ∈ wch) ∧ w.length < 62 := fun w hw => by
    obtain ⟨z1, z2, z3⟩ := (toks_ok (l.map lo1)).w w (hperm.mem_iff.mp hw)
    rw [List.length_map] at z3
    exact ⟨z1, z2, by omega⟩
  have hne := neTs (l := m) (m := m) (fun w hw => asc_w (hmem w hw).2.1) (fun w hw => asc_w (hmem w hw).2.1)
  rw [cdec_pos rfl] at hne
  have hup2 : dUpper (.str (T l)) [] = some (.str (T (l.map up1))) := upT ha (by omega)
  have loop := fun k => law_loop ns cs l m k hmem
  have q1 : sAsg 1 (mCall0 f__law_chars) (env0 6 [.frl (ns.map D.int)]) = .nx [some (.frl (ns.map D.int)), some (.str (T allc)), none, none, none, none] := by
    simp [-ev_fn, env0, chars_ok]
  have m2 : dMod (.int a) (.int 2) = some (.int (a % 2)) := modI_ok (by decide)
  have d2 : dDiv (.int a) (.int 2) = some (.int (a / 2)) := divI_ok (by decide) (by decide)
  have m61 : dMod (.int (a / 2)) (.int 61) = some (.int (a / 2 % 61)) := modI_ok (by decide)
  have c0' : f__law_cell [D.frl (ns.map D.int), .int 0] = .ok (.int a) [] := c0
  have c1' : f__law_cell [D.frl (ns.map D.int), .int 1] = .ok (.int b) [] := c1
  have q2 : sIf (mTest dBool (mBin dEq (mBin dMod (mCall f__law_cell (mCons (mVar 0) (mCons (mC (.int 0)) mNil))) (mC (.int 2))) (mC (.int 1)))) (sAsg 1 (mC (.str (T altc)))) sNext [some (.frl (ns.map D.int)), some (.str (T allc)), none, none, none, none] = .nx [some (.frl (ns.map D.int)), some (.str (T cs)), none, none, none, none] := by
    rw [hcs]
    by_cases h : a % 2 = 1
    · simp [-ev_fn, c0', m2, eqI_ok, h]
    · simp [-ev_fn, c0', m2, eqI_ok, h]
  have hlc : lcD (tgName 5) mYes (mBin dIx (mVar 1) (mVar 5)) [some (.frl (ns.map D.int)), some (.str (T cs)), none, none, none, none] ((rowL b (a / 2 % 61).toNat cs.length).map D.int) = some (l.map fun c => .str (T [c])) := by
    have hz : ∀ (r : List Int) (l : List Nat), r.map (fun i => dIx (.str (T cs)) (.int i)) = l.map (fun c => some (D.str (T [c]))) → lcD (tgName 5) mYes (mBin dIx (mVar 1) (mVar 5)) [some (.frl (ns.map D.int)), some (.str (T cs)), none, none, none, none] (r.map D.int) = some (l.map fun c => .str (T [c])) := by
      intro r
      induction r with
      | nil =>
        intro l h
        cases l with
        | nil => rfl
        | cons _ _ => cases h
      | cons x r ih =>
        intro l h
        cases l with
        | nil => cases h
        | cons c l =>
          rw [List.map_cons, List.map_cons] at h
          obtain ⟨h1, h2⟩ := List.cons.inj h
          rw [List.map_cons, lcD]
          simp [h1, ih l h2]
    exact hz _ _ hrow
  have lenC : dLen [.str (T cs)] = some (.int (cs.length : Nat)) := lenT (by omega)
  have q3 : sAsg 2 (mMeth isStrD dJoin (mC (.str (T []))) (mCons (mLc [5] (tgName 5) (mIt dIter (mCall f__law_row (mCons (mCall f__law_cell (mCons (mVar 0) (mCons (mC (.int 1)) mNil))) (mCons (mBin dMod (mBin dDiv (mCall f__law_cell (mCons (mVar 0) (mCons (mC (.int 0)) mNil))) (mC (.int 2))) (mC (.int 61))) (mCons (mArgs dLen (mCons (mVar 1) mNil)) mNil))))) mYes (mBin dIx (mVar 1) (mVar 5))) mNil)) [some (.frl (ns.map D.int)), some (.str (T cs)), none, none, none, none] = .nx [some (.frl (ns.map D.int)), some (.str (T cs)), some (.str (T l)), none, none, none] := by
    have z := ev_lc (ρ := [some (.frl (ns.map D.int)), some (.str (T cs)), none, none, none, none]) (vs := [5]) (tgt := tgName 5) (t := mYes) (a := mBin dIx (mVar 1) (mVar 5)) (it := mIt dIter (mCall f__law_row (mCons (mCall f__law_cell (mCons (mVar 0) (mCons (mC (.int 1)) mNil))) (mCons (mBin dMod (mBin dDiv (mCall f__law_cell (mCons (mVar 0) (mCons (mC (.int 0)) mNil))) (mC (.int 2))) (mC (.int 61))) (mCons (mArgs dLen (mCons (mVar 1) mNil)) mNil))))) (ds := (rowL b (a / 2 % 61).toNat cs.length).map D.int)
      (by simp [-ev_fn, c0', c1', d2, m61, lenC, r, dIter]) (by rw [List.length_map, rowL_len]; omega) hlc
    have j := joinT l (by omega)
    simp only [ev_asg, ev_meth, ev_cons, ev_c, ev_nil, z]
    simp [isStrD, j]
  have q4 : sAsg 3 (mCall f_words (mCons (mVar 2) mNil)) [some (.frl (ns.map D.int)), some (.str (T cs)), some (.str (T l)), none, none, none] = .nx (lawE ns cs l m none none) := by
    simp [-ev_fn, w1, lawE]
  have q5 : sIf (mOrT (mNotT (mTest dBool (mUn (dIsi "list") (mVar 3)))) (mOrT (mTest dBool (mBin dNe (mVar 3) (mCall f__law_words_of (mCons (mVar 2) mNil)))) (mTest dBool (mBin dNe (mCall f_words (mCons (mMeth isStrD dUpper (mVar 2) mNil) mNil)) (mVar 3))))) (sRet (mC (.bl false))) sNext (lawE ns cs l m none none) = .nx (lawE ns cs l m none none) := by
    have isl : dIsi "list" (.lst (m.map fun w => .str (T w))) = some (.bl true) := by
      have e : kitB "list" "list" = some true := by decide +kernel
      show (kitB "list" "list").map D.bl = _
      rw [e]; rfl
    simp [-ev_fn, lawE, isl, hne, w2, w3, hup2, isStrD]
  have q6 : sFor (tgName 4) (mIt dIter (mVar 3)) lawB (lawE ns cs l m none none) = .nx (lawE ns cs l m (m.foldl (fun _ w => some (D.str (T w))) none) none) := by
    rw [ev_for]
    have z : mIt dIter (mVar 3) (lawE ns cs l m none none) = .ok (m.map fun w => D.str (T w)) := by simp [lawE, dIter]
    rw [z]
    exact loop none
  unfold f_law M_law
  rw [alt_eq, em_eq]
  rw [ev_fn, ev_seq, q1]
  simp only []
  rw [ev_seq, q2]
  simp only []
  rw [ev_seq, q3]
  simp only []
  rw [ev_seq, q4]
  simp only []
  rw [ev_seq, q5]
  simp only []
  rw [ev_seq, show (sIf (mTest dBool (mBin dNe (mCall f_words (mCons (mVar 4) mNil)) (mArgs dLst (mCons (mVar 4) mNil)))) (sRet (mC (.bl false))) sNext) = lawB from rfl, q6]
  simp
end G

open PySem PySem.W PySem.Calls PyProof.Rows
theorem PySem.Challenge.cw_scanpages_k64_words_holds : PySem.Challenge.rw_scanpages_k64_words.Holds := by
  w_on; o_law
  refine HandSHeadRun.head_any (r := OpenLaw.row PySem.Challenge.rw_scanpages_k64_words) (q := view (OpenLaw.row PySem.Challenge.rw_scanpages_k64_words).prog [10]) (H := G.hk) (ob := G.ob) (M := 1060) (loose := G.names) (d := HandSHeadRun.topDef (OpenLaw.row PySem.Challenge.rw_scanpages_k64_words).prog 10) (kwd := []) G.ob_eq
    (by kernel_rfl) (fun s => by kernel_rfl) G.run (by kernel_rfl) (by kernel_rfl) (by kernel_rfl) (by rfl) (by first | assumption | decide +kernel) (by decide +kernel) ⟨rfl, rfl, rfl, rfl, rfl, by decide +kernel⟩ ?hw ?hc
  case hw => w_witness2
  case hc =>
    refine VL.law_end (l := PySem.Challenge.rw_scanpages_k64_words) (n := 63) (k := 3) (x := "_law_script") (f := G.f_law) rfl (by decide) (by kernel_rfl) ⟨rfl, by decide, by decide⟩ G.law_true ?_
    intro w mg fa h Y G0 hm
    obtain ⟨K, KX, c⟩ := Y
    have T := G.txt KX G0 c
    have hl : mg ("law" : PySem.Str) = some (.ref fa) := by
      have e : (HandSHeadRun.topDef (OpenLaw.row PySem.Challenge.rw_scanpages_k64_words).prog 10).name = ("law" : PySem.Str) := by kernel_rfl
      rw [← e]
      exact hm
    have e := hl.symm.trans T.g_law
    cases e
    exact ⟨K, _, KX, fun s u => (L2.FunD.bindsA (ps := ["_law_script"]) T.f_law fun _ _ _ _ _ _ us hl => match us, hl with | [_], _ => rfl) s [u] rfl, fun base _ _ => G.ok_law T⟩

