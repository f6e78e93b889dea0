import PyProof.Rows.All
import Wide.All
import OpenK.AllK
import Wide.FinOn
import HandS.HeadWalk
import HandS.HeadHook4
import HandS.Head2
import HandS.WordsExc
import HandS.ForMost
import HandS.Deep
import HandS.Style
import HandS.Flow
import HandS.WideMore
import HandS.WideBits
import HandS.IsInst
import HandS.Conv
import HandS.TupAny
import HandS.SetFor
import HandS.StrMore
import HandS.NoneIn
import KE.SortData
import KE.GoesEnum
import HandS.Codes
import PySem.Challenge.RW_proofsrun_k13_whole_rules_of_sequents
set_option Elab.async false
set_option linter.all false
set_option maxRecDepth 100000
/-! Pv1: values as trees, owned trees, what stands for them in the abstract heap. -/
namespace Pv
open PySem PySem.Spec PyProof.Rows L2

/-- a value as a tree -/
inductive D where
  | non | bl (b : Bool) | int (i : Int) | str (s : Str)
  | tup (ds : List D) | lst (ds : List D) | dic (ks vs : List D)
  | fn (f : Str) | ty (n : String) | cls (c : Str) | exc (c : Str) (v : D)
deriving Inhabited

/-- a value with what the def owns of it: fz: shared, never changed again -/
inductive U where
  | fz (d : D)
  | ul (us : List U)
  | ut (us : List U)
deriving Inhabited

mutual
def U.d : U → D
  | .fz d => d
  | .ul us => .lst (Us.d us)
  | .ut us => .tup (Us.d us)
def Us.d : List U → List D
  | [] => []
  | u :: us => u.d :: Us.d us
end
theorem Us.d_map (us : List U) : Us.d us = us.map U.d := by
  induction us with
  | nil => simp [Us.d]
  | cons u us ih => simp [Us.d, ih]
def fzs (ds : List D) : List U := ds.map U.fz
theorem fzs_d (ds : List D) : Us.d (fzs ds) = ds := by
  rw [Us.d_map]; unfold fzs; rw [List.map_map]; induction ds with
  | nil => rfl
  | cons d ds ih => simp only [List.map_cons, Function.comp]; rw [ih]; simp [U.d]

/-- what a program's values stand on -/
structure Gx where
  K : PySem.W.Frag
  mg : Str → Option Value

section
variable (G : Gx)
mutual
def Rep (F : Hp) : D → V → Prop
  | .non, v => v = .non
  | .bl b, v => v = .bl b
  | .int i, v => v = .int i
  | .str s, v => v = .str s
  | .tup ds, v => ∃ a vs, v = .ref a ∧ SqT G.K F a vs ∧ Reps F ds vs
  | .lst ds, v => ∃ a vs, v = .ref a ∧ SqL G.K F a vs ∧ Reps F ds vs
  | .dic _ _, _ => False
  | .fn f, v => ∃ a, v = .ref a ∧ G.mg f = some (.ref a)
  | .ty n, v => v = .ty n
  | .cls c, v => ∃ a, v = .ref a ∧ G.mg c = some (.ref a)
  | .exc _ _, _ => False
def Reps (F : Hp) : List D → List V → Prop
  | [], vs => vs = []
  | d :: ds, vs => ∃ v r, vs = v :: r ∧ Rep F d v ∧ Reps F ds r
end

/-- F is a part of H -/
def Sub (F H : Hp) : Prop := ∀ a o, F a = some o → H a = some o
variable {G}
theorem Sub.refl (F : Hp) : Sub F F := fun _ _ h => h
theorem Sub.trans {F H I : Hp} (a : Sub F H) (b : Sub H I) : Sub F I := fun x o h => b x o (a x o h)
theorem Sub.upd {F : Hp} {p : Addr} {o : HO} (h : F p = none) : Sub F (upd F p o) := fun a u e => by
  rw [upd_ne (ne_of_none e h)]; exact e
theorem Sub.rd {F H : Hp} {a : Addr} {u : HO} (e : Sub F H) (h : Rd F a u) : Rd H a u := by
  rcases h with h | ⟨o, h⟩
  · exact .inl (e a _ h)
  · exact .inr ⟨o, e a _ h⟩
theorem Sub.sqL {K : PySem.W.Frag} {F H : Hp} {a : Addr} {xs : List V} (e : Sub F H) (h : SqL K F a xs) : SqL K H a xs := by
  rcases h with h | h
  · exact .inl (e.rd h)
  · exact .inr h
theorem Sub.sqT {K : PySem.W.Frag} {F H : Hp} {a : Addr} {xs : List V} (e : Sub F H) (h : SqT K F a xs) : SqT K H a xs := by
  rcases h with h | h
  · exact .inl (e.rd h)
  · exact .inr h

mutual
theorem Rep.mono {F H : Hp} (e : Sub F H) : ∀ {d : D} {v : V}, Rep G F d v → Rep G H d v
  | .non, _, h | .bl _, _, h | .int _, _, h | .str _, _, h | .ty _, _, h => by simpa [Rep] using h
  | .fn _, _, h | .cls _, _, h => by simpa [Rep] using h
  | .dic _ _, _, h | .exc _ _, _, h => by simp [Rep] at h
  | .tup ds, v, h => by
    simp only [Rep] at h ⊢
    obtain ⟨a, vs, e1, e2, e3⟩ := h
    exact ⟨a, vs, e1, e.sqT e2, Reps.mono e e3⟩
  | .lst ds, v, h => by
    simp only [Rep] at h ⊢
    obtain ⟨a, vs, e1, e2, e3⟩ := h
    exact ⟨a, vs, e1, e.sqL e2, Reps.mono e e3⟩
theorem Reps.mono {F H : Hp} (e : Sub F H) : ∀ {ds : List D} {vs : List V}, Reps G F ds vs → Reps G H ds vs
  | [], _, h => by simpa [Reps] using h
  | d :: ds, _, h => by
    simp only [Reps] at h ⊢
    obtain ⟨v, r, e1, e2, e3⟩ := h
    exact ⟨v, r, e1, Rep.mono e e2, Reps.mono e e3⟩
end
theorem Reps.length {F : Hp} : ∀ {ds : List D} {vs : List V}, Reps G F ds vs → vs.length = ds.length
  | [], _, h => by simp [Reps] at h; subst h; rfl
  | d :: ds, _, h => by
    simp only [Reps] at h
    obtain ⟨v, r, rfl, _, e3⟩ := h
    simp [Reps.length e3]
theorem Reps.nil {F : Hp} : Reps G F [] [] := by simp [Reps]
theorem Reps.cons {F : Hp} {d : D} {ds : List D} {v : V} {vs : List V} (a : Rep G F d v) (b : Reps G F ds vs) : Reps G F (d :: ds) (v :: vs) := by
  simp only [Reps]; exact ⟨v, vs, rfl, a, b⟩
theorem Reps.nil_inv {F : Hp} {vs : List V} (h : Reps G F [] vs) : vs = [] := by simpa [Reps] using h
theorem Reps.cons_inv {F : Hp} {d : D} {ds : List D} {vs : List V} (h : Reps G F (d :: ds) vs) : ∃ v r, vs = v :: r ∧ Rep G F d v ∧ Reps G F ds r := by
  simpa [Reps] using h
theorem Reps.append {F : Hp} : ∀ {ds es : List D} {vs ws : List V}, Reps G F ds vs → Reps G F es ws → Reps G F (ds ++ es) (vs ++ ws)
  | [], _, _, _, h, k => by have := h.nil_inv; subst this; exact k
  | d :: ds, es, vs, ws, h, k => by
    obtain ⟨v, r, rfl, h1, h2⟩ := h.cons_inv
    exact Reps.cons h1 (Reps.append h2 k)
theorem Reps.get {F : Hp} : ∀ {ds : List D} {vs : List V} {i : Nat} {d : D}, Reps G F ds vs → ds[i]? = some d → ∃ v, vs[i]? = some v ∧ Rep G F d v
  | [], _, _, _, _, e => by simp at e
  | d :: ds, _, 0, _, h, e => by
    obtain ⟨v, r, rfl, h1, _⟩ := h.cons_inv
    simp at e; subst e
    exact ⟨v, by simp, h1⟩
  | d :: ds, _, i + 1, _, h, e => by
    obtain ⟨v, r, rfl, _, h2⟩ := h.cons_inv
    obtain ⟨w, e1, e2⟩ := Reps.get (i := i) h2 (by simpa using e)
    exact ⟨w, by simpa using e1, e2⟩
theorem Reps.get' {F : Hp} {ds : List D} {vs : List V} {i : Nat} {v : V} (h : Reps G F ds vs) (e : vs[i]? = some v) : ∃ d, ds[i]? = some d ∧ Rep G F d v := by
  have hl := h.length
  have hi : i < vs.length := (List.getElem?_eq_some_iff.mp e).1
  obtain ⟨w, e1, e2⟩ := h.get (d := ds[i]'(by omega)) (List.getElem?_eq_getElem (by omega))
  rw [e] at e1; cases e1
  exact ⟨_, List.getElem?_eq_getElem (by omega), e2⟩
theorem Reps.take {F : Hp} : ∀ (n : Nat) {ds : List D} {vs : List V}, Reps G F ds vs → Reps G F (ds.take n) (vs.take n)
  | 0, _, _, _ => by simp only [List.take_zero]; exact Reps.nil
  | n + 1, [], _, h => by have := h.nil_inv; subst this; simp only [List.take_nil]; exact Reps.nil
  | n + 1, d :: ds, _, h => by
    obtain ⟨v, r, rfl, h1, h2⟩ := h.cons_inv
    simp only [List.take_succ_cons]
    exact Reps.cons h1 (Reps.take n h2)
theorem Reps.drop {F : Hp} : ∀ (n : Nat) {ds : List D} {vs : List V}, Reps G F ds vs → Reps G F (ds.drop n) (vs.drop n)
  | 0, _, _, h => by simpa using h
  | n + 1, [], _, h => by have := h.nil_inv; subst this; simp only [List.drop_nil]; exact Reps.nil
  | n + 1, d :: ds, _, h => by
    obtain ⟨v, r, rfl, h1, h2⟩ := h.cons_inv
    simp only [List.drop_succ_cons]
    exact Reps.drop n h2
theorem Reps.reverse {F : Hp} : ∀ {ds : List D} {vs : List V}, Reps G F ds vs → Reps G F ds.reverse vs.reverse
  | [], _, h => by have := h.nil_inv; subst this; simp only [List.reverse_nil]; exact Reps.nil
  | d :: ds, _, h => by
    obtain ⟨v, r, rfl, h1, h2⟩ := h.cons_inv
    simp only [List.reverse_cons]
    exact Reps.append (Reps.reverse h2) (Reps.cons h1 Reps.nil)

/-! ### owned trees -/
section
variable (G)
mutual
def RepU (F H : Hp) : U → V → List Addr → Prop
  | .fz d, v, ps => ps = [] ∧ Rep G F d v
  | .ul us, v, ps => ∃ p vs qs, v = .ref p ∧ ps = p :: qs ∧ H p = some (.lst vs) ∧ F p = none ∧ RepUs F H us vs qs
  | .ut us, v, ps => ∃ a vs, v = .ref a ∧ F a = some (.tup vs) ∧ RepUs F H us vs ps
def RepUs (F H : Hp) : List U → List V → List Addr → Prop
  | [], vs, ps => vs = [] ∧ ps = []
  | u :: us, vs, ps => ∃ v r p q, vs = v :: r ∧ ps = p ++ q ∧ RepU F H u v p ∧ RepUs F H us r q
end
end
theorem RepUs.length {F H : Hp} : ∀ {us : List U} {vs : List V} {ps : List Addr}, RepUs G F H us vs ps → vs.length = us.length
  | [], _, _, h => by simp [RepUs] at h; obtain ⟨rfl, _⟩ := h; rfl
  | u :: us, _, _, h => by
    simp only [RepUs] at h
    obtain ⟨v, r, p, q, rfl, _, _, e⟩ := h
    simp [RepUs.length e]
/-- what is owned is a list of the heap, outside of what is shared -/
def Owns (F H : Hp) (ps : List Addr) : Prop := ∀ p ∈ ps, (∃ vs, H p = some (.lst vs)) ∧ F p = none
mutual
theorem RepU.owns {F H : Hp} : ∀ {u : U} {v : V} {ps : List Addr}, RepU G F H u v ps → Owns F H ps
  | .fz d, _, _, h => by simp only [RepU] at h; obtain ⟨rfl, _⟩ := h; intro p hp; simp at hp
  | .ul us, _, _, h => by
    simp only [RepU] at h
    obtain ⟨p, vs, qs, rfl, rfl, h1, h2, h3⟩ := h
    intro x hx
    rcases List.mem_cons.mp hx with rfl | hx
    · exact ⟨⟨_, h1⟩, h2⟩
    · exact RepUs.owns h3 x hx
  | .ut us, _, _, h => by
    simp only [RepU] at h
    obtain ⟨a, vs, rfl, _, h3⟩ := h
    exact RepUs.owns h3
theorem RepUs.owns {F H : Hp} : ∀ {us : List U} {vs : List V} {ps : List Addr}, RepUs G F H us vs ps → Owns F H ps
  | [], _, _, h => by simp only [RepUs] at h; obtain ⟨_, rfl⟩ := h; intro p hp; simp at hp
  | u :: us, _, _, h => by
    simp only [RepUs] at h
    obtain ⟨v, r, p, q, rfl, rfl, h1, h2⟩ := h
    intro x hx
    rcases List.mem_append.mp hx with hx | hx
    · exact RepU.owns h1 x hx
    · exact RepUs.owns h2 x hx
end
mutual
theorem RepU.mono {F H F' H' : Hp} (sf : Sub F F') : ∀ {u : U} {v : V} {ps : List Addr}, (∀ p ∈ ps, F' p = none ∧ ∀ o, H p = some o → H' p = some o) → RepU G F H u v ps → RepU G F' H' u v ps
  | .fz d, _, _, _, h => by simp only [RepU] at h ⊢; exact ⟨h.1, h.2.mono sf⟩
  | .ul us, _, _, k, h => by
    simp only [RepU] at h ⊢
    obtain ⟨p, vs, qs, rfl, rfl, h1, h2, h3⟩ := h
    exact ⟨p, vs, qs, rfl, rfl, (k p (by simp)).2 _ h1, (k p (by simp)).1, RepUs.mono sf (fun x hx => k x (by simp [hx])) h3⟩
  | .ut us, _, _, k, h => by
    simp only [RepU] at h ⊢
    obtain ⟨a, vs, rfl, h1, h3⟩ := h
    exact ⟨a, vs, rfl, sf _ _ h1, RepUs.mono sf k h3⟩
theorem RepUs.mono {F H F' H' : Hp} (sf : Sub F F') : ∀ {us : List U} {vs : List V} {ps : List Addr}, (∀ p ∈ ps, F' p = none ∧ ∀ o, H p = some o → H' p = some o) → RepUs G F H us vs ps → RepUs G F' H' us vs ps
  | [], _, _, _, h => by simpa [RepUs] using h
  | u :: us, _, _, k, h => by
    simp only [RepUs] at h ⊢
    obtain ⟨v, r, p, q, rfl, rfl, h1, h2⟩ := h
    exact ⟨v, r, p, q, rfl, rfl, RepU.mono sf (fun x hx => k x (by simp [hx])) h1, RepUs.mono sf (fun x hx => k x (by simp [hx])) h2⟩
end
/-- what is owned becomes shared -/
def addF (F H : Hp) (ps : List Addr) : Hp := fun a => if a ∈ ps then H a else F a
theorem addF_in {F H : Hp} {ps : List Addr} {a : Addr} (h : a ∈ ps) : addF F H ps a = H a := by unfold addF; rw [if_pos h]
theorem addF_out {F H : Hp} {ps : List Addr} {a : Addr} (h : a ∉ ps) : addF F H ps a = F a := by unfold addF; rw [if_neg h]
theorem addF_sub {F H : Hp} {ps : List Addr} (ow : ∀ p ∈ ps, F p = none) : Sub F (addF F H ps) := fun a o e => by
  by_cases h : a ∈ ps
  · rw [ow a h] at e; cases e
  · rw [addF_out h]; exact e
theorem addF_le {F H : Hp} {ps : List Addr} (s : Sub F H) : Sub (addF F H ps) H := fun a o e => by
  by_cases h : a ∈ ps
  · rw [addF_in h] at e; exact e
  · rw [addF_out h] at e; exact s a o e
mutual
theorem RepU.freeze {F H F' : Hp} (sf : Sub F F') : ∀ {u : U} {v : V} {ps : List Addr}, (∀ p ∈ ps, ∀ o, H p = some o → F' p = some o) → RepU G F H u v ps → Rep G F' u.d v
  | .fz d, _, _, _, h => by simp only [RepU, U.d] at h ⊢; exact h.2.mono sf
  | .ul us, _, _, k, h => by
    simp only [RepU, U.d, Rep] at h ⊢
    obtain ⟨p, vs, qs, rfl, rfl, h1, h2, h3⟩ := h
    exact ⟨p, vs, rfl, .inl (.inl (k p (by simp) _ h1)), RepUs.freeze sf (fun x hx => k x (by simp [hx])) h3⟩
  | .ut us, _, _, k, h => by
    simp only [RepU, U.d, Rep] at h ⊢
    obtain ⟨a, vs, rfl, h1, h3⟩ := h
    exact ⟨a, vs, rfl, .inl (.inl (sf _ _ h1)), RepUs.freeze sf k h3⟩
theorem RepUs.freeze {F H F' : Hp} (sf : Sub F F') : ∀ {us : List U} {vs : List V} {ps : List Addr}, (∀ p ∈ ps, ∀ o, H p = some o → F' p = some o) → RepUs G F H us vs ps → Reps G F' (Us.d us) vs
  | [], _, _, _, h => by simp only [RepUs, Us.d, Reps] at h ⊢; exact h.1
  | u :: us, _, _, k, h => by
    simp only [RepUs, Us.d, Reps] at h ⊢
    obtain ⟨v, r, p, q, rfl, rfl, h1, h2⟩ := h
    exact ⟨v, r, rfl, RepU.freeze sf (fun x hx => k x (by simp [hx])) h1, RepUs.freeze sf (fun x hx => k x (by simp [hx])) h2⟩
end
theorem RepUs.fzs {F H : Hp} : ∀ {ds : List D} {vs : List V}, Reps G F ds vs → RepUs G F H (fzs ds) vs []
  | [], _, h => by have := h.nil_inv; subst this; simp [Pv.fzs, RepUs]
  | d :: ds, _, h => by
    obtain ⟨v, r, rfl, h1, h2⟩ := h.cons_inv
    have := RepUs.fzs (H := H) h2
    simp only [Pv.fzs, List.map_cons, RepUs] at this ⊢
    exact ⟨v, r, [], [], rfl, rfl, by simp only [RepU, true_and]; exact h1, this⟩

/-! ### the names' values -/
abbrev Env := List (Option U)
section
variable (G)
def RepE (F H : Hp) : Env → L2.St → List Addr → Prop
  | [], σ, os => σ = [] ∧ os = []
  | none :: ρ, σ, os => ∃ x r, σ = x :: r ∧ RepE F H ρ r os
  | some u :: ρ, σ, os => ∃ v r p q, σ = some v :: r ∧ os = p ++ q ∧ RepU G F H u v p ∧ RepE F H ρ r q
structure Inv2 (F H : Hp) (ρ : Env) (σ : L2.St) (os : List Addr) : Prop where
  sub : Sub F H
  env : RepE G F H ρ σ os
  nd : os.Nodup
end
theorem RepE.owns {F H : Hp} : ∀ {ρ : Env} {σ : L2.St} {os : List Addr}, RepE G F H ρ σ os → Owns F H os
  | [], _, _, h => by simp only [RepE] at h; obtain ⟨_, rfl⟩ := h; intro p hp; simp at hp
  | none :: ρ, _, _, h => by
    simp only [RepE] at h
    obtain ⟨x, r, rfl, h⟩ := h
    exact RepE.owns h
  | some u :: ρ, _, _, h => by
    simp only [RepE] at h
    obtain ⟨v, r, p, q, rfl, rfl, h1, h2⟩ := h
    intro x hx
    rcases List.mem_append.mp hx with hx | hx
    · exact h1.owns x hx
    · exact RepE.owns h2 x hx
theorem RepE.length {F H : Hp} : ∀ {ρ : Env} {σ : L2.St} {os : List Addr}, RepE G F H ρ σ os → σ.length = ρ.length
  | [], _, _, h => by simp only [RepE] at h; obtain ⟨rfl, _⟩ := h; rfl
  | none :: ρ, _, _, h => by
    simp only [RepE] at h
    obtain ⟨x, r, rfl, h⟩ := h
    simp [RepE.length h]
  | some u :: ρ, _, _, h => by
    simp only [RepE] at h
    obtain ⟨v, r, p, q, rfl, rfl, h1, h2⟩ := h
    simp [RepE.length h2]
theorem RepE.mono {F H F' H' : Hp} (sf : Sub F F') : ∀ {ρ : Env} {σ : L2.St} {os : List Addr}, (∀ p ∈ os, F' p = none ∧ ∀ o, H p = some o → H' p = some o) → RepE G F H ρ σ os → RepE G F' H' ρ σ os
  | [], _, _, _, h => by simpa [RepE] using h
  | none :: ρ, _, _, k, h => by
    simp only [RepE] at h ⊢
    obtain ⟨x, r, rfl, h⟩ := h
    exact ⟨x, r, rfl, RepE.mono sf k h⟩
  | some u :: ρ, _, _, k, h => by
    simp only [RepE] at h ⊢
    obtain ⟨v, r, p, q, rfl, rfl, h1, h2⟩ := h
    exact ⟨v, r, p, q, rfl, rfl, h1.mono sf (fun x hx => k x (by simp [hx])), RepE.mono sf (fun x hx => k x (by simp [hx])) h2⟩
/-- one slot taken out: the others' addresses are l ++ r -/
theorem RepE.split {F H : Hp} : ∀ {ρ : Env} {σ : L2.St} {os : List Addr} {i : Nat} {u : U}, RepE G F H ρ σ os → ρ[i]? = some (some u) →
    ∃ v l p r, σ[i]? = some (some v) ∧ os = l ++ (p ++ r) ∧ RepU G F H u v p ∧ RepE G F H (ρ.set i none) σ (l ++ r) ∧
      ∀ {F' H' : Hp} {u' : U} {v' : V} {p' : List Addr}, Sub F F' → (∀ a ∈ l ++ r, F' a = none ∧ ∀ o, H a = some o → H' a = some o) → RepU G F' H' u' v' p' →
        RepE G F' H' (ρ.set i (some u')) (σ.set i (some v')) (l ++ (p' ++ r))
  | [], _, _, _, _, _, e => by simp at e
  | none :: ρ, _, _, 0, _, _, e => by simp at e
  | some w :: ρ, _, _, 0, u, h, e => by
    simp only [RepE] at h
    obtain ⟨v, r, p, q, rfl, rfl, h1, h2⟩ := h
    simp at e; subst e
    refine ⟨v, [], p, q, by simp, by simp, h1, ?_, fun sf k h3 => ?_⟩
    · simp only [List.set_cons_zero, List.nil_append, RepE]
      exact ⟨_, _, rfl, h2⟩
    · simp only [List.set_cons_zero, List.nil_append, RepE]
      exact ⟨_, _, _, _, rfl, rfl, h3, h2.mono sf (by simpa using k)⟩
  | none :: ρ, _, _, i + 1, u, h, e => by
    simp only [RepE] at h
    obtain ⟨x, r, rfl, h⟩ := h
    obtain ⟨v, l, p, q, e1, e2, e3, e4, e5⟩ := RepE.split (i := i) h (by simpa using e)
    refine ⟨v, l, p, q, by simpa using e1, e2, e3, ?_, fun sf k h3 => ?_⟩
    · simp only [List.set_cons_succ, RepE]; exact ⟨_, _, rfl, e4⟩
    · simp only [List.set_cons_succ, RepE]; exact ⟨_, _, rfl, e5 sf k h3⟩
  | some w :: ρ, _, _, i + 1, u, h, e => by
    simp only [RepE] at h
    obtain ⟨x, r, p0, q0, rfl, rfl, h1, h⟩ := h
    obtain ⟨v, l, p, q, e1, e2, e3, e4, e5⟩ := RepE.split (i := i) h (by simpa using e)
    subst e2
    refine ⟨v, p0 ++ l, p, q, by simpa using e1, by simp, e3, ?_, fun sf k h3 => ?_⟩
    · simp only [List.set_cons_succ, RepE]; exact ⟨_, _, _, _, rfl, by simp, h1, e4⟩
    · simp only [List.set_cons_succ, RepE]
      refine ⟨_, _, p0, _, rfl, by simp, h1.mono sf (fun a ha => k a (by simp [ha])), e5 sf (fun a ha => k a ?_) h3⟩
      rcases List.mem_append.mp ha with ha | ha <;> simp [ha]
/-- a slot that holds nothing known is filled -/
theorem RepE.fill {F H : Hp} : ∀ {ρ : Env} {σ : L2.St} {os : List Addr} {i : Nat} {u : U} {v : V} {p : List Addr}, RepE G F H ρ σ os → ρ[i]? = some none → RepU G F H u v p →
    ∃ l r, os = l ++ r ∧ RepE G F H (ρ.set i (some u)) (σ.set i (some v)) (l ++ (p ++ r))
  | [], _, _, _, _, _, _, _, e, _ => by simp at e
  | some w :: ρ, _, _, 0, _, _, _, _, e, _ => by simp at e
  | none :: ρ, _, os, 0, u, v, p, h, e, hu => by
    simp only [RepE] at h
    obtain ⟨x, r, rfl, h⟩ := h
    refine ⟨[], os, rfl, ?_⟩
    simp only [List.set_cons_zero, List.nil_append, RepE]
    exact ⟨_, _, _, _, rfl, rfl, hu, h⟩
  | none :: ρ, _, _, i + 1, u, v, p, h, e, hu => by
    simp only [RepE] at h
    obtain ⟨x, r, rfl, h⟩ := h
    obtain ⟨l, q, e1, e2⟩ := RepE.fill (i := i) h (by simpa using e) hu
    exact ⟨l, q, e1, by simp only [List.set_cons_succ, RepE]; exact ⟨_, _, rfl, e2⟩⟩
  | some w :: ρ, _, _, i + 1, u, v, p, h, e, hu => by
    simp only [RepE] at h
    obtain ⟨x, r, p0, q0, rfl, rfl, h1, h⟩ := h
    obtain ⟨l, q, e1, e2⟩ := RepE.fill (i := i) h (by simpa using e) hu
    subst e1
    refine ⟨p0 ++ l, q, by simp, ?_⟩
    simp only [List.set_cons_succ, RepE]
    exact ⟨_, _, p0, _, rfl, by simp, h1, e2⟩

/-! ### what a piece of code may do to the heap -/
structure Step (F H : Hp) (os : List Addr) (F' H' : Hp) (os' : List Addr) : Prop where
  f : Sub F F'
  n : ∀ a, F' a ≠ none → F a ≠ none ∨ a ∈ os ∨ H a = none
  h : ∀ a o, H a = some o → a ∉ os → H' a = some o
  t : ∀ a, H' a = none → H a = none
  o : ∀ a ∈ os', a ∈ os ∨ H a = none
theorem Step.refl {F H : Hp} {os : List Addr} : Step F H os F H os := ⟨Sub.refl F, fun _ h => .inl h, fun _ _ h _ => h, fun _ h => h, fun _ h => .inl h⟩
theorem Step.trans {F H F1 H1 F2 H2 : Hp} {os os1 os2 : List Addr} (a : Step F H os F1 H1 os1) (b : Step F1 H1 os1 F2 H2 os2) : Step F H os F2 H2 os2 where
  f := a.f.trans b.f
  n := fun x hx => by
    rcases b.n x hx with h | h | h
    · exact a.n x h
    · exact .inr (a.o x h)
    · exact .inr (.inr (a.t x h))
  h := fun x o hx hn => by
    refine b.h x o (a.h x o hx hn) fun hm => ?_
    rcases a.o x hm with z | z
    · exact hn z
    · rw [hx] at z; cases z
  t := fun x hx => a.t x (b.t x hx)
  o := fun x hx => by
    rcases b.o x hx with h | h
    · exact a.o x h
    · exact .inr (a.t x h)
/-- fewer are owned at the end; more may be owned at the start -/
theorem Step.weak {F H F' H' : Hp} {os os' qs qs' : List Addr} (s : Step F H os F' H' os') (h1 : ∀ a ∈ os, a ∈ qs) (h2 : ∀ a ∈ qs', a ∈ os' ∨ a ∈ qs) : Step F H qs F' H' qs' :=
  ⟨s.f, fun a h => by rcases s.n a h with z | z | z
                      · exact .inl z
                      · exact .inr (.inl (h1 a z))
                      · exact .inr (.inr z),
   fun a o h n => s.h a o h fun z => n (h1 a z), s.t, fun a h => by
    rcases h2 a h with z | z
    · rcases s.o a z with z | z
      · exact .inl (h1 a z)
      · exact .inr z
    · exact .inl z⟩
/-- what stands outside of the owned stays -/
theorem Step.keepU {F H F' H' : Hp} {os os' : List Addr} (s : Step F H os F' H' os') {u : U} {v : V} {ps : List Addr} (h : RepU G F H u v ps) (d : ∀ p ∈ ps, p ∉ os) : RepU G F' H' u v ps := by
  refine h.mono s.f fun p hp => ⟨?_, fun o e => s.h p o e (d p hp)⟩
  obtain ⟨⟨vs, e1⟩, e2⟩ := h.owns p hp
  cases q : F' p with
  | none => rfl
  | some w =>
    exfalso
    rcases s.n p (by rw [q]; simp) with z | z | z
    · exact z e2
    · exact d p hp z
    · rw [e1] at z; cases z
theorem Step.keepUs {F H F' H' : Hp} {os os' : List Addr} (s : Step F H os F' H' os') {us : List U} {vs : List V} {ps : List Addr} (h : RepUs G F H us vs ps) (d : ∀ p ∈ ps, p ∉ os) : RepUs G F' H' us vs ps := by
  refine h.mono s.f fun p hp => ⟨?_, fun o e => s.h p o e (d p hp)⟩
  obtain ⟨⟨ws, e1⟩, e2⟩ := h.owns p hp
  cases q : F' p with
  | none => rfl
  | some w =>
    exfalso
    rcases s.n p (by rw [q]; simp) with z | z | z
    · exact z e2
    · exact d p hp z
    · rw [e1] at z; cases z
theorem Step.keepE {F H F' H' : Hp} {os os' : List Addr} (s : Step F H os F' H' os') {ρ : Env} {σ : L2.St} {ps : List Addr} (h : RepE G F H ρ σ ps) (d : ∀ p ∈ ps, p ∉ os) : RepE G F' H' ρ σ ps := by
  refine h.mono s.f fun p hp => ⟨?_, fun o e => s.h p o e (d p hp)⟩
  obtain ⟨⟨ws, e1⟩, e2⟩ := h.owns p hp
  cases q : F' p with
  | none => rfl
  | some w =>
    exfalso
    rcases s.n p (by rw [q]; simp) with z | z | z
    · exact z e2
    · exact d p hp z
    · rw [e1] at z; cases z
/-- sharing what is owned is a step -/
theorem Step.share {F H : Hp} {os ps : List Addr} (sub : Sub F H) (ow : Owns F H ps) : Step F H (ps ++ os) (addF F H ps) H os where
  f := addF_sub fun p hp => (ow p hp).2
  n := fun a h => by
    by_cases hm : a ∈ ps
    · exact .inr (.inl (by simp [hm]))
    · rw [addF_out hm] at h; exact .inl h
  h := fun _ _ h _ => h
  t := fun _ h => h
  o := fun a h => .inl (by simp [h])
/-- a new object, shared or owned -/
theorem Step.newF {F H : Hp} {os : List Addr} {p : Addr} {o : HO} (sub : Sub F H) (hp : H p = none) : Step F H os (upd F p o) (upd H p o) os where
  f := Sub.upd (by cases q : F p with
    | none => rfl
    | some u => rw [sub p u q] at hp; cases hp)
  n := fun a h => by
    by_cases e : a = p
    · subst e; exact .inr (.inr hp)
    · rw [upd_ne e] at h; exact .inl h
  h := fun a u e _ => by rw [upd_ne (ne_of_none e hp)]; exact e
  t := fun a h => by
    by_cases e : a = p
    · subst e; exact hp
    · rw [upd_ne e] at h; exact h
  o := fun a h => .inl h
theorem Step.newO {F H : Hp} {os : List Addr} {p : Addr} {o : HO} (hp : H p = none) : Step F H os F (upd H p o) (p :: os) where
  f := Sub.refl F
  n := fun a h => .inl h
  h := fun a u e _ => by rw [upd_ne (ne_of_none e hp)]; exact e
  t := fun a h => by
    by_cases e : a = p
    · subst e; exact hp
    · rw [upd_ne e] at h; exact h
  o := fun a h => by
    rcases List.mem_cons.mp h with rfl | h
    · exact .inr hp
    · exact .inl h
theorem Sub.none {F H : Hp} (s : Sub F H) {a : Addr} (h : H a = .none) : F a = .none := by
  cases q : F a with
  | none => rfl
  | some u => rw [s a u q] at h; cases h
theorem Inv2.step {F H F' H' : Hp} {os os' ps : List Addr} {ρ : Env} {σ : L2.St} (I : Inv2 G F H ρ σ os) (s : Step F H ps F' H' os') (sub : Sub F' H') (d : ∀ p ∈ os, p ∉ ps) : Inv2 G F' H' ρ σ os :=
  ⟨sub, s.keepE I.env d, I.nd⟩
end
end Pv

/-! PvEnum: enumerate over a tuple. -/
namespace Pv
open PySem PySem.Spec PyProof.Rows L2
open Sem (wp)
theorem en1 {v : Value} {o : Obj} {Z : Heap → Prop} (B : Begins v o Z) :
    Meets (Builtin.«enumerate.__new__» ⟨[.type "enumerate", v], []⟩) (fun _ R s => Z s.heap ∧ R (.ok (.ret (.ref (s.heap.push o).objs.size))) { s with heap := (s.heap.push o).push { cls := .type "enumerate", data := .fields #[.none, .bool false, .ref s.heap.objs.size, rawInt 0, .none, .none] } }) :=
  .of_wp fun prog w A R s hz => by
    obtain ⟨h0, g, d, tk, os⟩ := s
    obtain ⟨hb, hz⟩ := hz
    have sb := sub_enumerate
    have it : ∀ {A' : Around} {E : Value → Shared → Prop} {Q : Value → Shared → Prop}, Q (.ref h0.objs.size) ⟨h0.push o, g, d, tk, os⟩ → wpAny (model prog w) A' (pyIter v) Q E ⟨h0, g, d, tk, os⟩ := fun z => B.iter prog w _ _ ⟨h0, g, d, tk, os⟩ _ hb z
    wp_walk using it
    refine wpAny_stack_any fun st => wpAny_pure ?_
    split
    · rename_i c _ _ _ _ _
      cases (c == Value.type "enumerate") <;> (wp_walk using it; exact ⟨_, rfl, hz⟩)
    · wp_walk using it
      exact ⟨_, rfl, hz⟩
section
variable {prog : Program} {w : World} {A : Around} {E : Value → Shared → Prop} {s : Shared}
theorem en_call {v : Value} {o : Obj} {Z : Heap → Prop} {Q : Value → Shared → Prop} (B : Begins v o Z) (hz : Z s.heap)
    (h : ∀ h', IsEnum h' (s.heap.objs.size + 1) s.heap.objs.size 0 .none → h'.get? s.heap.objs.size = some o → (∀ b u, s.heap.get? b = some u → h'.get? b = some u) → Q (.ref (s.heap.objs.size + 1)) { s with heap := h' }) :
    wpAny (model prog w) A (call (.type "enumerate") [v]) Q E s := by
  refine callType_new PySem.F.called_enumerate (by decide) (PySem.F.typeCall_enumerate_1 _) (PySem.F.newCall_enumerate_1 _) (fun obj => PySem.F.args_object_init_2 obj _) PySem.F.entry_enumerate_new (en1 B) ⟨hz, ?_⟩
  have sz : (s.heap.push o).objs.size = s.heap.objs.size + 1 := Heap.size_push ..
  show _ ∧ _
  rw [sz]
  have ee := Heap.get?_push_size (s.heap.push o) (o := { cls := .type "enumerate", data := .fields #[.none, .bool false, .ref s.heap.objs.size, rawInt 0, .none, .none] }) rfl
  rw [sz] at ee
  exact ⟨⟨_, ee, rfl⟩, h _ ee (Heap.get?_push_of_some _ (Heap.get?_push_size _ B.free)) fun b u x => Heap.get?_push_of_some _ (Heap.get?_push_of_some _ x)⟩
end
/-- the tuple at a, each item in a new pair -/
def IteT (K : PySem.W.Frag) (a : Addr) : It :=
  ⟨fun i H => ∃ (xs : List V) (x : V), SqT K H a xs ∧ xs[i]? = some x, fun i H v H' => ∃ T x, v = .ref T ∧ H T = none ∧ H' = upd H T (.tup [.int (i : Nat), x]) ∧ ∀ xs, SqT K H a xs → xs[i]? = some x, fun i H => ∃ xs : List V, SqT K H a xs ∧ xs.length ≤ i⟩
theorem turnT {P : Program} {w : World} {K : PySem.W.Frag} {elts : List Expr} {kk : Nat} {tpos : Pos} (a e it : Addr) :
    Turn P w K (.Tuple elts kk tpos) (IteT K a) [e, it] e (fun i h => (∃ old, IsEnum h e it ((i : Nat) : Int) old) ∧ h.IsTupleIter it a i ∧ e ≠ it) where
  mem := List.mem_cons_self
  obj := fun i h ⟨⟨old, he⟩, ⟨o, ho, hc, hd⟩, _⟩ b hb => by
    simp only [List.mem_cons, List.not_mem_nil, or_false] at hb
    rcases hb with rfl | rfl
    · exact ⟨_, he, fun v q => nomatch q⟩
    · exact ⟨o, ho, fun v q => by rw [hd] at q; cases q⟩
  keep := fun i h h' ⟨⟨old, he⟩, hi, hne⟩ k => ⟨⟨old, k e (by simp) _ he⟩, hi.at fun o q => k it (by simp) o q, hne⟩
  item := by
    intro X hP hw hK hc i pins s σ H E I hf ⟨⟨old, he⟩, hit, hne⟩ ⟨xs, x, hq, hx⟩
    subst hP hw hK
    obtain ⟨its, rv, pt, hz⟩ := I.tuple hq
    obtain ⟨u, hu, ru⟩ := rv.get hx
    have le : e < s.heap.objs.size := Heap.lt_size he
    obtain ⟨oi, hoi, ci, di⟩ := id hit
    have li : it < s.heap.objs.size := Heap.lt_size hoi
    obtain ⟨ot, hot, ct, nt, dt⟩ := id pt
    have nae : e ≠ a := fun z => by
      have he2 := he
      unfold IsEnum at he2
      rw [z, hot] at he2
      cases he2
      simp at ct
    have nai : a ≠ it := fun z => by
      rw [z, hoi] at hot
      cases hot
      rw [ci] at ct
      simp at ct
    have il : i < its.toArray.size := by
      have := (List.getElem?_eq_some_iff.mp hu).1
      simpa using this
    refine wpAny_pyNext_enum_itemD (Draws.tuple (A := X.A.in1) (I.ok.hd hc) it a nai its.toArray) he ⟨hit, pt⟩ il hne (by simp [hne, nae]) fun x' h' tk hx' ho hst hT hsz hk => ?_
    have ex : x' = u := by
      have : its[i]? = some x' := by simpa using hx'
      rw [hu] at this
      exact (Option.some.inj this).symm
    subst ex
    refine ⟨_, rfl, wpAny_letOwnedTupleGo_enum (s := { s with heap := h', toks := tk + 1 }) ho fun h'' he' sb => ?_⟩
    have hT2 := (sb.2 s.heap.objs.size (Nat.ne_of_gt le)).trans hT
    have new : ObjOk X.prog X.w (upd H s.heap.objs.size (.tup [.int (i : Nat), x])) h'' s.heap.objs.size (.tup [.int (i : Nat), x]) :=
      ⟨by show 2 ≤ sizeLine; decide, [.int i tk, x'], .cons ⟨_, rfl⟩ (.cons ru .nil), ⟨_, hT2, rfl, _, rfl⟩⟩
    have I1 : Inv X pins σ (upd H s.heap.objs.size (.tup [.int (i : Nat), x])) { s with heap := h'', toks := tk + 1 } :=
      I.turnedNew (ch := [e, it]) (fun b ob hb q => by
        simp only [List.mem_cons, List.not_mem_nil, or_false, not_or] at hb
        exact (sb.2 b hb.1).trans (hk b ob hb.1 hb.2 q)) hf (Nat.le_refl _) new
    refine ⟨.ref s.heap.objs.size, _, I1, rfl, ⟨_, x, rfl, I.hok.fresh (Nat.le_refl _), rfl, fun ys hy => by rw [I.tuple_inj hy hq]; exact hx⟩, ⟨⟨x', by rw [show ((i + 1 : Nat) : Int) = (i : Int) + 1 by omega]; exact he'⟩, hst.1.at fun o q => (sb.2 it (Ne.symm hne)).trans q, hne⟩, fun b hb => ?_⟩
    have lb : b < s.heap.objs.size := by
      simp only [List.mem_cons, List.not_mem_nil, or_false] at hb
      rcases hb with rfl | rfl
      · exact le
      · exact li
    rw [upd_ne (Nat.ne_of_lt lb)]
    exact (hf b hb).1
  done := by
    intro X hP hw hK hc i pins s σ H E I hf ⟨⟨old, he⟩, hit, hne⟩ ⟨xs, hq, hx⟩
    subst hP hw hK
    obtain ⟨its, rv, pt, hz⟩ := I.tuple hq
    obtain ⟨f0, f1, f2, f3, f4, f5⟩ := hf it (by simp)
    have hn : its.toArray[i]? = none := by
      have := rv.length
      simp only [List.getElem?_toArray]
      exact List.getElem?_eq_none (by omega)
    have ht : s.TypeIs (.ref e) "enumerate" := ⟨_, he, rfl⟩
    unfold pyNext
    refine wpAny_bind (wpAny_attempt (wpAny_callSpecial?_slot (name := Str.ofString "__next__") ht PySem.F.slot_enumerate_next (wpAny_call_entry PySem.F.slot_enumerate_next ht PySem.F.entry_enumerate_next ?_ (PySem.F.args_enumerate_next_1 _))))
    show wpAny _ _ (field (.ref e) 2 >>= _) _ _ _
    refine wpAny_bind (wpAny_field he rfl (x := .ref it) rfl ?_)
    refine wpAny_bind (wpAny_nextOf_tuple_end (A := X.A.in1) (I.ok.hd hc) hit pt hn fun h' x eb ⟨o, ho, hcl⟩ => ?_)
    refine wpAny_bind (wpAny_isInstance (T := "StopIteration") (b := true) ⟨o, ho, hcl⟩ isSubtype_stop ?_)
    exact wpAny_pure ⟨rfl, I.turned (t' := s.toks) (fun b o hb q => eb b o hb q) f0 f1 f3 f4 f5⟩
  self := fun A i s Q E ⟨⟨_, he⟩, _⟩ h => wpAny_pyIter_enum he h
theorem pi_enumT {X : Cx} {e : Expr} {ta : TA} {p pos tpos : Pos} {elts : List Expr} {kk : Nat} (hg : Gl X "enumerate") (hm : X.mg "enumerate" = none) (ha : PA X [e] ta) (hs : starEach [e] X.env = [(false, eval e X.env)]) :
    PI X (.Tuple elts kk tpos) (.Call (.Name "enumerate" p) [e] [] pos) (fun σ H R => ta σ H fun vs H1 => ∃ a xs, vs = [.ref a] ∧ SqT X.K H1 a xs ∧ R (IteT X.K a) H1) := by
  refine ⟨fun pins s σ H R I h => ?_⟩
  refine Call_ (ld_blt I hg hm boot_enumerate (PyProof.Rows.callWith_type1 (thn (ha.run pos pins s σ H _ I h) fun us s1 ⟨vs, H1, I1, r1, a, xs, ex, hq, q⟩ => ?_) hs rfl))
  subst ex
  cases r1 with
  | cons r rr =>
    cases rr
    cases r
    obtain ⟨its, rv, pt, hz⟩ := I1.tuple hq
    refine en_call (begins_tuple a its.toArray) pt fun h' he hit hk => wpAny_pyIter_enum he ?_
    have I2 : Inv X pins σ H1 { s1 with heap := h' } := I1.kept (t' := s1.toks) hk
    refine ⟨s1.heap.objs.size + 1, [s1.heap.objs.size + 1, s1.heap.objs.size], _, _, H1, rfl, I2, turnT a (s1.heap.objs.size + 1) s1.heap.objs.size, ⟨⟨.none, he⟩, ⟨_, hit, rfl, rfl⟩, Nat.succ_ne_self _⟩, fun b hb => ?_, q⟩
    have lb : s1.heap.objs.size ≤ b := by
      simp only [List.mem_cons, List.not_mem_nil, or_false] at hb
      rcases hb with rfl | rfl
      · exact Nat.le_succ _
      · exact Nat.le_refl _
    exact I1.fpOk lb (I1.hok.fresh lb)
end Pv

/-! Pv2: the small language and what it computes. -/
namespace Pv
open PySem PySem.Spec PyProof.Rows L2

/-- the longest list, text that is looked at -/
def LIM : Nat := 1000000
theorem lim_le : LIM ≤ sizeLine := by decide
theorem lim_lt {n : Nat} (h : n < LIM) : n < sizeLine := Nat.lt_of_lt_of_le h lim_le
theorem le_lim {n : Nat} (h : n ≤ LIM) : n ≤ sizeLine := Nat.le_trans h lim_le

def D.scalar : D → Bool
  | .non => true | .bl _ => true | .int _ => true | .str _ => true | .ty _ => true | .fn _ => true | .cls _ => true
  | _ => false
mutual
def U.clean : U → Bool
  | .fz d => d.scalar
  | .ul us => Us.clean us
  | .ut _ => false
def Us.clean : List U → Bool
  | [] => true
  | u :: us => u.clean && Us.clean us
end
mutual
/-- plain data -/
def D.data : D → Option PyData
  | .non => some .none
  | .bl b => some (.bool b)
  | .int i => some (.int i)
  | .str s => some (.str s)
  | .lst ds => (Ds.data ds).map .list
  | .tup ds => (Ds.data ds).map .tuple
  | _ => none
def Ds.data : List D → Option (List PyData)
  | [] => some []
  | d :: ds => match d.data, Ds.data ds with
    | some p, some ps => some (p :: ps)
    | _, _ => none
end
def D.flat : D → Bool
  | .non => true | .bl _ => true | .int _ => true | .str _ => true
  | _ => false
/-- == of flat values -/
def D.feq : D → D → Bool
  | .non, .non => true
  | .bl a, .bl b => a == b
  | .bl a, .int b => (if a then 1 else 0) == b
  | .int a, .bl b => a == (if b then 1 else 0)
  | .int a, .int b => a == b
  | .str a, .str b => a == b
  | _, _ => false
/-- the class of a value, as isinstance asks -/
def D.tyn : D → Option String
  | .non => some "NoneType" | .bl _ => some "bool" | .int _ => some "int" | .str _ => some "str"
  | .tup _ => some "tuple" | .lst _ => some "list"
  | _ => none
def isaT (t c : String) : Bool := t == c || (t == "bool" && c == "int")
def boolU (b : Bool) : U := .fz (.bl b)
def intU (i : Int) : U := .fz (.int i)
def cutD (xs : List D) (lo hi : Option Int) : List D := (xs.drop (HT.sIx xs.length 0 lo)).take (HT.sIx xs.length xs.length hi - HT.sIx xs.length 0 lo)
def isMany : D → Option (List D)
  | .lst ds => some ds
  | .tup ds => some ds
  | _ => none
def tupOf : D → Option (List D)
  | .tup ds => some ds
  | _ => none
def asInt : D → Option Int
  | .int i => some i
  | _ => none
def intsD : List D → Option (List Int)
  | [] => some []
  | d :: ds => match d, intsD ds with
    | .int i, some is => some (i :: is)
    | _, _ => none
def boolsD : List D → Option (List Bool)
  | [] => some []
  | d :: ds => match d, boolsD ds with
    | .bl i, some is => some (i :: is)
    | _, _ => none
def listsD : List D → Option (List (List D))
  | [] => some []
  | d :: ds => match d, listsD ds with
    | .lst i, some is => some (i :: is)
    | _, _ => none

inductive O where
  | add | sub | mul | fdiv | mod | pow | neg
  | eq | ne | lt | le | gt | ge | isin | notin | isN | notN
  | len | int1 | list1 | tup1 | sum1 | sum2 | max1 | max2 | min2 | all1 | any1
  | isa (ts : List String)
  | idx | rev | bitlen | index | rngl | sorted
deriving DecidableEq

def opAdd : D → D → Option U
  | .int i, .int j => some (intU (i + j))
  | .str a, .str b => if a.length + b.length ≤ LIM then some (.fz (.str (a ++ b))) else none
  | .lst a, .lst b => if a.length + b.length ≤ LIM then some (.ul (fzs (a ++ b))) else none
  | .tup a, .tup b => if a.length + b.length ≤ LIM then some (.fz (.tup (a ++ b))) else none
  | _, _ => none
def opMul : D → D → Option U
  | .int i, .int j => if i.natAbs.log2 + j.natAbs.log2 < 1000000 then some (intU (i * j)) else none
  | _, _ => none
def opInt (C : Int → Int → Bool) (f : Int → Int → U) : D → D → Option U
  | .int i, .int j => if C i j then some (f i j) else none
  | _, _ => none
def opEq (f : Bool → Bool) (a b : D) : Option U := match a.data, b.data with
  | some p, some q => if SeqAt.shaped p && SeqAt.shaped q then some (boolU (f (PyData.eqv p q))) else none
  | _, _ => none
def opIn (f : Bool → Bool) : D → D → Option U
  | a, .lst ds => match a.data, Ds.data ds with
    | some p, some qs => if SeqAt.shaped p && SeqAt.shaped (.list qs) then some (boolU (f (qs.any fun z => PyData.eqv z p))) else none
    | _, _ => none
  | a, .tup ds => if a.flat && ds.all D.flat then some (boolU (f (ds.any fun z => D.feq z a))) else none
  | .str x, .str y => some (boolU (f (!(Builtin.Str.occurrences y x 0 y.length 1).isEmpty)))
  | _, _ => none
def opLen : D → Option U
  | .lst ds => some (intU ds.length)
  | .tup ds => some (intU ds.length)
  | .str s => if s.length ≤ LIM then some (intU s.length) else none
  | _ => none
def opIdx : D → D → Option U
  | .lst ds, .int i => (atI ds i).map .fz
  | .tup ds, .int i => (atI ds i).map .fz
  | .str s, .int i => if s.length ≤ LIM then (atI s.cps.toList i).map fun c => .fz (.str ⟨#[c]⟩) else none
  | _, _ => none
def opSlice : D → Option Int → Option Int → Option U
  | .lst ds, lo, hi => some (.ul (fzs (cutD ds lo hi)))
  | .tup ds, lo, hi => some (.fz (.tup (cutD ds lo hi)))
  | _, _, _ => none
def opIsa (ts : List String) (d : D) : Option U := d.tyn.map fun t => boolU (ts.any (isaT t))
def opMaxs : List Int → Option Int
  | [] => none
  | i :: is => some (is.foldl max i)
def rgD (a b : Int) : List D := (List.range (b - a).toNat).map fun i => D.int (a + (i : Nat))
def indexD (p : PyData) : List PyData → Nat → Option Nat
  | [], _ => none
  | q :: qs, n => if PyData.eqv q p then some n else indexD p qs (n + 1)

/-- sorted: what is looked at -/
def encD (d : D) : PyData := d.data.getD .none
def sortableB (ps : List PyData) : Bool := (ps.all fun d => match d with
  | .tuple (_ :: _) => true
  | _ => false) || ps.all fun d => match d with
  | .none => false
  | .tuple _ => false
  | _ => true
def sortOk (ds : List D) : Bool := (ds.all fun d => d.data.isSome && decide ((encD d).depth ≤ 8)) && (ds.all fun a => ds.all fun b => PySem.W.alike (encD a) (encD b)) && sortableB (ds.map encD) && decide (ds.length ≤ LIM)
def opF : O → List D → Option U
  | .add, [a, b] => opAdd a b
  | .sub, [a, b] => opInt (fun _ _ => true) (fun i j => intU (i - j)) a b
  | .mul, [a, b] => opMul a b
  | .fdiv, [a, b] => opInt (fun _ j => decide (0 < j) && decide (j.natAbs.log2 < 9000)) (fun i j => intU (i / j)) a b
  | .mod, [a, b] => opInt (fun _ j => decide (0 < j)) (fun i j => intU (i % j)) a b
  | .pow, [a, b] => opInt (fun i j => decide (0 ≤ j) && decide (j ≤ 1000) && decide (i.natAbs < 2 ^ 1000)) (fun i j => intU (i ^ j.toNat)) a b
  | .neg, [a] => (asInt a).map fun i => intU (-i)
  | .eq, [a, b] => opEq id a b
  | .ne, [a, b] => opEq not a b
  | .lt, [a, b] => opInt (fun _ _ => true) (fun i j => boolU (decide (i < j))) a b
  | .le, [a, b] => opInt (fun _ _ => true) (fun i j => boolU (decide (i ≤ j))) a b
  | .gt, [a, b] => opInt (fun _ _ => true) (fun i j => boolU (decide (j < i))) a b
  | .ge, [a, b] => opInt (fun _ _ => true) (fun i j => boolU (decide (j ≤ i))) a b
  | .isin, [a, b] => opIn id a b
  | .notin, [a, b] => opIn not a b
  | .isN, [.non] => some (boolU true)
  | .isN, [_] => some (boolU false)
  | .notN, [.non] => some (boolU false)
  | .notN, [_] => some (boolU true)
  | .len, [a] => opLen a
  | .int1, [a] => (asInt a).map intU
  | .list1, [a] => (isMany a).map fun ds => .ul (fzs ds)
  | .tup1, [a] => (isMany a).map fun ds => .fz (.tup ds)
  | .sum1, [.lst ds] => (intsD ds).map fun is => intU is.sum
  | .sum2, [.lst ds, .lst []] => (listsD ds).bind fun ls => if ls.flatten.length ≤ LIM then some (.fz (.lst ls.flatten)) else none
  | .max1, [.lst ds] => ((intsD ds).bind opMaxs).map intU
  | .max2, [a, b] => opInt (fun _ _ => true) (fun i j => intU (if j > i then j else i)) a b
  | .min2, [a, b] => opInt (fun _ _ => true) (fun i j => intU (if j < i then j else i)) a b
  | .all1, [.lst ds] => (boolsD ds).map fun bs => boolU (bs.all id)
  | .any1, [.lst ds] => (boolsD ds).map fun bs => boolU (bs.any id)
  | .isa ts, [a] => opIsa ts a
  | .idx, [a, b] => opIdx a b
  | .rev, [.lst ds] => some (.ul (fzs ds.reverse))
  | .bitlen, [a] => (asInt a).map fun i => intU (Builtin.Int.intBits i : Nat)
  | .index, [.lst ds, a] => match a.data, Ds.data ds with
    | some p, some qs => if SeqAt.shaped p && SeqAt.shaped (.list qs) then (indexD p qs 0).map (fun (n : Nat) => intU (Int.ofNat n)) else none
    | _, _ => none
  | .sorted, [.lst ds] => if sortOk ds then some (.ul (fzs (ds.mergeSort (PySem.W.dataLe false encD)))) else none
  | .rngl, [.int j] => if 0 ≤ j ∧ j ≤ LIM then some (.ul (fzs (rgD 0 j))) else none
  | _, _ => none

/-- a target -/
inductive Tg where
  | name (i : Nat)
  | tup (is : List Nat)
/-- what is walked -/
inductive ItK where
  | many | rng1 | rng2 | enum | zip
mutual
inductive E where
  | var (i : Nat) | mv (i : Nat) | cst (d : D) | glob (x : Str) (d : D)
  | op (o : O) (es : Es)
  | tup (es : Es) | lst (es : Es)
  | call (f : Str) (es : Es) (perm : List Nat) | callL (f : Str) (i : Nat) (es : Es)
  | and_ (a b : E) | or_ (a b : E) | not_ (a : E) | ite (c a b : E)
  | chain (o o' : O) (a b c : E)
  | sl (a : E) (lo hi : Es)
  | meth (o : O) (T : String) (a : E) (es : Es)
  | comp (own : List (Str × Nat)) (tg : Tg) (k : ItK) (src : Es) (elt : E) (cond : Es)
  | brw (e : E)
  | app (i : Nat) (e : E) | appP (i : Nat) (path : List Nat) (e : E)
  | pop (i : Nat) | popAt (i : Nat) (e : E) | rem (i : Nat) (e : E)
  | pix (i : Nat) (e : E)
  | bad
inductive Es where
  | nil
  | cons (e : E) (es : Es)
end
mutual
inductive S where
  | set (tg : Tg) (e : E)
  | setIx (i : Nat) (ix : E) (e : E)
  | expr (e : E)
  | ret (e : E)
  | ite (c : E) (a b : Ss)
  | for_ (tg : Tg) (k : ItK) (src : Es) (body : Ss)
  | while_ (c : E) (body : Ss)
  | brk | cont | pass
  | raise (c : Str) (e : E)
  | brw (ws : List Nat) (s : S)
  | bad
inductive Ss where
  | nil
  | cons (s : S) (ss : Ss)
end

inductive R (α : Type) where
  | ok (a : α) (ρ : Env)
  | ex (c : Str) (v : D) (ρ : Env)
  | bad
inductive RS where
  | nx (ρ : Env)
  | rt (u : U) (ρ : Env)
  | bk (ρ : Env)
  | ct (ρ : Env)
  | ex (c : Str) (v : D) (ρ : Env)
  | bad
inductive RC where
  | ok (u : U) (us : List (Option U))
  | ex (c : Str) (v : D) (us : List (Option U))
  | bad

/-- the parts of what is unpacked -/
def tupU : U → Option (List U)
  | .ut us => some us
  | .ul us => some us
  | .fz (.tup ds) => some (fzs ds)
  | .fz (.lst ds) => some (fzs ds)
  | _ => none
def setTg (P : List Nat) : Tg → U → Env → Option Env
  | .name i, u, ρ => if P.contains i then none else if i < ρ.length then some (ρ.set i (some u)) else none
  | .tup is, u, ρ => match tupU u with
    | some us => if us.length = is.length && is.all (fun i => !P.contains i && decide (i < ρ.length)) then some ((is.zip us).foldl (fun ρ p => ρ.set p.1 (some p.2)) ρ) else none
    | none => none
def chrsD (s : Str) : List D := s.cps.toList.map fun c => .str ⟨#[c]⟩
/-- what a for walks -/
def itMany : D → Option (List D)
  | .str s => some (chrsD s)
  | .lst ds => some ds
  | .tup ds => some ds
  | _ => none
def itF : ItK → List D → Option (List D)
  | .many, [a] => itMany a
  | .rng1, [.int j] => if j.natAbs < 2 ^ 62 then some (rgD 0 j) else none
  | .rng2, [.int i, .int j] => if i.natAbs < 2 ^ 62 ∧ j.natAbs < 2 ^ 62 then some (rgD i j) else none
  | .enum, [.lst ds] => some (ds.zipIdx.map fun p => .tup [.int p.2, p.1])
  | .enum, [.tup ds] => some (ds.zipIdx.map fun p => .tup [.int p.2, p.1])
  | .zip, [.lst ds, .lst es] => some ((ds.zip es).map fun p => .tup [p.1, p.2])
  | _, _ => none
def mkT (us : List U) : U := if us.all fun u => match u with | .fz _ => true | _ => false then .fz (.tup (Us.d us)) else .ut us
def frzE (ρ : Env) : Env := ρ.map fun o => o.map fun u => .fz u.d
/-- a slice's part -/
def partOf : List U → Option (Option Int)
  | [] => some none
  | [.fz (.int i)] => some (some i)
  | _ => none
def asUl : U → Option (List U)
  | .ul us => some us
  | _ => none
def getU : List Nat → U → Option U
  | [], u => some u
  | n :: p, .ul us => match us[n]? with
    | some u => getU p u
    | none => none
  | n :: p, .ut us => match us[n]? with
    | some u => getU p u
    | none => none
  | _, _ => none
def isUl : U → Bool
  | .ul _ => true
  | _ => false
def hasAt (ρ : Env) (i : Nat) : Bool := match ρ[i]? with
  | some (some _) => true
  | _ => false
/-- an own list stands at the path -/
def ownAt (ρ : Env) (i : Nat) (path : List Nat) : Bool := match ρ[i]? with
  | some (some w) => (match getU path w with
    | some u => isUl u
    | none => false)
  | _ => false
/-- the list at a path is changed -/
def modU (f : List U → Option (List U)) : List Nat → U → Option U
  | [], .ul us => (f us).map .ul
  | n :: path, .ul us => match us[n]? with
    | some u => (modU f path u).map fun u' => .ul (us.set n u')
    | none => none
  | n :: path, .ut us => match us[n]? with
    | some u => (modU f path u).map fun u' => .ut (us.set n u')
    | none => none
  | _, _ => none
def Tg.slots : Tg → List Nat
  | .name i => [i]
  | .tup is => is
/-- the slots hold nothing of the def's own -/
def hidOk (ρ : Env) (vs : List Nat) : Bool := vs.all fun v => decide (v < ρ.length) && match ρ[v]? with
  | some (some (.ul _)) => false
  | some (some (.ut _)) => false
  | _ => true
def wipeE (ρ : Env) : List Nat → Env
  | [] => ρ
  | v :: vs => (wipeE ρ vs).set v none
/-- slots taken back from another env -/
def backE (ρ0 : Env) (ρ : Env) : List Nat → Env
  | [] => ρ
  | v :: vs => (backE ρ0 ρ vs).set v ((ρ0[v]?).join)
/-- what stays of a slot that was set while the rest was lent -/
def scalO : Option U → Option U
  | some (.fz d) => if d.scalar then some (.fz d) else none
  | _ => none
def mixE : (Nat → Bool) → Env → Env → Env
  | f, o :: ρ, o1 :: ρ1 => (if f 0 then scalO o1 else o) :: mixE (fun j => f (j + 1)) ρ ρ1
  | _, _, _ => []
/-- the slots that may not be set -/
def brwP (P ws : List Nat) (n : Nat) : List Nat := P ++ (List.range n).filter fun j => !ws.contains j
def putB : Es → List (Option U) → Env → Option Env
  | .cons (.mv i) es, some u :: us, ρ => match ρ[i]? with
    | some none => putB es us (ρ.set i (some u))
    | _ => none
  | .cons (.mv _) es, none :: us, ρ => putB es us ρ
  | .cons _ es, _ :: us, ρ => putB es us ρ
  | .nil, _, ρ => some ρ
  | _, [], _ => none
def permU (perm : List Nat) (us : List U) : Option (List U) := perm.mapM fun i => us[i]?
def Es.anyMv : Es → Bool
  | .nil => false
  | .cons (.mv _) _ => true
  | .cons _ es => es.anyMv

/-- a comprehension's turns: c the tests, e the element; the own names are forgotten ahead of each -/
def evComp (P : List Nat) (tg : Tg) (own : List Nat) (c : Env → R (List U)) (e : Env → R U) : List D → Env → List U → R (List U)
  | [], ρ, acc => .ok acc ρ
  | d :: ds, ρ, acc => match setTg P tg (.fz d) ρ with
    | none => .bad
    | some ρ1 => match c ρ1 with
      | .ok cs ρ2 => match (Us.d cs) with
        | [] => (match e ρ2 with
          | .ok u ρ3 => if acc.length < LIM then evComp P tg own c e ds (wipeE ρ3 own) (acc ++ [u]) else .bad
          | _ => .bad)
        | [.bl true] => (match e ρ2 with
          | .ok u ρ3 => if acc.length < LIM then evComp P tg own c e ds (wipeE ρ3 own) (acc ++ [u]) else .bad
          | _ => .bad)
        | [.bl false] => evComp P tg own c e ds (wipeE ρ2 own) acc
        | _ => .bad
      | _ => .bad
def evFor (P : List Nat) (tg : Tg) (b : Env → RS) : List D → Env → RS
  | [], ρ => .nx ρ
  | d :: ds, ρ => match setTg P tg (.fz d) ρ with
    | none => .bad
    | some ρ1 => match b ρ1 with
      | .nx ρ2 => evFor P tg b ds ρ2
      | .ct ρ2 => evFor P tg b ds ρ2
      | .bk ρ2 => .nx ρ2
      | r => r
def evWhile (c : Env → R U) (b : Env → RS) : Nat → Env → RS
  | 0, _ => .bad
  | n + 1, ρ => match c ρ with
    | .ok (.fz (.bl true)) ρ1 => (match b ρ1 with
      | .nx ρ2 => evWhile c b n ρ2
      | .ct ρ2 => evWhile c b n ρ2
      | .bk ρ2 => .nx ρ2
      | r => r)
    | .ok (.fz (.bl false)) ρ1 => .nx ρ1
    | .ex x v ρ1 => .ex x v ρ1
    | _ => .bad
/-- the turns that a while may take -/
def FUEL : Nat := 1000000

section
variable (cl : Str → List U → RC) (P : List Nat)
mutual
def evE : E → Env → R U
  | .var i, ρ => match ρ[i]? with
    | some (some u) => .ok (.fz u.d) (ρ.set i (some (.fz u.d)))
    | _ => .bad
  | .mv i, ρ => match ρ[i]? with
    | some (some u) => .ok u (ρ.set i none)
    | _ => .bad
  | .cst d, ρ => if d.scalar then .ok (.fz d) ρ else .bad
  | .glob _ d, ρ => .ok (.fz d) ρ
  | .op o es, ρ => match evEs es ρ with
    | .ok us ρ1 => (match opF o (Us.d us) with
      | some u => .ok u ρ1
      | none => .bad)
    | .ex c v ρ1 => .ex c v ρ1
    | .bad => .bad
  | .tup es, ρ => match evEs es ρ with
    | .ok us ρ1 => if us.length ≤ LIM then .ok (mkT us) ρ1 else .bad
    | .ex c v ρ1 => .ex c v ρ1
    | .bad => .bad
  | .lst es, ρ => match evEs es ρ with
    | .ok us ρ1 => if us.length ≤ LIM then .ok (.ul us) ρ1 else .bad
    | .ex c v ρ1 => .ex c v ρ1
    | .bad => .bad
  | .call f es perm, ρ => match evEs es ρ with
    | .ok us ρ1 => (match perm with
      | [] => (match cl f us with
        | .ok u os => (match putB es os ρ1 with
          | some ρ2 => .ok u ρ2
          | none => .bad)
        | .ex c v os => (match putB es os ρ1 with
          | some ρ2 => .ex c v ρ2
          | none => .bad)
        | .bad => .bad)
      | p :: perm => (match es.anyMv, permU (p :: perm) (fzs (Us.d us)) with
        | false, some us2 => (match cl f us2 with
          | .ok u _ => .ok u ρ1
          | .ex c v _ => .ex c v ρ1
          | .bad => .bad)
        | _, _ => .bad))
    | .ex c v ρ1 => .ex c v ρ1
    | .bad => .bad
  | .callL f i es, ρ => if hasAt ρ i then (match evEs es ρ with
    | .ok us ρ1 => (match ρ1[i]? with
      | some (some u0) => (match cl f (u0 :: us) with
        | .ok u os => (match putB (.cons (.mv i) es) os (ρ1.set i none) with
          | some ρ2 => .ok u ρ2
          | none => .bad)
        | .ex c v os => (match putB (.cons (.mv i) es) os (ρ1.set i none) with
          | some ρ2 => .ex c v ρ2
          | none => .bad)
        | .bad => .bad)
      | _ => .bad)
    | .ex c v ρ1 => .ex c v ρ1
    | .bad => .bad) else .bad
  | .and_ a b, ρ => match evE a ρ with
    | .ok (.fz (.bl true)) ρ1 => evE b ρ1
    | .ok (.fz (.bl false)) ρ1 => .ok (boolU false) ρ1
    | .ex c v ρ1 => .ex c v ρ1
    | _ => .bad
  | .or_ a b, ρ => match evE a ρ with
    | .ok (.fz (.bl true)) ρ1 => .ok (boolU true) ρ1
    | .ok (.fz (.bl false)) ρ1 => evE b ρ1
    | .ex c v ρ1 => .ex c v ρ1
    | _ => .bad
  | .not_ a, ρ => match evE a ρ with
    | .ok (.fz (.bl b)) ρ1 => .ok (boolU (!b)) ρ1
    | .ex c v ρ1 => .ex c v ρ1
    | _ => .bad
  | .ite c a b, ρ => match evE c ρ with
    | .ok (.fz (.bl true)) ρ1 => evE a ρ1
    | .ok (.fz (.bl false)) ρ1 => evE b ρ1
    | .ex c v ρ1 => .ex c v ρ1
    | _ => .bad
  | .meth o T a es, ρ => match evE a ρ with
    | .ok u ρ1 => if u.d.tyn = some T then (match evEs es ρ1 with
      | .ok us ρ2 => (match opF o (u.d :: Us.d us) with
        | some w => .ok w ρ2
        | none => .bad)
      | .ex x v ρ2 => .ex x v ρ2
      | .bad => .bad) else .bad
    | .ex x v ρ1 => .ex x v ρ1
    | .bad => .bad
  | .sl a lo hi, ρ => match evE a ρ with
    | .ok u ρ1 => (match evEs lo ρ1 with
      | .ok ls ρ2 => (match partOf ls with
        | some l => (match evEs hi ρ2 with
          | .ok hs ρ3 => (match partOf hs with
            | some h => (match opSlice u.d l h with
              | some w => .ok w ρ3
              | none => .bad)
            | none => .bad)
          | .ex x v ρ3 => .ex x v ρ3
          | .bad => .bad)
        | none => .bad)
      | .ex x v ρ2 => .ex x v ρ2
      | .bad => .bad)
    | .ex x v ρ1 => .ex x v ρ1
    | .bad => .bad
  | .chain o o' a b c, ρ => match evE a ρ with
    | .ok u1 ρ1 => (match evE b ρ1 with
      | .ok u2 ρ2 => (match opF o [u1.d, u2.d] with
        | some (.fz (.bl true)) => (match evE c ρ2 with
          | .ok u3 ρ3 => (match opF o' [u2.d, u3.d] with
            | some (.fz (.bl k)) => .ok (boolU k) ρ3
            | _ => .bad)
          | .ex x v ρ3 => .ex x v ρ3
          | .bad => .bad)
        | some (.fz (.bl false)) => .ok (boolU false) ρ2
        | _ => .bad)
      | .ex x v ρ2 => .ex x v ρ2
      | .bad => .bad)
    | .ex x v ρ1 => .ex x v ρ1
    | .bad => .bad
  | .comp own tg k src elt cond, ρ => match evEs src ρ with
    | .ok us ρ1 => if hidOk ρ1 (own.map (·.2)) && tg.slots.all (fun i => (own.map (·.2)).contains i) then (match itF k (Us.d us) with
      | some ds => (match evComp P tg (own.map (·.2)) (fun ρ => evEs cond ρ) (fun ρ => evE elt ρ) ds (wipeE ρ1 (own.map (·.2))) [] with
        | .ok acc ρ2 => .ok (.ul acc) (backE ρ1 ρ2 (own.map (·.2)))
        | _ => .bad)
      | none => .bad) else .bad
    | .ex c v ρ1 => .ex c v ρ1
    | .bad => .bad
  | .brw e, ρ => match evE e (frzE ρ) with
    | .ok u _ => if u.clean then .ok u ρ else .bad
    | .ex c v _ => if v.scalar then .ex c v ρ else .bad
    | .bad => .bad
  | .app i e, ρ => if ownAt ρ i [] then (match evE e ρ with
    | .ok u ρ1 => (match ρ1[i]? with
      | some (some (.ul us)) => if us.length < LIM then .ok (.fz .non) (ρ1.set i (some (.ul (us ++ [u])))) else .bad
      | _ => .bad)
    | .ex c v ρ1 => .ex c v ρ1
    | .bad => .bad) else .bad
  | .appP i path e, ρ => match ρ[i]? with
    | some (some w) => (match evE e (ρ.set i none) with
      | .ok u ρ1 => (match modU (fun us => if us.length < LIM then some (us ++ [u]) else none) path w, ρ1[i]? with
        | some w', some none => .ok (.fz .non) (ρ1.set i (some w'))
        | _, _ => .bad)
      | .ex _ _ _ => .bad
      | .bad => .bad)
    | _ => .bad
  | .pop i, ρ => match ρ[i]? with
    | some (some (.ul us)) => (match us.getLast? with
      | some u => .ok u (ρ.set i (some (.ul us.dropLast)))
      | none => .bad)
    | _ => .bad
  | .popAt i e, ρ => if ownAt ρ i [] then (match evE e ρ with
    | .ok (.fz (.int k)) ρ1 => (match ρ1[i]? with
      | some (some (.ul us)) => (match ixN us.length k with
        | some j => (match us[j]? with
          | some u => if us.length ≤ LIM then .ok u (ρ1.set i (some (.ul (us.eraseIdx j)))) else .bad
          | none => .bad)
        | none => .bad)
      | _ => .bad)
    | .ex c v ρ1 => .ex c v ρ1
    | _ => .bad) else .bad
  | .rem i e, ρ => if ownAt ρ i [] then (match evE e ρ with
    | .ok (.fz (.int k)) ρ1 => (match ρ1[i]? with
      | some (some (.ul us)) => (match intsD (Us.d us) with
        | some ns => if k ∈ ns then .ok (.fz .non) (ρ1.set i (some (.ul (fzs ((ns.eraseIdx (ns.idxOf k)).map .int))))) else .bad
        | none => .bad)
      | _ => .bad)
    | .ex c v ρ1 => .ex c v ρ1
    | _ => .bad) else .bad
  | .pix i e, ρ => if hasAt ρ i then (match evE e ρ with
    | .ok (.fz (.int k)) ρ1 => (match ρ1[i]? with
      | some (some (.ul us)) => (match atI us k with
        | some (.fz d) => .ok (.fz d) ρ1
        | _ => .bad)
      | _ => .bad)
    | .ex c v ρ1 => .ex c v ρ1
    | _ => .bad) else .bad
  | .bad, _ => .bad
def evEs : Es → Env → R (List U)
  | .nil, ρ => .ok [] ρ
  | .cons e es, ρ => match evE e ρ with
    | .ok u ρ1 => (match evEs es ρ1 with
      | .ok us ρ2 => .ok (u :: us) ρ2
      | .ex c v ρ2 => .ex c v ρ2
      | .bad => .bad)
    | .ex c v ρ1 => .ex c v ρ1
    | .bad => .bad
end
end
section
variable (cl : Str → List U → RC)
mutual
def evS : S → List Nat → Env → RS
  | .set tg e, P, ρ => match evE cl [] e ρ with
    | .ok u ρ1 => (match setTg P tg u ρ1 with
      | some ρ2 => .nx ρ2
      | none => .bad)
    | .ex c v ρ1 => .ex c v ρ1
    | .bad => .bad
  | .setIx i ix e, P, ρ => match evE cl [] e ρ with
    | .ok u ρ1 => if ownAt ρ1 i [] then (match evE cl [] ix ρ1 with
      | .ok (.fz (.int k)) ρ2 => (match ρ2[i]? with
        | some (some (.ul us)) => (match ixN us.length k with
          | some j => .nx (ρ2.set i (some (.ul (us.set j u))))
          | none => .bad)
        | _ => .bad)
      | .ex c v ρ2 => .ex c v ρ2
      | _ => .bad) else .bad
    | .ex c v ρ1 => .ex c v ρ1
    | .bad => .bad
  | .expr e, P, ρ => match evE cl [] e ρ with
    | .ok _ ρ1 => .nx ρ1
    | .ex c v ρ1 => .ex c v ρ1
    | .bad => .bad
  | .ret e, P, ρ => match evE cl [] e ρ with
    | .ok u ρ1 => .rt u ρ1
    | .ex c v ρ1 => .ex c v ρ1
    | .bad => .bad
  | .ite c a b, P, ρ => match evE cl [] c ρ with
    | .ok (.fz (.bl true)) ρ1 => evSs a P ρ1
    | .ok (.fz (.bl false)) ρ1 => evSs b P ρ1
    | .ex c v ρ1 => .ex c v ρ1
    | _ => .bad
  | .for_ tg k src body, P, ρ => match evEs cl [] src ρ with
    | .ok us ρ1 => (match itF k (Us.d us) with
      | some ds => evFor P tg (fun ρ => evSs body P ρ) ds ρ1
      | none => .bad)
    | .ex c v ρ1 => .ex c v ρ1
    | .bad => .bad
  | .while_ c body, P, ρ => evWhile (fun ρ => evE cl [] c ρ) (fun ρ => evSs body P ρ) FUEL ρ
  | .brk, P, ρ => .bk ρ
  | .cont, P, ρ => .ct ρ
  | .pass, P, ρ => .nx ρ
  | .raise c e, P, ρ => .bad
  | .brw ws s, P, ρ => match evS s (brwP P ws ρ.length) (frzE ρ) with
    | .nx ρ1 => if ρ1.length = ρ.length then .nx (mixE (fun j => ws.contains j) ρ ρ1) else .bad
    | .rt u ρ1 => if u.clean && decide (ρ1.length = ρ.length) then .rt u (mixE (fun j => ws.contains j) ρ ρ1) else .bad
    | .ex c v ρ1 => if v.scalar && decide (ρ1.length = ρ.length) then .ex c v (mixE (fun j => ws.contains j) ρ ρ1) else .bad
    | _ => .bad
  | .bad, _, _ => .bad
def evSs : Ss → List Nat → Env → RS
  | .nil, P, ρ => .nx ρ
  | .cons s ss, P, ρ => match evS s P ρ with
    | .nx ρ1 => evSs ss P ρ1
    | r => r
end
end

/-- a def of the text -/
structure Fd where
  name : Str
  np : Nat
  N : List Str
  muts : List Nat
  body : Ss
def outsF : (Nat → Bool) → Nat → Env → Env
  | _, 0, _ => []
  | f, n + 1, o :: ρ => (if f 0 then o else none) :: outsF (fun j => f (j + 1)) n ρ
  | f, n + 1, [] => none :: outsF (fun j => f (j + 1)) n []
def outs (muts : List Nat) (n : Nat) (ρ : Env) : List (Option U) := outsF (fun j => muts.contains j) n ρ
def initE (fd : Fd) (us : List U) : Env := us.map some ++ List.replicate (fd.N.length - us.length) none
def finF (fd : Fd) : RS → RC
  | .nx ρ => .ok (.fz .non) (outs fd.muts fd.np ρ)
  | .rt u ρ => .ok u (outs fd.muts fd.np ρ)
  | .ex c v ρ => .ex c v (outs fd.muts fd.np ρ)
  | _ => .bad
def callF (defs : List Fd) : Nat → Str → List U → RC
  | 0, _, _ => .bad
  | n + 1, f, us => match defs.find? (fun fd => fd.name == f) with
    | some fd => if us.length = fd.np then finF fd (evSs (callF defs n) fd.body fd.muts (initE fd us)) else .bad
    | none => .bad
end Pv

/-! Pl1: turns of comprehensions and loops, on the evaluator alone. -/
namespace Pv
open PySem

section
variable {P : List Nat} {tg : Tg} {own : List Nat} {c : Env → R (List U)} {e : Env → R U}
/-- what one turn of a comprehension gives -/
def CStep (P : List Nat) (tg : Tg) (own : List Nat) (c : Env → R (List U)) (e : Env → R U) (ρ : Env) (d : D) : Option U → Prop
  | none => ∃ ρ1 ρ2, setTg P tg (.fz d) ρ = some ρ1 ∧ c ρ1 = .ok [.fz (.bl false)] ρ2 ∧ wipeE ρ2 own = ρ
  | some u => ∃ ρ1 ρ2 ρ3, setTg P tg (.fz d) ρ = some ρ1 ∧ (c ρ1 = .ok [] ρ2 ∨ c ρ1 = .ok [.fz (.bl true)] ρ2) ∧ e ρ2 = .ok u ρ3 ∧ wipeE ρ3 own = ρ
theorem comp_run {ρ : Env} {g : D → Option U} : ∀ {ds : List D} {acc : List U}, (∀ d ∈ ds, CStep P tg own c e ρ d (g d)) → acc.length + ds.length ≤ LIM → evComp P tg own c e ds ρ acc = .ok (acc ++ ds.filterMap g) ρ
  | [], acc, _, _ => by simp [evComp]
  | d :: ds, acc, h, hl => by
    have hd := h d (by simp)
    have ih : ∀ acc' : List U, acc'.length + ds.length ≤ LIM → evComp P tg own c e ds ρ acc' = .ok (acc' ++ ds.filterMap g) ρ := fun acc' hl' => comp_run (fun x hx => h x (by simp [hx])) hl'
    simp only [List.length_cons] at hl
    unfold evComp
    cases hg : g d with
    | none =>
      rw [hg] at hd
      obtain ⟨ρ1, ρ2, e1, e2, e3⟩ := hd
      rw [e1]
      simp only [e2, Us.d, U.d]
      rw [e3, ih acc (by omega), List.filterMap_cons, hg]
    | some u =>
      rw [hg] at hd
      obtain ⟨ρ1, ρ2, ρ3, e1, e2, e3, e4⟩ := hd
      rw [e1]
      have hz : acc.length < LIM := by omega
      rcases e2 with e2 | e2
      · simp only [e2, Us.d, e3]
        rw [if_pos hz, e4, ih (acc ++ [u]) (by simp; omega), List.filterMap_cons, hg]
        simp
      · simp only [e2, Us.d, U.d, e3]
        rw [if_pos hz, e4, ih (acc ++ [u]) (by simp; omega), List.filterMap_cons, hg]
        simp
end
section
variable {P : List Nat} {tg : Tg} {b : Env → RS}
/-- a for loop: I by what is left, Q of its end -/
theorem for_run (I : List D → Env → Prop) (Q : RS → Prop) (hend : ∀ ρ, I [] ρ → Q (.nx ρ)) (step : ∀ d ds ρ, I (d :: ds) ρ → ∃ ρ1, setTg P tg (.fz d) ρ = some ρ1 ∧ match b ρ1 with
    | .nx ρ2 => I ds ρ2
    | .ct ρ2 => I ds ρ2
    | .bk ρ2 => Q (.nx ρ2)
    | r => Q r) : ∀ (ds : List D) (ρ : Env), I ds ρ → Q (evFor P tg b ds ρ)
  | [], ρ, h => by simpa [evFor] using hend ρ h
  | d :: ds, ρ, h => by
    obtain ⟨ρ1, e1, h1⟩ := step d ds ρ h
    unfold evFor
    rw [e1]
    simp only
    cases hb : b ρ1 with
    | nx ρ2 => rw [hb] at h1; exact for_run I Q hend step ds ρ2 h1
    | ct ρ2 => rw [hb] at h1; exact for_run I Q hend step ds ρ2 h1
    | bk ρ2 => rw [hb] at h1; exact h1
    | rt u ρ2 => rw [hb] at h1; exact h1
    | ex x v ρ2 => rw [hb] at h1; exact h1
    | bad => rw [hb] at h1; exact h1
/-- a while loop: I with a bound of the turns that are left -/
theorem while_run {t : Env → R U} (I : Nat → Env → Prop) (Q : RS → Prop) (step : ∀ m ρ, I m ρ → match t ρ with
    | .ok (.fz (.bl true)) ρ1 => (match b ρ1 with
      | .nx ρ2 => ∃ k, k < m ∧ I k ρ2
      | .ct ρ2 => ∃ k, k < m ∧ I k ρ2
      | .bk ρ2 => Q (.nx ρ2)
      | r => Q r)
    | .ok (.fz (.bl false)) ρ1 => Q (.nx ρ1)
    | .ex x v ρ1 => Q (.ex x v ρ1)
    | _ => False) : ∀ (n m : Nat) (ρ : Env), I m ρ → m < n → Q (evWhile t b n ρ)
  | 0, m, ρ, _, h => by omega
  | n + 1, m, ρ, h, hl => by
    have hs := step m ρ h
    unfold evWhile
    cases ht : t ρ with
    | bad => rw [ht] at hs; exact hs.elim
    | ex x v ρ1 => rw [ht] at hs; exact hs
    | ok u ρ1 =>
      rw [ht] at hs
      cases u with
      | ul _ => exact hs.elim
      | ut _ => exact hs.elim
      | fz d =>
        cases d with
        | bl k =>
          cases k with
          | false => exact hs
          | true =>
            simp only at hs ⊢
            cases hb : b ρ1 with
            | nx ρ2 =>
              rw [hb] at hs
              obtain ⟨k, hk, hi⟩ := hs
              exact while_run I Q step n k ρ2 hi (by omega)
            | ct ρ2 =>
              rw [hb] at hs
              obtain ⟨k, hk, hi⟩ := hs
              exact while_run I Q step n k ρ2 hi (by omega)
            | bk ρ2 => rw [hb] at hs; exact hs
            | rt u ρ2 => rw [hb] at hs; exact hs
            | ex x v ρ2 => rw [hb] at hs; exact hs
            | bad => rw [hb] at hs; exact hs
        | _ => exact hs.elim
end
end Pv

/-! Pv3: what the small language computes is what the text does: readings, names, constants, argument lists. -/
namespace Pv
open PySem PySem.Spec PyProof.Rows L2

section
variable (G : Gx) (W : WX)
/-- an exception of the class c with the value dv is in the air -/
def GX (c : Str) (dv : D) (ρ : Env) (F H : Hp) (os : List Addr) (σ : L2.St) : Prop :=
  ∀ F' H' os' C a v, Inv2 G F' H' ρ σ os' → G.mg c = some (.ref C) → F' a = some (.xd [(("value" : Str), v)]) → Rep G F' dv v → Step F H os F' H' os' → W (.ref C) (some a) σ H'
def Lk (e : E) (σ : L2.St) (v : V) : Prop := match e with
  | .mv i => σ[i]? = some (some v)
  | _ => True
def Lks : Es → L2.St → List V → Prop
  | .cons e es, σ, v :: vs => Lk e σ v ∧ Lks es σ vs
  | _, _, _ => True
def GE (e : E) (r : R U) (F H : Hp) (os : List Addr) (σ : L2.St) (Q : VK) : Prop := match r with
  | .ok u ρ' => ∀ F' H' os' v ps, Inv2 G F' H' ρ' σ os' → RepU G F' H' u v ps → (ps ++ os').Nodup → Step F H os F' H' (ps ++ os') → Lk e σ v → Q v H'
  | .ex c v ρ' => GX G W c v ρ' F H os σ
  | .bad => False
def GA (es : Es) (r : R (List U)) (F H : Hp) (os : List Addr) (σ : L2.St) (Q : List V → Hp → Prop) : Prop := match r with
  | .ok us ρ' => ∀ F' H' os' vs ps, Inv2 G F' H' ρ' σ os' → RepUs G F' H' us vs ps → (ps ++ os').Nodup → Step F H os F' H' (ps ++ os') → Lks es σ vs → Q vs H'
  | .ex c v ρ' => GX G W c v ρ' F H os σ
  | .bad => False
variable (cl : Str → List U → RC) (P : List Nat)
def TEr (e : E) : TE := fun σ H Q => ∃ F ρ os, Inv2 G F H ρ σ os ∧ GE G W e (evE cl P e ρ) F H os σ Q
def TTr (e : E) : TT := tB (TEr G W cl P e)
def TAr (es : Es) : TA := fun σ H Q => ∃ F ρ os, Inv2 G F H ρ σ os ∧ GA G W es (evEs cl P es ρ) F H os σ Q
structure SE (X : Cx) (e : E) (ex : Expr) : Prop where
  pe : PE X ex (TEr G W cl P e)
  pt : PT X ex (TTr G W cl P e)
def SA (X : Cx) (es : Es) (exs : List Expr) : Prop := PA X exs (TAr G W cl P es)
end
theorem PE.imp {X : Cx} {e : Expr} {t t' : TE} (h : PE X e t) (k : ∀ σ H Q, t' σ H Q → t σ H Q) : PE X e t' := ⟨fun pins s σ H Q I q => h.run pins s σ H Q I (k σ H Q q)⟩
theorem PT.imp {X : Cx} {e : Expr} {t t' : TT} (h : PT X e t) (k : ∀ σ H Q, t' σ H Q → t σ H Q) : PT X e t' := ⟨fun pins s σ H Q I q => h.run pins s σ H Q I (k σ H Q q)⟩
theorem PA.imp {X : Cx} {e : List Expr} {t t' : TA} (h : PA X e t) (k : ∀ σ H Q, t' σ H Q → t σ H Q) : PA X e t' := ⟨fun pos pins s σ H Q I q => h.run pos pins s σ H Q I (k σ H Q q)⟩

section
variable {G : Gx} {W : WX} {cl : Str → List U → RC} {P : List Nat} {X : Cx}
theorem GX.trans {c : Str} {dv : D} {ρ : Env} {F H F1 H1 : Hp} {os os1 qs : List Addr} {σ : L2.St} (h : GX G W c dv ρ F H os σ) (s : Step F H os F1 H1 qs) (hs : ∀ a ∈ os1, a ∈ qs) : GX G W c dv ρ F1 H1 os1 σ := by
  intro F' H' os' C a v I hm ha hr st
  exact h F' H' os' C a v I hm ha hr (s.trans (st.weak hs fun a h => .inl h))
/-- the temporaries lie apart from what comes -/
theorem nodup_step {F H F' H' : Hp} {ps os qs : List Addr} (nd : (ps ++ os).Nodup) (ow : Owns F H ps) (s : Step F H os F' H' qs) (nq : qs.Nodup) : (ps ++ qs).Nodup := by
  rw [List.nodup_append] at nd ⊢
  refine ⟨nd.1, nq, fun a ha b hb e => ?_⟩
  subst e
  rcases s.o a hb with h | h
  · exact nd.2.2 a ha a h rfl
  · obtain ⟨⟨vs, e1⟩, _⟩ := ow a ha
    rw [e1] at h; cases h
theorem disj_of {ps os : List Addr} (nd : (ps ++ os).Nodup) : ∀ p ∈ ps, p ∉ os := fun p h1 h2 => (List.nodup_append.mp nd).2.2 p h1 p h2 rfl
theorem disj_of' {ps os : List Addr} (nd : (ps ++ os).Nodup) : ∀ p ∈ os, p ∉ ps := fun p h1 h2 => (List.nodup_append.mp nd).2.2 p h2 p h1 rfl
/-- sharing a temporary -/
theorem share {F H : Hp} {ρ : Env} {σ : L2.St} {os ps : List Addr} (I : Inv2 G F H ρ σ os) (ow : Owns F H ps) (nd : (ps ++ os).Nodup) :
    Inv2 G (addF F H ps) H ρ σ os ∧ Step F H (ps ++ os) (addF F H ps) H os := by
  have st := Step.share (os := os) I.sub ow
  refine ⟨⟨addF_le I.sub, I.env.mono st.f fun p hp => ⟨?_, fun o e => e⟩, I.nd⟩, st⟩
  rw [addF_out (disj_of' nd p hp)]
  exact (I.env.owns p hp).2
theorem share_rep {F H : Hp} {u : U} {v : V} {ps : List Addr} (r : RepU G F H u v ps) : Rep G (addF F H ps) u.d v :=
  r.freeze (addF_sub fun p hp => (r.owns p hp).2) fun p hp o e => by rw [addF_in hp]; exact e
theorem share_reps {F H : Hp} {us : List U} {vs : List V} {ps : List Addr} (r : RepUs G F H us vs ps) : Reps G (addF F H ps) (Us.d us) vs :=
  r.freeze (addF_sub fun p hp => (r.owns p hp).2) fun p hp o e => by rw [addF_in hp]; exact e

/-! ### argument lists -/
theorem sa_nil : SA G W cl P X .nil [] := by
  refine PA.imp pa_nil fun σ H Q ⟨F, ρ, os, I, h⟩ => ?_
  simp only [evEs, GA] at h
  exact h F H os [] [] I (by simp [RepUs]) (by simpa using I.nd) Step.refl (by simp [Lks])
theorem tcons {e : E} {es : Es} {σ : L2.St} {H : Hp} {Q : List V → Hp → Prop} (h : TAr G W cl P (.cons e es) σ H Q) : tCons (TEr G W cl P e) (TAr G W cl P es) σ H Q := by
  obtain ⟨F, ρ, os, I, h⟩ := h
  simp only [evEs] at h
  refine ⟨F, ρ, os, I, ?_⟩
  cases hr : evE cl P e ρ with
  | bad => rw [hr] at h; exact h
  | ex c v ρ1 => rw [hr] at h; exact h
  | ok u ρ1 =>
    rw [hr] at h
    intro F1 H1 os1 v ps i1 r1 nd1 st1 lk
    refine ⟨F1, ρ1, os1, i1, ?_⟩
    simp only at h
    cases hs : evEs cl P es ρ1 with
    | bad => rw [hs] at h; exact h
    | ex c v ρ2 => rw [hs] at h; exact GX.trans h st1 fun a ha => by simp [ha]
    | ok us ρ2 =>
      rw [hs] at h
      intro F2 H2 os2 vs ps2 i2 r2 nd2 st2 lk2
      refine h F2 H2 os2 (v :: vs) (ps ++ ps2) i2 ?_ ?_ ?_ ?_
      · simp only [RepUs]
        exact ⟨v, vs, ps, ps2, rfl, rfl, st2.keepU r1 (disj_of nd1), r2⟩
      · rw [List.append_assoc]
        exact nodup_step nd1 r1.owns st2 nd2
      · refine st1.trans (st2.weak (fun a ha => by simp [ha]) fun a ha => ?_)
        rcases List.mem_append.mp ha with ha | ha
        · rcases List.mem_append.mp ha with ha | ha
          · exact .inr (by simp [ha])
          · exact .inl (by simp [ha])
        · exact .inl (by simp [ha])
      · simp only [Lks]; exact ⟨lk, lk2⟩
def notStar : Expr → Bool
  | .Starred .. => false
  | _ => true
theorem starEach_of {e : Expr} {es : List Expr} {env : PySem.Env} (h : notStar e = true) : starEach (e :: es) env = (false, eval e env) :: starEach es env := by
  cases e <;> first | rfl | (simp [notStar] at h)
theorem sa_cons {e : E} {es : Es} {ex : Expr} {exs : List Expr} (he : SE G W cl P X e ex) (hs : SA G W cl P X es exs) (hn : notStar ex = true) : SA G W cl P X (.cons e es) (ex :: exs) :=
  PA.imp (pa_cons he.pe hs (starEach_of hn)) fun σ H Q h => tcons h
theorem one {a : E} {σ : L2.St} {H : Hp} {R : V → Hp → Prop} (h : TAr G W cl P (.cons a .nil) σ H (fun vs H1 => ∃ x, vs = [x] ∧ R x H1)) : TEr G W cl P a σ H R := by
  obtain ⟨F, ρ, os, I, h⟩ := tcons h
  refine ⟨F, ρ, os, I, ?_⟩
  cases hr : evE cl P a ρ with
  | bad => rw [hr] at h; exact h
  | ex c v ρ1 => rw [hr] at h; exact h
  | ok u ρ1 =>
    rw [hr] at h
    intro F1 H1 os1 v ps i1 r1 nd1 st1 lk
    obtain ⟨F2, ρ2, os2, I2, h2⟩ := h F1 H1 os1 v ps i1 r1 nd1 st1 lk
    simp only [evEs, GA] at h2
    obtain ⟨x, e, q⟩ := h2 F2 H1 os2 [] [] I2 (by simp [RepUs]) (by simpa using I2.nd) Step.refl (by simp [Lks])
    cases e
    exact q
theorem TEr.mono {e : E} {σ : L2.St} {H : Hp} {Q Q' : VK} (h : TEr G W cl P e σ H Q) (k : ∀ v H, Q v H → Q' v H) : TEr G W cl P e σ H Q' := by
  obtain ⟨F, ρ, os, I, h⟩ := h
  refine ⟨F, ρ, os, I, ?_⟩
  cases hr : evE cl P e ρ with
  | bad => rw [hr] at h; exact h
  | ex c v ρ1 => rw [hr] at h; exact h
  | ok u ρ1 =>
    rw [hr] at h
    intro F1 H1 os1 v ps i1 r1 nd1 st1 lk
    exact k _ _ (h F1 H1 os1 v ps i1 r1 nd1 st1 lk)
theorem TAr.mono {e : Es} {σ : L2.St} {H : Hp} {Q Q' : List V → Hp → Prop} (h : TAr G W cl P e σ H Q) (k : ∀ v H, Q v H → Q' v H) : TAr G W cl P e σ H Q' := by
  obtain ⟨F, ρ, os, I, h⟩ := h
  refine ⟨F, ρ, os, I, ?_⟩
  cases hr : evEs cl P e ρ with
  | bad => rw [hr] at h; exact h
  | ex c v ρ1 => rw [hr] at h; exact h
  | ok u ρ1 =>
    rw [hr] at h
    intro F1 H1 os1 v ps i1 r1 nd1 st1 lk
    exact k _ _ (h F1 H1 os1 v ps i1 r1 nd1 st1 lk)
theorem two {a b : E} {σ : L2.St} {H : Hp} {R : V → V → Hp → Prop} (h : TAr G W cl P (.cons a (.cons b .nil)) σ H (fun vs H1 => ∃ x y, vs = [x, y] ∧ R x y H1)) :
    TEr G W cl P a σ H fun x H1 => TEr G W cl P b σ H1 fun y H2 => R x y H2 :=
  (tcons h).mono fun x H1 h1 => one (h1.mono fun ys H2 ⟨x', y, e, q⟩ => by cases e; exact ⟨_, rfl, q⟩)
theorem three {a b c : E} {σ : L2.St} {H : Hp} {R : V → V → V → Hp → Prop} (h : TAr G W cl P (.cons a (.cons b (.cons c .nil))) σ H (fun vs H1 => ∃ x y z, vs = [x, y, z] ∧ R x y z H1)) :
    TEr G W cl P a σ H fun x H1 => TEr G W cl P b σ H1 fun y H2 => TEr G W cl P c σ H2 fun z H3 => R x y z H3 :=
  (tcons h).mono fun x H1 h1 => two (h1.mono fun ys H2 ⟨x', y, z, e, q⟩ => by cases e; exact ⟨_, _, rfl, q⟩)

def Es.len : Es → Nat
  | .nil => 0
  | .cons _ es => es.len + 1
theorem evEs_len : ∀ (es : Es) {ρ ρ' : Env} {us : List U}, evEs cl P es ρ = .ok us ρ' → us.length = es.len
  | .nil, ρ, ρ', us, h => by simp only [evEs, R.ok.injEq] at h; rw [← h.1]; rfl
  | .cons e es, ρ, ρ', us, h => by
    simp only [evEs] at h
    cases h1 : evE cl P e ρ with
    | bad => rw [h1] at h; cases h
    | ex c v ρ1 => rw [h1] at h; cases h
    | ok u ρ1 =>
      rw [h1] at h
      simp only at h
      cases h2 : evEs cl P es ρ1 with
      | bad => rw [h2] at h; cases h
      | ex c v ρ1 => rw [h2] at h; cases h
      | ok us2 ρ2 =>
        rw [h2] at h
        simp only [R.ok.injEq] at h
        rw [← h.1, List.length_cons, evEs_len es h2]; rfl
theorem Us.d_length (us : List U) : (Us.d us).length = us.length := by rw [Us.d_map, List.length_map]

/-! ### an operation on values -/
/-- what comes of an operation: nothing that stood has changed -/
def OpOut (G : Gx) (F H : Hp) (u : U) (Q : VK) : Prop := ∀ F' H' v ps, Sub F' H' → RepU G F' H' u v ps → ps.Nodup → Step F H [] F' H' ps → Q v H'
theorem out_step {F H F' H' : Hp} {ρ : Env} {σ : L2.St} {os ps : List Addr} (I : Inv2 G F H ρ σ os) (sub : Sub F' H') (nd : ps.Nodup) (st : Step F H [] F' H' ps) :
    Inv2 G F' H' ρ σ os ∧ (ps ++ os).Nodup ∧ Step F H os F' H' (ps ++ os) := by
  refine ⟨I.step st sub (fun _ _ h => by simp at h), ?_, st.weak (fun _ h => by simp at h) fun a ha => ?_⟩
  · rw [List.nodup_append]
    refine ⟨nd, I.nd, fun a ha b hb e => ?_⟩
    subst e
    rcases st.o a ha with h | h
    · simp at h
    · obtain ⟨⟨vs, e1⟩, _⟩ := I.env.owns a hb
      rw [e1] at h; cases h
  · rcases List.mem_append.mp ha with ha | ha
    · exact .inl ha
    · exact .inr ha
theorem opA {o : O} {es : Es} {σ : L2.St} {H : Hp} {Q : VK} {r : List V → Hp → VK → Prop} (h : TEr G W cl P (.op o es) σ H Q)
    (hr : ∀ F' H' vs ds u, Sub F' H' → Reps G F' ds vs → ds.length = es.len → opF o ds = some u → OpOut G F' H' u Q → r vs H' Q) : TAr G W cl P es σ H (fun vs H1 => r vs H1 Q) := by
  obtain ⟨F, ρ, os, I, h⟩ := h
  refine ⟨F, ρ, os, I, ?_⟩
  simp only [evE] at h
  cases hs : evEs cl P es ρ with
  | bad => rw [hs] at h; exact h
  | ex c v ρ1 => rw [hs] at h; exact h
  | ok us ρ1 =>
    rw [hs] at h
    simp only at h
    cases ho : opF o (Us.d us) with
    | none => rw [ho] at h; exact False.elim h
    | some u =>
      rw [ho] at h
      intro F1 H1 os1 vs ps i1 r1 nd1 st1 lk
      obtain ⟨i2, s2⟩ := share i1 r1.owns nd1
      refine hr _ H1 vs _ u i2.sub (share_reps r1) (by rw [Us.d_length]; exact evEs_len es hs) ho fun F' H' v ps' sub ru nd st => ?_
      obtain ⟨i3, nd3, s3⟩ := out_step i2 sub nd st
      exact h F' H' os1 v ps' i3 ru nd3 ((st1.trans s2).trans s3) (by simp [Lk])
theorem OpOut.scalar {F H : Hp} {d : D} {v : V} {Q : VK} (h : OpOut G F H (.fz d) Q) (sub : Sub F H) (r : Rep G F d v) : Q v H :=
  h F H v [] sub (by simp only [RepU, true_and]; exact r) List.nodup_nil Step.refl
theorem OpOut.bl {F H : Hp} {b : Bool} {Q : VK} (h : OpOut G F H (boolU b) Q) (sub : Sub F H) : Q (.bl b) H := OpOut.scalar h sub (by simp [Rep])
theorem OpOut.int {F H : Hp} {b : Int} {Q : VK} (h : OpOut G F H (intU b) Q) (sub : Sub F H) : Q (.int b) H := OpOut.scalar h sub (by simp [Rep])
theorem OpOut.list {F H : Hp} {ds : List D} {vs : List V} {Q : VK} (h : OpOut G F H (.ul (fzs ds)) Q) (sub : Sub F H) (r : Reps G F ds vs) : ∀ p, H p = none → Q (.ref p) (upd H p (.lst vs)) := fun p hp =>
  h F (upd H p (.lst vs)) (.ref p) [p] (sub.trans (Sub.upd hp)) (by
    simp only [RepU]
    exact ⟨p, vs, [], rfl, rfl, upd_same, sub.none hp, RepUs.fzs r⟩) (by simp) (Step.newO hp)
theorem OpOut.tup {F H : Hp} {ds : List D} {vs : List V} {Q : VK} (h : OpOut G F H (.fz (.tup ds)) Q) (sub : Sub F H) (r : Reps G F ds vs) : ∀ p, H p = none → Q (.ref p) (upd H p (.tup vs)) := fun p hp =>
  h (upd F p (.tup vs)) (upd H p (.tup vs)) (.ref p) [] (fun a o e => by
    by_cases ha : a = p
    · subst ha; rw [upd_same] at e ⊢; exact e
    · rw [upd_ne ha] at e ⊢; exact sub a o e) (by
    simp only [RepU, Rep, true_and]
    exact ⟨p, vs, rfl, .inl (.inl upd_same), r.mono (Sub.upd (sub.none hp))⟩) (by simp) (Step.newF sub hp)

/-! ### names and constants -/
theorem set_self {σ : L2.St} {i : Nat} {x : Option V} (h : σ[i]? = some x) : σ.set i x = σ := by
  apply List.ext_getElem?
  intro j
  by_cases e : i = j
  · subst e
    rw [List.getElem?_set_self (List.getElem?_eq_some_iff.mp h).1, h]
  · rw [List.getElem?_set_ne e]
theorem nodup_mid {l p r : List Addr} (h : (l ++ (p ++ r)).Nodup) : (p ++ (l ++ r)).Nodup := (List.perm_append_comm_assoc l p r).nodup_iff.mp h
/-- a slot's value is shared -/
theorem share_slot {F H : Hp} {ρ : Env} {σ : L2.St} {os : List Addr} {i : Nat} {u : U} (I : Inv2 G F H ρ σ os) (e : ρ[i]? = some (some u)) :
    ∃ v F' os', σ[i]? = some (some v) ∧ Inv2 G F' H (ρ.set i (some (.fz u.d))) σ os' ∧ Rep G F' u.d v ∧ Step F H os F' H os' := by
  obtain ⟨v, l, p, r, e1, rfl, r1, e2, fill⟩ := I.env.split e
  have nd := nodup_mid I.nd
  have ow := r1.owns
  have hs : Sub F (addF F H p) := addF_sub fun a ha => (ow a ha).2
  refine ⟨v, addF F H p, l ++ r, e1, ⟨addF_le I.sub, ?_, (List.nodup_append.mp nd).2.1⟩, share_rep r1, ?_⟩
  · have := fill (F' := addF F H p) (H' := H) (u' := .fz u.d) (v' := v) (p' := []) hs (fun a ha => ⟨?_, fun o e => e⟩) (by simp only [RepU, true_and]; exact share_rep r1)
    · rw [set_self e1] at this
      simpa using this
    · rw [addF_out (disj_of' nd a ha)]
      exact (e2.owns a ha).2
  · refine (Step.share (os := l ++ r) I.sub ow).weak (fun a ha => ?_) fun a ha => .inl ha
    rcases List.mem_append.mp ha with h | h
    · simp [h]
    · rcases List.mem_append.mp h with h | h <;> simp [h]
theorem te_var {i : Nat} {σ : L2.St} {H : Hp} {Q : VK} (h : TEr G W cl P (.var i) σ H Q) : tVar i σ H Q := by
  obtain ⟨F, ρ, os, I, h⟩ := h
  simp only [evE] at h
  cases hr : ρ[i]? with
  | none => rw [hr] at h; exact False.elim h
  | some o =>
    cases o with
    | none => rw [hr] at h; exact False.elim h
    | some u =>
      rw [hr] at h
      obtain ⟨v, F', os', e, I', r, st⟩ := share_slot I hr
      exact ⟨v, e, h F' H os' v [] I' (by simp only [RepU, true_and]; exact r) (by simpa using I'.nd) st (by simp [Lk])⟩
theorem te_mv {i : Nat} {σ : L2.St} {H : Hp} {Q : VK} (h : TEr G W cl P (.mv i) σ H Q) : tVar i σ H Q := by
  obtain ⟨F, ρ, os, I, h⟩ := h
  simp only [evE] at h
  cases hr : ρ[i]? with
  | none => rw [hr] at h; exact False.elim h
  | some o =>
    cases o with
    | none => rw [hr] at h; exact False.elim h
    | some u =>
      rw [hr] at h
      obtain ⟨v, l, p, r, e1, rfl, r1, e2, fill⟩ := I.env.split hr
      have nd := nodup_mid I.nd
      refine ⟨v, e1, h F H (l ++ r) v p ⟨I.sub, e2, (List.nodup_append.mp nd).2.1⟩ r1 nd (Step.refl.weak (fun a ha => ha) fun a ha => .inr ?_) (by simpa [Lk] using e1)⟩
      rcases List.mem_append.mp ha with h | h
      · simp [h]
      · rcases List.mem_append.mp h with h | h <;> simp [h]
/-- the names that a def sees -/
def visB (sc : Scope) (x : Str) : Bool := sc.names.lookup x == some .local || sc.names.lookup x == some .cell || sc.names.lookup x == some .free
theorem vis_of {sc : Scope} {x : Str} (h : visB sc x = true) : Vis sc x := by
  simp only [visB, Bool.or_eq_true, beq_iff_eq] at h
  rcases h with (h | h) | h
  · exact .inl h
  · exact .inr (.inl h)
  · exact .inr (.inr h)
def plainN (x : Str) : Bool := !(x == ("__debug__" : Str)) && !(x == ("__classdict__" : Str)) && !(x == ("__name__" : Str))
theorem se_name {e : E} {i : Nat} {x : Str} {pos : Pos} (hN : X.N[i]? = some x) (hv : visB X.env.scope x = true) (hp : plainN x = true) (k : ∀ σ H Q, TEr G W cl P e σ H Q → tVar i σ H Q) : SE G W cl P X e (.Name x pos) := by
  simp only [plainN, Bool.and_eq_true, Bool.not_eq_true'] at hp
  have h : PE X (.Name x pos) (TEr G W cl P e) := PE.imp (pe_var hN (vis_of hv) hp.1.1 hp.1.2) k
  exact ⟨h, pt_val h⟩
theorem se_var {i : Nat} {x : Str} {pos : Pos} (hN : X.N[i]? = some x) (hv : visB X.env.scope x = true) (hp : plainN x = true) : SE G W cl P X (.var i) (.Name x pos) := se_name hN hv hp fun _ _ _ => te_var
theorem se_mv {i : Nat} {x : Str} {pos : Pos} (hN : X.N[i]? = some x) (hv : visB X.env.scope x = true) (hp : plainN x = true) : SE G W cl P X (.mv i) (.Name x pos) := se_name hN hv hp fun _ _ _ => te_mv
theorem te_val {e : E} {d : D} {v : V} {σ : L2.St} {H : Hp} {Q : VK} (h : TEr G W cl P e σ H Q) (hd : ∀ ρ, evE cl P e ρ = .ok (.fz d) ρ ∨ evE cl P e ρ = .bad) (hl : ∀ σ v, Lk e σ v) (r : ∀ F, Rep G F d v) : tC v σ H Q := by
  obtain ⟨F, ρ, os, I, h⟩ := h
  rcases hd ρ with e | e
  · rw [e] at h
    exact h F H os v [] I (by simp only [RepU, true_and]; exact r F) (by simpa using I.nd) Step.refl (hl _ _)
  · rw [e] at h; exact False.elim h
theorem ev_cst {d : D} (ρ : Env) : evE cl P (.cst d) ρ = .ok (.fz d) ρ ∨ evE cl P (.cst d) ρ = .bad := by
  simp only [evE]; split <;> simp
theorem se_int {i : Int} {k : Nat} {pos : Pos} : SE G W cl P X (.cst (.int i)) (.Constant (.int i) k pos) := by
  have h : PE X (.Constant (.int i) k pos) (TEr G W cl P (.cst (.int i))) := PE.imp pe_int fun σ H Q h => te_val h ev_cst (fun _ _ => by simp [Lk]) (fun F => by simp [Rep])
  exact ⟨h, pt_val h⟩
theorem se_bl {i : Bool} {k : Nat} {pos : Pos} : SE G W cl P X (.cst (.bl i)) (.Constant (.bool i) k pos) := by
  have h : PE X (.Constant (.bool i) k pos) (TEr G W cl P (.cst (.bl i))) := PE.imp pe_bl fun σ H Q h => te_val h ev_cst (fun _ _ => by simp [Lk]) (fun F => by simp [Rep])
  exact ⟨h, pt_val h⟩
theorem se_non {k : Nat} {pos : Pos} : SE G W cl P X (.cst .non) (.Constant .none k pos) := by
  have h : PE X (.Constant .none k pos) (TEr G W cl P (.cst .non)) := PE.imp pe_non fun σ H Q h => te_val h ev_cst (fun _ _ => by simp [Lk]) (fun F => by simp [Rep])
  exact ⟨h, pt_val h⟩
theorem se_str {i : Str} {k : Nat} {pos : Pos} : SE G W cl P X (.cst (.str i)) (.Constant (.str i) k pos) := by
  have h : PE X (.Constant (.str i) k pos) (TEr G W cl P (.cst (.str i))) := PE.imp pe_str fun σ H Q h => te_val h ev_cst (fun _ _ => by simp [Lk]) (fun F => by simp [Rep])
  exact ⟨h, pt_val h⟩
/-- a module's constant -/
theorem se_glob {x : Str} {d : D} {v : V} {u : Value} {pos : Pos} (hg : Gl X x) (hm : X.mg x = some u) (rv : RelV v u) (r : ∀ F, Rep G F d v) (hp : plainN x = true) : SE G W cl P X (.glob x d) (.Name x pos) := by
  simp only [plainN, Bool.and_eq_true, Bool.not_eq_true'] at hp
  have h : PE X (.Name x pos) (TEr G W cl P (.glob x d)) := PE.imp (pe_glob hg hm rv hp.1.1) fun σ H Q h => te_val h (fun ρ => by simp [evE]) (fun _ _ => by simp [Lk]) r
  exact ⟨h, pt_val h⟩

/-! ### displays -/
theorem all_fz : ∀ {us : List U}, (us.all fun u => match u with | .fz _ => true | _ => false) = true → us = fzs (Us.d us)
  | [], _ => rfl
  | u :: us, h => by
    rw [List.all_cons, Bool.and_eq_true] at h
    have ih := all_fz h.2
    cases u with
    | fz d => simp only [Us.d, U.d, fzs, List.map_cons]; exact congrArg _ ih
    | ul us => simp at h
    | ut us => simp at h
theorem te_args {es : Es} {e : E} {mk : List U → U} {o : List V → HO} {σ : L2.St} {H : Hp} {Q : VK} (h : TEr G W cl P e σ H Q) (hl : ∀ σ v, Lk e σ v)
    (hev : ∀ ρ, evE cl P e ρ = match evEs cl P es ρ with
      | .ok us ρ1 => if us.length ≤ LIM then .ok (mk us) ρ1 else .bad
      | .ex c v ρ1 => .ex c v ρ1
      | .bad => .bad)
    (k : ∀ us F H vs ps p, Sub F H → RepUs G F H us vs ps → H p = none → ∃ F' qs, Sub F' (upd H p (o vs)) ∧ RepU G F' (upd H p (o vs)) (mk us) (.ref p) qs ∧ Sub F F' ∧ (∀ a, F' a ≠ none → F a ≠ none ∨ a ∈ ps ∨ a = p) ∧ (∀ a ∈ qs, (a ∈ ps ∨ a = p) ∧ F' a = none) ∧ (ps.Nodup → qs.Nodup) ∧ (∀ a, F a = none → a ∉ ps → a ≠ p → F' a = none)) :
    TAr G W cl P es σ H fun vs H1 => vs.length ≤ sizeLine ∧ ∀ p, H1 p = none → Q (.ref p) (upd H1 p (o vs)) := by
  obtain ⟨F, ρ, os, I, h⟩ := h
  refine ⟨F, ρ, os, I, ?_⟩
  rw [hev] at h
  cases hs : evEs cl P es ρ with
  | bad => rw [hs] at h; exact h
  | ex c v ρ1 => rw [hs] at h; exact h
  | ok us ρ1 =>
    rw [hs] at h
    simp only at h
    by_cases hz : us.length ≤ LIM
    · rw [if_pos hz] at h
      intro F1 H1 os1 vs ps i1 r1 nd1 st1 lk
      refine ⟨by rw [r1.length]; exact le_lim hz, fun p hp => ?_⟩
      obtain ⟨F2, qs, s1, r2, s2, n2, q2, nd2, f2⟩ := k us F1 H1 vs ps p i1.sub r1 hp
      have hpos : p ∉ ps ++ os1 := fun hm => by
        rcases List.mem_append.mp hm with hm | hm
        · obtain ⟨⟨ws, e⟩, _⟩ := r1.owns p hm; rw [hp] at e; cases e
        · obtain ⟨⟨ws, e⟩, _⟩ := i1.env.owns p hm; rw [hp] at e; cases e
      have st : Step F1 H1 (ps ++ os1) F2 (upd H1 p (o vs)) (qs ++ os1) := by
        refine ⟨s2, fun a ha => ?_, fun a o e _ => by rw [upd_ne (ne_of_none e hp)]; exact e, fun a ha => ?_, fun a ha => ?_⟩
        · rcases n2 a ha with h | h | h
          · exact .inl h
          · exact .inr (.inl (by simp [h]))
          · exact .inr (.inr (by rw [h]; exact hp))
        · by_cases e : a = p
          · rw [e]; exact hp
          · rw [upd_ne e] at ha; exact ha
        · rcases List.mem_append.mp ha with ha | ha
          · rcases (q2 a ha).1 with h | h
            · exact .inl (by simp [h])
            · exact .inr (by rw [h]; exact hp)
          · exact .inl (by simp [ha])
      have i3 : Inv2 G F2 (upd H1 p (o vs)) ρ1 σ os1 := by
        refine ⟨s1, i1.env.mono s2 fun a ha => ⟨?_, fun o e => by rw [upd_ne (ne_of_none e hp)]; exact e⟩, i1.nd⟩
        exact f2 a (i1.env.owns a ha).2 (disj_of' nd1 a ha) (fun e => hpos (by rw [← e]; simp [ha]))
      refine h F2 _ os1 (.ref p) qs i3 r2 ?_ (st1.trans st) (hl _ _)
      rw [List.nodup_append] at nd1 ⊢
      refine ⟨nd2 nd1.1, nd1.2.1, fun a ha b hb e => ?_⟩
      subst e
      rcases (q2 a ha).1 with h | h
      · exact nd1.2.2 a h a hb rfl
      · exact hpos (by rw [← h]; simp [hb])
    · rw [if_neg hz] at h; exact False.elim h
theorem se_lst {es : Es} {exs : List Expr} {pos : Pos} (h : SA G W cl P X es exs) : SE G W cl P X (.lst es) (.List exs pos) := by
  have hp : PE X (.List exs pos) (TEr G W cl P (.lst es)) := by
    refine PE.imp (pe_lst h) fun σ H Q hq => te_args (mk := .ul) (o := .lst) hq (fun _ _ => by simp [Lk]) (fun ρ => by simp only [evE] <;> (cases evEs cl P es ρ <;> rfl)) fun us F H vs ps p sub r hp => ?_
    refine ⟨F, p :: ps, sub.trans (Sub.upd hp), ?_, Sub.refl F, fun a ha => .inl ha, fun a ha => ?_, fun nd => ?_, fun a h _ _ => h⟩
    · simp only [RepU]
      exact ⟨p, vs, ps, rfl, rfl, upd_same, sub.none hp, r.mono (Sub.refl F) fun a ha => ⟨(r.owns a ha).2, fun o e => by rw [upd_ne (ne_of_none e hp)]; exact e⟩⟩
    · rcases List.mem_cons.mp ha with rfl | ha
      · exact ⟨.inr rfl, sub.none hp⟩
      · exact ⟨.inl ha, (r.owns a ha).2⟩
    · refine List.nodup_cons.mpr ⟨fun hm => ?_, nd⟩
      obtain ⟨⟨ws, e⟩, _⟩ := r.owns p hm
      rw [hp] at e; cases e
  exact ⟨hp, pt_val hp⟩
theorem se_tup {es : Es} {exs : List Expr} {k : Nat} {pos : Pos} (h : SA G W cl P X es exs) : SE G W cl P X (.tup es) (.Tuple exs k pos) := by
  have hp : PE X (.Tuple exs k pos) (TEr G W cl P (.tup es)) := by
    refine PE.imp (pe_tup h) fun σ H Q hq => te_args (mk := mkT) (o := .tup) hq (fun _ _ => by simp [Lk]) (fun ρ => by simp only [evE] <;> (cases evEs cl P es ρ <;> rfl)) fun us F H vs ps p sub r hp => ?_
    have hF : F p = none := sub.none hp
    have hsub : Sub (upd F p (.tup vs)) (upd H p (.tup vs)) := fun a o e => by
      by_cases ha : a = p
      · subst ha; rw [upd_same] at e ⊢; exact e
      · rw [upd_ne ha] at e ⊢; exact sub a o e
    have pne : ∀ a ∈ ps, a ≠ p := fun a ha e => by
      obtain ⟨⟨ws, z⟩, _⟩ := r.owns a ha
      rw [e, hp] at z; cases z
    have rk : RepUs G (upd F p (.tup vs)) (upd H p (.tup vs)) us vs ps := r.mono (Sub.upd hF) fun a ha => ⟨by rw [upd_ne (pne a ha)]; exact (r.owns a ha).2, fun o e => by rw [upd_ne (pne a ha)]; exact e⟩
    refine ⟨upd F p (.tup vs), ps, hsub, ?_, Sub.upd hF, fun a ha => ?_, fun a ha => ⟨.inl ha, ?_⟩, fun nd => nd, fun a h1 h2 h3 => by rw [upd_ne h3]; exact h1⟩
    · unfold mkT
      split
      · rename_i hz
        have e := all_fz hz
        have hps : ps = [] := by
          have : ∀ {ds : List D} {vs : List V} {ps : List Addr}, RepUs G F H (fzs ds) vs ps → ps = [] := by
            intro ds
            induction ds with
            | nil => intro vs ps h; simp only [fzs, List.map_nil, RepUs] at h; exact h.2
            | cons d ds ih =>
              intro vs ps h
              simp only [fzs, List.map_cons, RepUs, RepU] at h
              obtain ⟨v, r, p, q, _, rfl, ⟨rfl, _⟩, h2⟩ := h
              simp [ih h2]
          rw [e] at r
          exact this r
        subst hps
        simp only [RepU, Rep, true_and]
        refine ⟨p, vs, rfl, .inl (.inl upd_same), ?_⟩
        exact rk.freeze (Sub.refl _) fun a ha => by simp at ha
      · simp only [RepU]
        exact ⟨p, vs, rfl, upd_same, rk⟩
    · by_cases e : a = p
      · exact .inr (.inr e)
      · rw [upd_ne e] at ha; exact .inl ha
    · rw [upd_ne (pne a ha)]; exact (r.owns a ha).2
  exact ⟨hp, pt_val hp⟩
end
end Pv

/-! Pv4: the operations on values. -/
namespace Pv
open PySem PySem.Spec PyProof.Rows L2

section
variable {G : Gx} {W : WX} {cl : Str → List U → RC} {P : List Nat} {X : Cx} {F H : Hp}
/-! ### plain data -/
mutual
theorem Rep.dp {K : PySem.W.Frag} (hK : K = G.K) : ∀ {d : D} {v : V} {p : PyData}, Rep G F d v → d.data = some p → Dp K F v p
  | .non, _, _, h, e => by simp only [Rep, D.data, Option.some.injEq] at h e; subst h e; exact .non
  | .bl b, _, _, h, e => by simp only [Rep, D.data, Option.some.injEq] at h e; subst h e; exact .bl b
  | .int b, _, _, h, e => by simp only [Rep, D.data, Option.some.injEq] at h e; subst h e; exact .int b
  | .str b, _, _, h, e => by simp only [Rep, D.data, Option.some.injEq] at h e; subst h e; exact .str b
  | .tup ds, _, _, h, e => by
    simp only [Rep, D.data, Option.map_eq_some_iff] at h e
    obtain ⟨a, vs, rfl, h1, h2⟩ := h
    obtain ⟨ps, e1, rfl⟩ := e
    exact .tup (by rw [hK]; exact h1) (Reps.dp hK h2 e1)
  | .lst ds, _, _, h, e => by
    simp only [Rep, D.data, Option.map_eq_some_iff] at h e
    obtain ⟨a, vs, rfl, h1, h2⟩ := h
    obtain ⟨ps, e1, rfl⟩ := e
    exact .lst (by rw [hK]; exact h1) (Reps.dp hK h2 e1)
  | .dic _ _, _, _, h, e => by simp [D.data] at e
  | .fn _, _, _, h, e => by simp [D.data] at e
  | .ty _, _, _, h, e => by simp [D.data] at e
  | .cls _, _, _, h, e => by simp [D.data] at e
  | .exc _ _, _, _, h, e => by simp [D.data] at e
theorem Reps.dp {K : PySem.W.Frag} (hK : K = G.K) : ∀ {ds : List D} {vs : List V} {ps : List PyData}, Reps G F ds vs → Ds.data ds = some ps → DpAll K F vs ps
  | [], _, _, h, e => by
    have := h.nil_inv; subst this
    simp only [Ds.data, Option.some.injEq] at e; subst e
    exact .nil
  | d :: ds, _, _, h, e => by
    obtain ⟨v, r, rfl, h1, h2⟩ := h.cons_inv
    simp only [Ds.data] at e
    cases e1 : d.data with
    | none => rw [e1] at e; simp at e
    | some p =>
      cases e2 : Ds.data ds with
      | none => rw [e1, e2] at e; simp at e
      | some ps =>
        rw [e1, e2] at e
        simp only [Option.some.injEq] at e; subst e
        exact .cons (Rep.dp hK h1 e1) (Reps.dp hK h2 e2)
end
theorem Rep.int_inv {i : Int} {v : V} (h : Rep G F (.int i) v) : v = .int i := by simpa [Rep] using h
theorem Rep.bl_inv {i : Bool} {v : V} (h : Rep G F (.bl i) v) : v = .bl i := by simpa [Rep] using h
theorem Rep.str_inv {i : Str} {v : V} (h : Rep G F (.str i) v) : v = .str i := by simpa [Rep] using h
theorem Rep.non_inv {v : V} (h : Rep G F .non v) : v = .non := by simpa [Rep] using h
theorem Rep.lst_inv {ds : List D} {v : V} (h : Rep G F (.lst ds) v) : ∃ a vs, v = .ref a ∧ SqL G.K F a vs ∧ Reps G F ds vs := by simpa [Rep] using h
theorem Rep.tup_inv {ds : List D} {v : V} (h : Rep G F (.tup ds) v) : ∃ a vs, v = .ref a ∧ SqT G.K F a vs ∧ Reps G F ds vs := by simpa [Rep] using h
theorem Reps.two_inv {ds : List D} {x y : V} (h : Reps G F ds [x, y]) : ∃ a b, ds = [a, b] ∧ Rep G F a x ∧ Rep G F b y := by
  have hl := h.length
  match ds, h, hl with
  | [a, b], h, _ =>
    obtain ⟨v, r, e, h1, h2⟩ := h.cons_inv
    obtain ⟨v2, r2, e2, h3, h4⟩ := h2.cons_inv
    cases e; cases e2
    exact ⟨a, b, rfl, h1, h3⟩
theorem Reps.two {a b : D} {vs : List V} (h : Reps G F [a, b] vs) : ∃ x y, vs = [x, y] ∧ Rep G F a x ∧ Rep G F b y := by
  obtain ⟨v, r, e, h1, h2⟩ := h.cons_inv
  obtain ⟨v2, r2, e2, h3, h4⟩ := h2.cons_inv
  have := h4.nil_inv
  subst this e2 e
  exact ⟨_, _, rfl, h1, h3⟩
theorem Reps.one {a : D} {vs : List V} (h : Reps G F [a] vs) : ∃ x, vs = [x] ∧ Rep G F a x := by
  obtain ⟨v, r, e, h1, h2⟩ := h.cons_inv
  have := h2.nil_inv
  subst this e
  exact ⟨_, rfl, h1⟩
theorem len2 {ds : List D} (h : ds.length = 2) : ∃ a b, ds = [a, b] := by
  match ds, h with
  | [a, b], _ => exact ⟨a, b, rfl⟩
theorem len1 {ds : List D} (h : ds.length = 1) : ∃ a, ds = [a] := by
  match ds, h with
  | [a], _ => exact ⟨a, rfl⟩

/-! ### binary operators -/
theorem se_bin {o : O} {op : Operator} {r : R2} {a b : E} {ea eb : Expr} {pos : Pos} (ho : OpR X (binaryOp op) r) (sa : SE G W cl P X a ea) (sb : SE G W cl P X b eb)
    (hr : ∀ F H da db x y u Q, Sub F H → Rep G F da x → Rep G F db y → opF o [da, db] = some u → OpOut G F H u Q → r x y H Q) :
    SE G W cl P X (.op o (.cons a (.cons b .nil))) (.BinOp ea op eb pos) := by
  have h : PE X (.BinOp ea op eb pos) (TEr G W cl P (.op o (.cons a (.cons b .nil)))) := by
    refine PE.imp (pe_op ho sa.pe sb.pe) fun σ H Q h => ?_
    refine two (opA (r := fun vs H Q => ∃ x y, vs = [x, y] ∧ r x y H Q) h fun F' H' vs ds u sub rs hl ho' out => ?_)
    obtain ⟨da, db, rfl⟩ := len2 hl
    obtain ⟨x, y, rfl, r1, r2⟩ := rs.two
    exact ⟨x, y, rfl, hr F' H' da db x y u Q sub r1 r2 ho' out⟩
  exact ⟨h, pt_val h⟩
theorem opInt_inv {C : Int → Int → Bool} {f : Int → Int → U} {a b : D} {u : U} (h : opInt C f a b = some u) : ∃ i j, a = .int i ∧ b = .int j ∧ C i j = true ∧ u = f i j := by
  cases a <;> cases b <;> simp only [opInt] at h <;> try cases h
  rename_i i j
  split at h
  · rename_i hc
    cases h
    exact ⟨i, j, rfl, rfl, hc, rfl⟩
  · cases h

/-- xs + ys of any lists -/
def rCatL (K : PySem.W.Frag) : R2 := fun x y H Q => ∃ l b xs zs, x = .ref l ∧ y = .ref b ∧ SqL K H l xs ∧ SqL K H b zs ∧ xs.length + zs.length ≤ sizeLine ∧ ∀ p, H p = none → Q (.ref p) (upd H p (.lst (xs ++ zs)))
theorem op_catL : OpR X (binaryOp .Add) (rCatL X.K) := by
  intro pins s σ H x y v u Q I rx ry h
  obtain ⟨l, b, xs, zs, rfl, rfl, hH, hB, hz, q⟩ := h
  cases rx
  cases ry
  obtain ⟨its, r, pl, _⟩ := I.list hH
  obtain ⟨its2, r2, pl2, _⟩ := I.list hB
  have hl := r.length
  have hl2 := r2.length
  obtain ⟨⟨cls, dd, data, sl⟩, ho, hc, n, hd⟩ := pl.isList
  obtain ⟨⟨cls2, dd2, data2, sl2⟩, ho2, hc2, n2, hd2⟩ := pl2.isList
  simp only at hc hd hc2 hd2
  subst hc hd hc2 hd2
  refine concat_meets ⟨_, ho, rfl⟩ ⟨_, ho2, rfl⟩ noFill_list_add seq_list_add PySem.F.slot_list_add PySem.F.entry_list_add (PySem.F.args_list_add_2 _ _) (list_addW l b its.toArray its2.toArray n n2 dd dd2 sl sl2 (by simp only [List.size_toArray]; omega)) ⟨ho, ho2, ?_⟩
  have ea : its.toArray ++ its2.toArray = (its ++ its2).toArray := by simp
  rw [ea]
  refine ⟨.ref s.heap.objs.size, _, I.laid (t' := s.toks) (o := .lst (xs ++ zs)) (fun b ob q => Heap.get?_push_of_some _ q) (Nat.le_refl _) ?_, rfl, q _ (I.hok.fresh (Nat.le_refl _))⟩
  exact ⟨by rw [List.length_append]; omega, _, 0, r.append r2, Heap.get?_push_size _ rfl⟩
def rAddAll (K : PySem.W.Frag) : R2 := fun x y H Q => (rI0 (fun i j => .int (i + j))) x y H Q ∨ (∃ i j, x = .str i ∧ y = .str j ∧ i.length + j.length ≤ sizeLine ∧ Q (.str (i ++ j)) H) ∨ rCatL K x y H Q ∨ rCatA K x y H Q
theorem op_addAll : OpR X (binaryOp .Add) (rAddAll X.K) := op_add.or (op_add_str.or (op_catL.or op_catA))
theorem se_add {a b : E} {ea eb : Expr} {pos : Pos} (hK : X.K = G.K) (sa : SE G W cl P X a ea) (sb : SE G W cl P X b eb) : SE G W cl P X (.op .add (.cons a (.cons b .nil))) (.BinOp ea .Add eb pos) := by
  refine se_bin op_addAll sa sb fun F H da db x y u Q sub r1 r2 ho out => ?_
  simp only [opF] at ho
  cases da <;> cases db <;> simp only [opAdd] at ho <;> try cases ho
  · rename_i i j
    cases r1.int_inv; cases r2.int_inv
    exact .inl ⟨i, j, rfl, rfl, out.int sub⟩
  · rename_i i j
    split at ho
    · rename_i hz
      cases ho
      cases r1.str_inv; cases r2.str_inv
      exact .inr (.inl ⟨i, j, rfl, rfl, le_lim hz, OpOut.scalar out sub (by simp [Rep])⟩)
    · cases ho
  · rename_i ds es
    split at ho
    · rename_i hz
      cases ho
      obtain ⟨p, vs, rfl, h1, h2⟩ := r1.tup_inv
      obtain ⟨q, ws, rfl, h3, h4⟩ := r2.tup_inv
      refine .inr (.inr (.inr ⟨p, q, vs, ws, rfl, rfl, by rw [hK]; exact sub.sqT h1, by rw [hK]; exact sub.sqT h3, by rw [h2.length, h4.length]; exact le_lim hz, fun e => ?_, fun _ e => ?_, fun _ _ => out.tup sub (h2.append h4)⟩))
      · subst e
        have : ds = [] := by have := h2.length; exact List.length_eq_zero_iff.mp this.symm
        subst this
        exact OpOut.scalar out sub (by simp only [Rep, List.nil_append]; exact ⟨q, ws, rfl, h3, h4⟩)
      · subst e
        have : es = [] := by have := h4.length; exact List.length_eq_zero_iff.mp this.symm
        subst this
        exact OpOut.scalar out sub (by simp only [Rep, List.append_nil]; exact ⟨p, vs, rfl, h1, h2⟩)
    · cases ho
  · rename_i ds es
    split at ho
    · rename_i hz
      cases ho
      obtain ⟨p, vs, rfl, h1, h2⟩ := r1.lst_inv
      obtain ⟨q, ws, rfl, h3, h4⟩ := r2.lst_inv
      exact .inr (.inr (.inl ⟨p, q, vs, ws, rfl, rfl, by rw [hK]; exact sub.sqL h1, by rw [hK]; exact sub.sqL h3, by rw [h2.length, h4.length]; exact le_lim hz, out.list sub (h2.append h4)⟩))
    · cases ho
theorem se_sub {a b : E} {ea eb : Expr} {pos : Pos} (sa : SE G W cl P X a ea) (sb : SE G W cl P X b eb) : SE G W cl P X (.op .sub (.cons a (.cons b .nil))) (.BinOp ea .Sub eb pos) := by
  refine se_bin op_sub sa sb fun F H da db x y u Q sub r1 r2 ho out => ?_
  obtain ⟨i, j, rfl, rfl, hc, rfl⟩ := opInt_inv (show opInt _ _ da db = some u from ho)
  cases r1.int_inv; cases r2.int_inv
  exact ⟨i, j, rfl, rfl, out.int sub⟩
theorem se_fdiv {a b : E} {ea eb : Expr} {pos : Pos} (sa : SE G W cl P X a ea) (sb : SE G W cl P X b eb) : SE G W cl P X (.op .fdiv (.cons a (.cons b .nil))) (.BinOp ea .FloorDiv eb pos) := by
  refine se_bin op_fdivW sa sb fun F H da db x y u Q sub r1 r2 ho out => ?_
  obtain ⟨i, j, rfl, rfl, hc, rfl⟩ := opInt_inv (show opInt _ _ da db = some u from ho)
  simp only [Bool.and_eq_true, decide_eq_true_eq] at hc
  cases r1.int_inv; cases r2.int_inv
  exact ⟨i, j, rfl, rfl, hc, out.int sub⟩
theorem se_mod {a b : E} {ea eb : Expr} {pos : Pos} (sa : SE G W cl P X a ea) (sb : SE G W cl P X b eb) : SE G W cl P X (.op .mod (.cons a (.cons b .nil))) (.BinOp ea .Mod eb pos) := by
  refine se_bin op_mod sa sb fun F H da db x y u Q sub r1 r2 ho out => ?_
  obtain ⟨i, j, rfl, rfl, hc, rfl⟩ := opInt_inv (show opInt _ _ da db = some u from ho)
  simp only [decide_eq_true_eq] at hc
  cases r1.int_inv; cases r2.int_inv
  exact ⟨i, j, rfl, rfl, hc, out.int sub⟩
theorem bits_le {i : Int} (h : i.natAbs < 2 ^ 1000) : Builtin.Int.intBits i ≤ 1000 := intBits_le h
def rPow : R2 := rI (fun i j => 0 ≤ j ∧ j ≤ 1000 ∧ i.natAbs < 2 ^ 1000) fun i j => .int (i ^ j.toNat)
theorem op_powW : OpR X (binaryOp .Pow) rPow := opI fun i j _ _ _ _ _ hc q => pow_int hc.1 (by
  have h1 := bits_le hc.2.2
  have h2 := hc.2.1
  have h3 := hc.1
  have h4 : (Builtin.Int.intBits i : Int) * j ≤ 1000 * 1000 := Int.mul_le_mul (show (Builtin.Int.intBits i : Int) ≤ 1000 by omega) h2 h3 (by decide)
  exact Int.le_trans h4 (by decide)) q
theorem se_pow {a b : E} {ea eb : Expr} {pos : Pos} (sa : SE G W cl P X a ea) (sb : SE G W cl P X b eb) : SE G W cl P X (.op .pow (.cons a (.cons b .nil))) (.BinOp ea .Pow eb pos) := by
  refine se_bin op_powW sa sb fun F H da db x y u Q sub r1 r2 ho out => ?_
  obtain ⟨i, j, rfl, rfl, hc, rfl⟩ := opInt_inv (show opInt _ _ da db = some u from ho)
  simp only [Bool.and_eq_true, decide_eq_true_eq] at hc
  cases r1.int_inv; cases r2.int_inv
  exact ⟨i, j, rfl, rfl, ⟨hc.1.1, hc.1.2, hc.2⟩, out.int sub⟩
/-- ints; a list (that is tracked) times an int is not served yet -/
theorem se_mul {a b : E} {ea eb : Expr} {pos : Pos} (sa : SE G W cl P X a ea) (sb : SE G W cl P X b eb) : SE G W cl P X (.op .mul (.cons a (.cons b .nil))) (.BinOp ea .Mult eb pos) := by
  refine se_bin op_mulW sa sb fun F H da db x y u Q sub r1 r2 ho out => ?_
  simp only [opF] at ho
  cases da <;> cases db <;> simp only [opMul] at ho <;> try cases ho
  rename_i i j
  split at ho
  · rename_i hc
    cases ho
    cases r1.int_inv; cases r2.int_inv
    exact ⟨i, j, rfl, rfl, hc, out.int sub⟩
  · cases ho
theorem se_neg {a : E} {ea : Expr} {pos : Pos} (sa : SE G W cl P X a ea) : SE G W cl P X (.op .neg (.cons a .nil)) (.UnaryOp .USub ea pos) := by
  have h : PE X (.UnaryOp .USub ea pos) (TEr G W cl P (.op .neg (.cons a .nil))) := by
    refine PE.imp (pe_un un_neg sa.pe) fun σ H Q h => ?_
    refine one (opA (r := fun vs H Q => ∃ x, vs = [x] ∧ rU (fun i => .int (-i)) x H Q) h fun F' H' vs ds u sub rs hl ho' out => ?_)
    obtain ⟨da, rfl⟩ := len1 hl
    obtain ⟨x, rfl, r1⟩ := rs.one
    simp only [opF] at ho'
    cases da <;> simp only [asInt, Option.map_some, Option.map_none] at ho' <;> try cases ho'
    rename_i i
    cases r1.int_inv
    exact ⟨_, rfl, i, rfl, out.int sub⟩
  exact ⟨h, pt_val h⟩

/-! ### comparisons -/
def noSet : Expr → Bool
  | .Set .. => false
  | _ => true
theorem marks_of {op : CmpOp} {e : Expr} (h : noSet e = true) : behindInMarks op e = false := by
  cases e <;> first | rfl | (simp [noSet] at h)
theorem se_cmp {o : O} {op : CmpOp} {r : R2} {a b : E} {ea eb : Expr} {pos : Pos} (ho : OpR X (compareOp op) r) (sa : SE G W cl P X a ea) (sb : SE G W cl P X b eb) (hn : noSet eb = true)
    (hr : ∀ F H da db x y u Q, Sub F H → Rep G F da x → Rep G F db y → opF o [da, db] = some u → OpOut G F H u Q → r x y H Q) :
    SE G W cl P X (.op o (.cons a (.cons b .nil))) (.Compare ea [op] [eb] pos) := by
  have k : ∀ {σ H Q}, TEr G W cl P (.op o (.cons a (.cons b .nil))) σ H Q → tOp r (TEr G W cl P a) (TEr G W cl P b) σ H Q := fun {σ H Q} h => by
    refine two (opA (r := fun vs H Q => ∃ x y, vs = [x, y] ∧ r x y H Q) h fun F' H' vs ds u sub rs hl ho' out => ?_)
    obtain ⟨da, db, rfl⟩ := len2 hl
    obtain ⟨x, y, rfl, r1, r2⟩ := rs.two
    exact ⟨x, y, rfl, hr F' H' da db x y u Q sub r1 r2 ho' out⟩
  exact ⟨PE.imp (pe_cmpR ho sa.pe sb.pe (marks_of hn)) fun σ H Q h => k h, PT.imp (pt_cmpR ho sa.pe sb.pe (marks_of hn)) fun σ H Q h => k h⟩
theorem dp_sub {K : PySem.W.Frag} (s : Sub F H) : ∀ {v : V} {p : PyData}, Dp K F v p → Dp K H v p := by
  intro v p h
  induction h using Dp.rec (motive_2 := fun vs ps _ => DpAll K H vs ps) with
  | non => exact .non
  | bl b => exact .bl b
  | int i => exact .int i
  | str x => exact .str x
  | lst h _ ih => exact .lst (s.sqL h) ih
  | tup h _ ih => exact .tup (s.sqT h) ih
  | nil => exact .nil
  | cons _ _ ih1 ih2 => exact .cons ih1 ih2
theorem opEq_inv {f : Bool → Bool} {a b : D} {u : U} (h : opEq f a b = some u) : ∃ p q, a.data = some p ∧ b.data = some q ∧ SeqAt.shaped p = true ∧ SeqAt.shaped q = true ∧ u = boolU (f (PyData.eqv p q)) := by
  unfold opEq at h
  cases e1 : a.data with
  | none => rw [e1] at h; simp at h
  | some p =>
    cases e2 : b.data with
    | none => rw [e1, e2] at h; simp at h
    | some q =>
      rw [e1, e2] at h
      simp only at h
      split at h
      · rename_i hs
        rw [Bool.and_eq_true] at hs
        cases h
        exact ⟨p, q, rfl, rfl, hs.1, hs.2, rfl⟩
      · cases h
theorem se_eq {a b : E} {ea eb : Expr} {pos : Pos} (hK : X.K = G.K) (hu : X.A.units + 64 < cLine) (sa : SE G W cl P X a ea) (sb : SE G W cl P X b eb) (hn : noSet eb = true) : SE G W cl P X (.op .eq (.cons a (.cons b .nil))) (.Compare ea [.Eq] [eb] pos) := by
  refine se_cmp (op_eqD hu) sa sb hn fun F H da db x y u Q sub r1 r2 ho out => ?_
  obtain ⟨p, q, e1, e2, s1, s2, rfl⟩ := opEq_inv (show opEq id da db = some u from ho)
  exact ⟨p, q, dp_sub sub (r1.dp hK e1), dp_sub sub (r2.dp hK e2), s1, s2, out.bl sub⟩
theorem se_ne {a b : E} {ea eb : Expr} {pos : Pos} (hK : X.K = G.K) (hu : X.A.units + 64 < cLine) (sa : SE G W cl P X a ea) (sb : SE G W cl P X b eb) (hn : noSet eb = true) : SE G W cl P X (.op .ne (.cons a (.cons b .nil))) (.Compare ea [.NotEq] [eb] pos) := by
  refine se_cmp (op_neD hu) sa sb hn fun F H da db x y u Q sub r1 r2 ho out => ?_
  obtain ⟨p, q, e1, e2, s1, s2, rfl⟩ := opEq_inv (show opEq not da db = some u from ho)
  exact ⟨p, q, dp_sub sub (r1.dp hK e1), dp_sub sub (r2.dp hK e2), s1, s2, out.bl sub⟩
theorem se_cmpI {o : O} {op : CmpOp} {g : Int → Int → Bool} {a b : E} {ea eb : Expr} {pos : Pos} (ho : OpR X (compareOp op) (rI0 fun i j => .bl (g i j))) (he : ∀ da db, opF o [da, db] = opInt (fun _ _ => true) (fun i j => boolU (g i j)) da db)
    (sa : SE G W cl P X a ea) (sb : SE G W cl P X b eb) (hn : noSet eb = true) : SE G W cl P X (.op o (.cons a (.cons b .nil))) (.Compare ea [op] [eb] pos) := by
  refine se_cmp ho sa sb hn fun F H da db x y u Q sub r1 r2 ho out => ?_
  rw [he] at ho
  obtain ⟨i, j, rfl, rfl, _, rfl⟩ := opInt_inv ho
  cases r1.int_inv; cases r2.int_inv
  exact ⟨i, j, rfl, rfl, out.bl sub⟩
theorem se_lt {a b : E} {ea eb : Expr} {pos : Pos} (sa : SE G W cl P X a ea) (sb : SE G W cl P X b eb) (hn : noSet eb = true) : SE G W cl P X (.op .lt (.cons a (.cons b .nil))) (.Compare ea [.Lt] [eb] pos) := se_cmpI op_lt (fun _ _ => rfl) sa sb hn
theorem se_le {a b : E} {ea eb : Expr} {pos : Pos} (sa : SE G W cl P X a ea) (sb : SE G W cl P X b eb) (hn : noSet eb = true) : SE G W cl P X (.op .le (.cons a (.cons b .nil))) (.Compare ea [.LtE] [eb] pos) := se_cmpI op_le (fun _ _ => rfl) sa sb hn
theorem se_gt {a b : E} {ea eb : Expr} {pos : Pos} (sa : SE G W cl P X a ea) (sb : SE G W cl P X b eb) (hn : noSet eb = true) : SE G W cl P X (.op .gt (.cons a (.cons b .nil))) (.Compare ea [.Gt] [eb] pos) := se_cmpI op_gt (fun _ _ => rfl) sa sb hn
theorem se_ge {a b : E} {ea eb : Expr} {pos : Pos} (sa : SE G W cl P X a ea) (sb : SE G W cl P X b eb) (hn : noSet eb = true) : SE G W cl P X (.op .ge (.cons a (.cons b .nil))) (.Compare ea [.GtE] [eb] pos) := se_cmpI op_ge (fun _ _ => rfl) sa sb hn

/-! ### in -/
theorem Rep.flat {d : D} {v : V} (h : Rep G F d v) (f : d.flat = true) : flatV v = true := by
  cases d <;> simp [D.flat] at f <;> simp only [Rep] at h <;> subst h <;> rfl
theorem Rep.feq {a b : D} {x y : V} (h1 : Rep G F a x) (h2 : Rep G F b y) (f1 : a.flat = true) (f2 : b.flat = true) : eqV x y = D.feq a b := by
  cases a <;> simp [D.flat] at f1 <;> cases b <;> simp [D.flat] at f2 <;> simp only [Rep] at h1 h2 <;> subst h1 h2 <;> rfl
theorem Reps.allFlat : ∀ {ds : List D} {vs : List V}, Reps G F ds vs → ds.all D.flat = true → vs.all flatV = true
  | [], _, h, _ => by have := h.nil_inv; subst this; rfl
  | d :: ds, _, h, f => by
    obtain ⟨v, r, rfl, h1, h2⟩ := h.cons_inv
    rw [List.all_cons, Bool.and_eq_true] at f ⊢
    exact ⟨h1.flat f.1, Reps.allFlat h2 f.2⟩
theorem Reps.inV {a : D} {x : V} (ha : Rep G F a x) (fa : a.flat = true) : ∀ {ds : List D} {vs : List V}, Reps G F ds vs → ds.all D.flat = true → L2.inV x vs = ds.any fun z => D.feq z a
  | [], _, h, _ => by have := h.nil_inv; subst this; rfl
  | d :: ds, _, h, f => by
    obtain ⟨v, r, rfl, h1, h2⟩ := h.cons_inv
    rw [List.all_cons, Bool.and_eq_true] at f
    have ih := Reps.inV ha fa h2 f.2
    unfold L2.inV at ih ⊢
    rw [List.any_cons, List.any_cons, ih, h1.feq ha f.1 fa]
def rInAll (K : PySem.W.Frag) (neg : Bool) : R2 := fun x y H Q => (if neg then rNotInD K x y H Q else rInD K x y H Q) ∨ rIn K neg x y H Q ∨
  (∃ i j, x = .str i ∧ y = .str j ∧ Q (.bl ((if neg then not else id) (!(Builtin.Str.occurrences j i 0 j.length 1).isEmpty))) H)
theorem op_inAll (hu : X.A.units + 65 < cLine) : OpR X (compareOp .In) (rInAll X.K false) := (op_inD hu).or (op_in_seq.or op_in_str)
theorem op_notInAll (hu : X.A.units + 65 < cLine) : OpR X (compareOp .NotIn) (rInAll X.K true) := (op_notInD hu).or (op_notIn_seq.or op_notIn_str)
theorem in_all {neg : Bool} {K : PySem.W.Frag} (hK : K = G.K) {da db : D} {x y : V} {u : U} {Q : VK} (sub : Sub F H) (r1 : Rep G F da x) (r2 : Rep G F db y) (ho : opIn (if neg then not else id) da db = some u) (out : OpOut G F H u Q) : rInAll K neg x y H Q := by
  cases db <;> try (simp only [opIn] at ho; cases ho; done)
  · rename_i s
    cases da <;> simp only [opIn] at ho <;> try (cases ho; done)
    cases ho
    cases r1.str_inv; cases r2.str_inv
    exact .inr (.inr ⟨_, _, rfl, rfl, out.bl sub⟩)
  · rename_i ds
    simp only [opIn] at ho
    split at ho
    · rename_i hf
      cases ho
      rw [Bool.and_eq_true] at hf
      obtain ⟨p, vs, rfl, h1, h2⟩ := r2.tup_inv
      refine .inr (.inl ⟨p, vs, rfl, .inr (by rw [hK]; exact sub.sqT h1), r1.flat hf.1, h2.allFlat hf.2, ?_⟩)
      rw [Reps.inV r1 hf.1 h2 hf.2]
      cases neg <;> exact out.bl sub
    · cases ho
  · rename_i ds
    simp only [opIn] at ho
    split at ho
    · rename_i p qs e1 e2
      split at ho
      · rename_i hs
        cases ho
        rw [Bool.and_eq_true] at hs
        have d2 : Dp K H y (.list qs) := dp_sub sub (r2.dp hK (by simp only [D.data, e2, Option.map_some]))
        have d1 : Dp K H x p := dp_sub sub (r1.dp hK e1)
        refine .inl ?_
        cases neg
        · exact ⟨p, qs, d1, d2, hs.1, hs.2, out.bl sub⟩
        · exact ⟨p, qs, d1, d2, hs.1, hs.2, out.bl sub⟩
      · cases ho
    · cases ho
theorem se_in {a b : E} {ea eb : Expr} {pos : Pos} (hK : X.K = G.K) (hu : X.A.units + 65 < cLine) (sa : SE G W cl P X a ea) (sb : SE G W cl P X b eb) (hn : noSet eb = true) : SE G W cl P X (.op .isin (.cons a (.cons b .nil))) (.Compare ea [.In] [eb] pos) :=
  se_cmp (op_inAll hu) sa sb hn fun F H da db x y u Q sub r1 r2 ho out => in_all (neg := false) hK sub r1 r2 ho out
theorem se_notin {a b : E} {ea eb : Expr} {pos : Pos} (hK : X.K = G.K) (hu : X.A.units + 65 < cLine) (sa : SE G W cl P X a ea) (sb : SE G W cl P X b eb) (hn : noSet eb = true) : SE G W cl P X (.op .notin (.cons a (.cons b .nil))) (.Compare ea [.NotIn] [eb] pos) :=
  se_cmp (op_notInAll hu) sa sb hn fun F H da db x y u Q sub r1 r2 ho out => in_all (neg := true) hK sub r1 r2 ho out

/-! ### is None -/
theorem Rep.isnon {d : D} {v : V} (h : Rep G F d v) : decide (v = .non) = (match d with | .non => true | _ => false) := by
  cases d <;> simp only [Rep] at h <;> first | (subst h; rfl) | (obtain ⟨a, vs, rfl, _⟩ := h; rfl) | (obtain ⟨a, rfl, _⟩ := h; rfl) | exact h.elim
theorem se_isN {a : E} {ea : Expr} {k : Nat} {p pos : Pos} (sa : SE G W cl P X a ea) : SE G W cl P X (.op .isN (.cons a .nil)) (.Compare ea [.Is] [.Constant .none k p] pos) := by
  have kk : ∀ {σ H Q}, TEr G W cl P (.op .isN (.cons a .nil)) σ H Q → tOp (fun x y H Q => y = .non ∧ Q (.bl (decide (x = .non))) H) (TEr G W cl P a) (tC .non) σ H Q := fun {σ H Q} h => by
    refine one (opA (r := fun vs H Q => ∃ x, vs = [x] ∧ (tC .non σ H fun y H2 => y = .non ∧ Q (.bl (decide (x = .non))) H2)) h fun F' H' vs ds u sub rs hl ho' out => ?_)
    obtain ⟨da, rfl⟩ := len1 hl
    obtain ⟨x, rfl, r1⟩ := rs.one
    refine ⟨x, rfl, rfl, ?_⟩
    rw [r1.isnon]
    cases da <;> (simp only [opF, Option.some.injEq] at ho'; subst ho'; exact out.bl sub)
  exact ⟨PE.imp (pe_cmpR op_isN sa.pe pe_non rfl) fun σ H Q h => kk h, PT.imp (pt_cmpR op_isN sa.pe pe_non rfl) fun σ H Q h => kk h⟩
theorem se_notN {a : E} {ea : Expr} {k : Nat} {p pos : Pos} (sa : SE G W cl P X a ea) : SE G W cl P X (.op .notN (.cons a .nil)) (.Compare ea [.IsNot] [.Constant .none k p] pos) := by
  have kk : ∀ {σ H Q}, TEr G W cl P (.op .notN (.cons a .nil)) σ H Q → tOp (fun x y H Q => y = .non ∧ Q (.bl (!decide (x = .non))) H) (TEr G W cl P a) (tC .non) σ H Q := fun {σ H Q} h => by
    refine one (opA (r := fun vs H Q => ∃ x, vs = [x] ∧ (tC .non σ H fun y H2 => y = .non ∧ Q (.bl (!decide (x = .non))) H2)) h fun F' H' vs ds u sub rs hl ho' out => ?_)
    obtain ⟨da, rfl⟩ := len1 hl
    obtain ⟨x, rfl, r1⟩ := rs.one
    refine ⟨x, rfl, rfl, ?_⟩
    rw [r1.isnon]
    cases da <;> (simp only [opF, Option.some.injEq] at ho'; subst ho'; exact out.bl sub)
  exact ⟨PE.imp (pe_cmpR op_notN sa.pe pe_non rfl) fun σ H Q h => kk h, PT.imp (pt_cmpR op_notN sa.pe pe_non rfl) fun σ H Q h => kk h⟩
end
end Pv

/-! Pv5: tests, choices, chains, what is looked at without being taken. -/
namespace Pv
open PySem PySem.Spec PyProof.Rows L2

section
variable {G : Gx} {W : WX} {cl : Str → List U → RC} {P : List Nat} {X : Cx}
structure SW (G : Gx) (W : WX) (cl : Str → List U → RC) (P : List Nat) (X : Cx) (e : E) (ex : Expr) : Prop where
  pe : PE X ex (TEr G W cl P e)
  pw : PW X ex (TTr G W cl P e)
theorem SW.se {e : E} {ex : Expr} (h : SW G W cl P X e ex) : SE G W cl P X e ex := ⟨h.pe, h.pw.pt⟩
theorem PW.imp {X : Cx} {e : Expr} {t t' : TT} (h : PW X e t) (k : ∀ σ H Q, t' σ H Q → t σ H Q) : PW X e t' := ⟨fun w pins s σ H Q I q => h.run w pins s σ H Q I (k σ H Q q)⟩
/-- behind a truth value the code goes on from one of two results -/
theorem te_br {a : E} {e : E} {σ : L2.St} {H : Hp} {Q : VK} {t f : Env → R U} (h : TEr G W cl P e σ H Q) (he : ∀ σ v, Lk e σ v)
    (hev : ∀ ρ, evE cl P e ρ = match evE cl P a ρ with
      | .ok (.fz (.bl true)) ρ1 => t ρ1
      | .ok (.fz (.bl false)) ρ1 => f ρ1
      | .ex c v ρ1 => .ex c v ρ1
      | _ => .bad) :
    TEr G W cl P a σ H fun x H1 => ∃ c, x = .bl c ∧ ∃ F1 ρ1 os1, Inv2 G F1 H1 ρ1 σ os1 ∧ ∀ b, GE G W b (if c = true then t ρ1 else f ρ1) F1 H1 os1 σ Q := by
  obtain ⟨F, ρ, os, I, h⟩ := h
  refine ⟨F, ρ, os, I, ?_⟩
  rw [hev] at h
  cases hr : evE cl P a ρ with
  | bad => rw [hr] at h; exact h
  | ex c v ρ1 => rw [hr] at h; exact h
  | ok u ρ1 =>
    rw [hr] at h
    intro F1 H1 os1 v ps i1 r1 nd1 st1 lk
    cases u with
    | ul us => exact False.elim h
    | ut us => exact False.elim h
    | fz d =>
      cases d with
      | bl c =>
        simp only [RepU, Rep] at r1
        obtain ⟨rfl, rfl⟩ := r1
        refine ⟨c, rfl, F1, ρ1, os1, i1, fun b => ?_⟩
        have h' : GE G W e (if c = true then t ρ1 else f ρ1) F H os σ Q := by
          cases c
          · exact h
          · exact h
        cases hx : (if c = true then t ρ1 else f ρ1) with
        | bad => rw [hx] at h'; exact h'
        | ex c v ρ2 => rw [hx] at h'; exact GX.trans h' st1 fun a ha => by simpa using ha
        | ok u2 ρ2 =>
          rw [hx] at h'
          intro F2 H2 os2 v2 ps2 i2 r2 nd2 st2 _
          exact h' F2 H2 os2 v2 ps2 i2 r2 nd2 (st1.trans (by simpa using st2)) (he _ _)
      | _ => exact False.elim h
theorem ge_te {b : E} {F H : Hp} {ρ : Env} {σ : L2.St} {os : List Addr} {Q : VK} (I : Inv2 G F H ρ σ os) (h : GE G W b (evE cl P b ρ) F H os σ Q) : TEr G W cl P b σ H Q := ⟨F, ρ, os, I, h⟩
theorem ge_bl {b : E} {F H : Hp} {ρ : Env} {σ : L2.St} {os : List Addr} {Q : VK} {k : Bool} (I : Inv2 G F H ρ σ os) (h : GE G W b (.ok (boolU k) ρ) F H os σ Q) (hl : ∀ σ v, Lk b σ v) : Q (.bl k) H :=
  h F H os (.bl k) [] I (by simp [boolU, RepU, Rep]) (by simpa using I.nd) Step.refl (hl _ _)
theorem se_one {e : E} {a : Expr} {op : BoolOp} {pos : Pos} (h : SE G W cl P X e a) : SW G W cl P X e (.BoolOp op [a] pos) :=
  ⟨pe_one h.pe, match op with
    | .And => pw_and1 h.pt
    | .Or => pw_or1 h.pt⟩
theorem se_and {a b : E} {ea eb : Expr} {rest : List Expr} {pos : Pos} (sa : SE G W cl P X a ea) (sb : SW G W cl P X b (.BoolOp .And (eb :: rest) pos)) : SW G W cl P X (.and_ a b) (.BoolOp .And (ea :: eb :: rest) pos) := by
  have hv : ∀ ρ, evE cl P (.and_ a b) ρ = match evE cl P a ρ with
      | .ok (.fz (.bl true)) ρ1 => evE cl P b ρ1
      | .ok (.fz (.bl false)) ρ1 => .ok (boolU false) ρ1
      | .ex c v ρ1 => .ex c v ρ1
      | _ => .bad := fun ρ => by simp only [evE] <;> rfl
  have hl : ∀ σ v, Lk (.and_ a b) σ v := fun _ _ => by simp [Lk]
  refine ⟨PE.imp (pe_and sa.pe sb.pe) fun σ H Q h => ?_, PW.imp (pw_and sa.pt sb.pw) fun σ H Q h => ?_⟩
  · refine (te_br h hl hv).mono fun x H1 ⟨c, e, F1, ρ1, os1, I1, q⟩ => ⟨c, e, ?_⟩
    cases c with
    | true => rw [if_pos rfl] at q ⊢; exact ge_te I1 (q b)
    | false => rw [if_neg Bool.false_ne_true] at q ⊢; exact ge_bl I1 (q (.and_ a b)) hl
  · refine (te_br h hl hv).mono fun x H1 ⟨c, e, F1, ρ1, os1, I1, q⟩ => ⟨c, e, ?_⟩
    cases c with
    | true => rw [if_pos rfl] at q ⊢; exact ge_te I1 (q b)
    | false =>
      rw [if_neg Bool.false_ne_true] at q ⊢
      obtain ⟨k, e, q⟩ := ge_bl I1 (q (.and_ a b)) hl
      cases e; exact q
theorem se_or {a b : E} {ea eb : Expr} {rest : List Expr} {pos : Pos} (sa : SE G W cl P X a ea) (sb : SW G W cl P X b (.BoolOp .Or (eb :: rest) pos)) : SW G W cl P X (.or_ a b) (.BoolOp .Or (ea :: eb :: rest) pos) := by
  have hv : ∀ ρ, evE cl P (.or_ a b) ρ = match evE cl P a ρ with
      | .ok (.fz (.bl true)) ρ1 => .ok (boolU true) ρ1
      | .ok (.fz (.bl false)) ρ1 => evE cl P b ρ1
      | .ex c v ρ1 => .ex c v ρ1
      | _ => .bad := fun ρ => by simp only [evE] <;> rfl
  have hl : ∀ σ v, Lk (.or_ a b) σ v := fun _ _ => by simp [Lk]
  refine ⟨PE.imp (pe_or sa.pe sb.pe) fun σ H Q h => ?_, PW.imp (pw_or sa.pt sb.pw) fun σ H Q h => ?_⟩
  · refine (te_br h hl hv).mono fun x H1 ⟨c, e, F1, ρ1, os1, I1, q⟩ => ⟨c, e, ?_⟩
    cases c with
    | false => rw [if_neg Bool.false_ne_true] at q ⊢; exact ge_te I1 (q b)
    | true => rw [if_pos rfl] at q ⊢; exact ge_bl I1 (q (.or_ a b)) hl
  · refine (te_br h hl hv).mono fun x H1 ⟨c, e, F1, ρ1, os1, I1, q⟩ => ⟨c, e, ?_⟩
    cases c with
    | false => rw [if_neg Bool.false_ne_true] at q ⊢; exact ge_te I1 (q b)
    | true =>
      rw [if_pos rfl] at q ⊢
      obtain ⟨k, e, q⟩ := ge_bl I1 (q (.or_ a b)) hl
      cases e; exact q
theorem se_not {a : E} {ea : Expr} {pos : Pos} (sa : SE G W cl P X a ea) : SE G W cl P X (.not_ a) (.UnaryOp .Not ea pos) := by
  have hv : ∀ ρ, evE cl P (.not_ a) ρ = match evE cl P a ρ with
      | .ok (.fz (.bl true)) ρ1 => .ok (boolU false) ρ1
      | .ok (.fz (.bl false)) ρ1 => .ok (boolU true) ρ1
      | .ex c v ρ1 => .ex c v ρ1
      | _ => .bad := fun ρ => by
    simp only [evE]
    cases evE cl P a ρ with
    | ok u ρ1 =>
      cases u with
      | fz d => cases d <;> first | rfl | (rename_i b; cases b <;> rfl)
      | ul us => rfl
      | ut us => rfl
    | ex c v ρ1 => rfl
    | bad => rfl
  have hl : ∀ σ v, Lk (.not_ a) σ v := fun _ _ => by simp [Lk]
  have key : ∀ {σ : L2.St} {H : Hp} {Q : VK}, TEr G W cl P (.not_ a) σ H Q → TEr G W cl P a σ H fun x H1 => ∃ c, x = .bl c ∧ Q (.bl (!c)) H1 := fun {σ H Q} h => by
    refine (te_br h hl hv).mono fun x H1 ⟨c, e, F1, ρ1, os1, I1, q⟩ => ⟨c, e, ?_⟩
    cases c with
    | true => rw [if_pos rfl] at q; exact ge_bl I1 (q (.not_ a)) hl
    | false => rw [if_neg Bool.false_ne_true] at q; exact ge_bl I1 (q (.not_ a)) hl
  refine ⟨PE.imp (pe_not sa.pe) fun σ H Q h => key h, PT.imp (pt_not sa.pt) fun σ H Q h => ?_⟩
  exact (key h).mono fun x H1 ⟨c, e, k, e2, q⟩ => ⟨c, e, by cases e2; exact q⟩
theorem se_ite {c a b : E} {ec ea eb : Expr} {pos : Pos} (sc : SE G W cl P X c ec) (sa : SE G W cl P X a ea) (sb : SE G W cl P X b eb) : SE G W cl P X (.ite c a b) (.IfExp ec ea eb pos) := by
  have hv : ∀ ρ, evE cl P (.ite c a b) ρ = match evE cl P c ρ with
      | .ok (.fz (.bl true)) ρ1 => evE cl P a ρ1
      | .ok (.fz (.bl false)) ρ1 => evE cl P b ρ1
      | .ex c v ρ1 => .ex c v ρ1
      | _ => .bad := fun ρ => by simp only [evE] <;> rfl
  have hl : ∀ σ v, Lk (.ite c a b) σ v := fun _ _ => by simp [Lk]
  have key : ∀ {σ : L2.St} {H : Hp} {Q : VK}, TEr G W cl P (.ite c a b) σ H Q → TEr G W cl P c σ H fun x H1 => ∃ k, x = .bl k ∧ if k = true then TEr G W cl P a σ H1 Q else TEr G W cl P b σ H1 Q := fun {σ H Q} h => by
    refine (te_br h hl hv).mono fun x H1 ⟨k, e, F1, ρ1, os1, I1, q⟩ => ⟨k, e, ?_⟩
    cases k with
    | true => rw [if_pos rfl] at q ⊢; exact ge_te I1 (q a)
    | false => rw [if_neg Bool.false_ne_true] at q ⊢; exact ge_te I1 (q b)
  refine ⟨PE.imp (pe_ifExp sc.pt sa.pe sb.pe) fun σ H Q h => key h, ?_⟩
  refine ⟨fun pins s σ H Q I h => ?_⟩
  have h2 := key h
  show wpAny _ _ (do if ← isTrue ec X.env (eval ec X.env) then isTrue ea X.env (eval ea X.env) else isTrue eb X.env (eval eb X.env)) _ _ s
  refine wpAny_bind (thn (sc.pt.run pins s σ H (fun k H1 => if k = true then TTr G W cl P a σ H1 Q else TTr G W cl P b σ H1 Q) I (h2.mono fun x H1 ⟨k, e, q⟩ => ⟨k, e, ?_⟩)) fun k s1 ⟨H1, I1, q⟩ => ?_)
  · cases k <;> exact q
  · cases k with
    | true => exact sa.pt.run pins s1 σ H1 Q I1 q
    | false => exact sb.pt.run pins s1 σ H1 Q I1 q

/-! ### chains -/
def Den (G : Gx) (o : O) (r : R2) : Prop := ∀ F H da db x y u Q, Sub F H → Rep G F da x → Rep G F db y → opF o [da, db] = some u → OpOut G F H u Q → r x y H Q
theorem den_int {o : O} {g : Int → Int → Bool} (he : ∀ da db, opF o [da, db] = opInt (fun _ _ => true) (fun i j => boolU (g i j)) da db) : Den G o (rI0 fun i j => .bl (g i j)) := fun F H da db x y u Q sub r1 r2 ho out => by
  rw [he] at ho
  obtain ⟨i, j, rfl, rfl, _, rfl⟩ := opInt_inv ho
  cases r1.int_inv; cases r2.int_inv
  exact ⟨i, j, rfl, rfl, out.bl sub⟩
theorem te_frz {a : E} {σ : L2.St} {H : Hp} {K : V → Hp → Prop} {F : Hp} {ρ : Env} {os : List Addr} (I : Inv2 G F H ρ σ os)
    (h : match evE cl P a ρ with
      | .ok u ρ1 => ∀ F1 H1 os1 x, Inv2 G F1 H1 ρ1 σ os1 → Rep G F1 u.d x → Step F H os F1 H1 os1 → K x H1
      | .ex c v ρ1 => GX G W c v ρ1 F H os σ
      | .bad => False) : TEr G W cl P a σ H K := by
  refine ⟨F, ρ, os, I, ?_⟩
  cases hr : evE cl P a ρ with
  | bad => rw [hr] at h; exact h
  | ex c v ρ1 => rw [hr] at h; exact h
  | ok u ρ1 =>
    rw [hr] at h
    intro F1 H1 os1 v ps i1 r1 nd1 st1 lk
    obtain ⟨i2, s2⟩ := share i1 r1.owns nd1
    exact h _ H1 os1 v i2 (share_rep r1) (st1.trans s2)
theorem se_chain {o o' : O} {op op' : CmpOp} {r r' : R2} {a b c : E} {ea eb ec : Expr} {pos : Pos} (ho : OpR X (compareOp op) r) (ho' : OpR X (compareOp op') r') (d : Den G o r) (d' : Den G o' r')
    (sa : SE G W cl P X a ea) (sb : SE G W cl P X b eb) (sc : SE G W cl P X c ec) (hm : lastMarks [op, op'] [eb, ec] = false) : SE G W cl P X (.chain o o' a b c) (.Compare ea [op, op'] [eb, ec] pos) := by
  have key : ∀ {σ : L2.St} {H : Hp} {Q : VK}, TEr G W cl P (.chain o o' a b c) σ H Q → tChain r r' (TEr G W cl P a) (TEr G W cl P b) (TEr G W cl P c) σ H Q := fun {σ H Q} ⟨F, ρ, os, I, h⟩ => by
    simp only [evE] at h
    refine te_frz I ?_
    cases e1 : evE cl P a ρ with
    | bad => rw [e1] at h; exact h
    | ex x v ρ1 => rw [e1] at h; exact h
    | ok u1 ρ1 =>
      rw [e1] at h
      intro F1 H1 os1 x i1 r1 st1
      refine te_frz i1 ?_
      simp only at h
      cases e2 : evE cl P b ρ1 with
      | bad => rw [e2] at h; exact h
      | ex x v ρ2 => rw [e2] at h; exact GX.trans h st1 fun a ha => ha
      | ok u2 ρ2 =>
        rw [e2] at h
        intro F2 H2 os2 y i2 r2 st2
        simp only at h
        cases e3 : opF o [u1.d, u2.d] with
        | none => rw [e3] at h; exact False.elim h
        | some w =>
          rw [e3] at h
          refine d F2 H2 _ _ x y w _ i2.sub (r1.mono st2.f) r2 e3 fun F3 H3 z ps3 sub3 r3 nd3 st3 => ?_
          obtain ⟨i3, n3, s3⟩ := out_step i2 sub3 nd3 st3
          cases w with
          | ul us => exact False.elim h
          | ut us => exact False.elim h
          | fz dw =>
            cases dw with
            | bl k =>
              simp only [RepU, Rep] at r3
              obtain ⟨rfl, rfl⟩ := r3
              refine ⟨k, rfl, ?_⟩
              have s3' : Step F H os F3 H3 os2 := (st1.trans st2).trans (by simpa using s3)
              cases k with
              | false =>
                rw [if_neg Bool.false_ne_true]
                exact h F3 H3 os2 (.bl false) [] i3 (by simp [boolU, RepU, Rep]) (by simpa using i3.nd) s3' (by simp [Lk])
              | true =>
                rw [if_pos rfl]
                simp only at h
                refine te_frz i3 ?_
                cases e4 : evE cl P c ρ2 with
                | bad => rw [e4] at h; exact h
                | ex x v ρ3 => rw [e4] at h; exact GX.trans h s3' fun a ha => ha
                | ok u3 ρ3 =>
                  rw [e4] at h
                  intro F4 H4 os4 z i4 r4 st4
                  simp only at h
                  cases e5 : opF o' [u2.d, u3.d] with
                  | none => rw [e5] at h; exact False.elim h
                  | some w2 =>
                    rw [e5] at h
                    refine d' F4 H4 _ _ y z w2 _ i4.sub ((r2.mono st3.f).mono st4.f) r4 e5 fun F5 H5 z5 ps5 sub5 r5 nd5 st5 => ?_
                    obtain ⟨i5, n5, s5⟩ := out_step i4 sub5 nd5 st5
                    cases w2 with
                    | ul us => exact False.elim h
                    | ut us => exact False.elim h
                    | fz dw2 =>
                      cases dw2 with
                      | bl k2 => exact h F5 H5 os4 z5 ps5 i5 r5 n5 ((s3'.trans st4).trans s5) (by simp [Lk])
                      | _ => exact False.elim h
            | _ => exact False.elim h
  exact ⟨PE.imp (pe_chain ho ho' sa.pe sb.pe sc.pe hm) fun σ H Q h => key h, PT.imp (pt_chain ho ho' sa.pe sb.pe sc.pe hm) fun σ H Q h => key h⟩

/-! ### looked at, not taken -/
theorem frzE_get {ρ : Env} {i : Nat} : (frzE ρ)[i]? = (ρ[i]?).map fun o => o.map fun u => .fz u.d := by unfold frzE; rw [List.getElem?_map]
theorem RepE.freeze {F H F' : Hp} (sf : Sub F F') : ∀ {ρ : Env} {σ : L2.St} {os : List Addr}, (∀ p ∈ os, ∀ o, H p = some o → F' p = some o) → RepE G F H ρ σ os → RepE G F' H (frzE ρ) σ []
  | [], _, _, _, h => by simp only [RepE, frzE, List.map_nil] at h ⊢; exact ⟨h.1, trivial⟩
  | none :: ρ, _, _, k, h => by
    simp only [RepE, frzE, List.map_cons, Option.map_none] at h ⊢
    obtain ⟨x, r, rfl, h⟩ := h
    exact ⟨x, r, rfl, RepE.freeze sf k h⟩
  | some u :: ρ, _, _, k, h => by
    simp only [RepE, frzE, List.map_cons, Option.map_some] at h ⊢
    obtain ⟨v, r, p, q, rfl, rfl, h1, h2⟩ := h
    exact ⟨v, r, [], [], rfl, rfl, by simp only [RepU, true_and]; exact h1.freeze sf fun x hx => k x (by simp [hx]), RepE.freeze sf (fun x hx => k x (by simp [hx])) h2⟩
theorem Rep.scalar {F F' : Hp} {d : D} {v : V} (h : Rep G F d v) (c : d.scalar = true) : Rep G F' d v := by
  cases d <;> simp [D.scalar] at c <;> simpa [Rep] using h
mutual
theorem RepU.clean {F H F' : Hp} : ∀ {u : U} {v : V} {ps : List Addr}, (∀ p ∈ ps, F' p = none) → u.clean = true → RepU G F H u v ps → RepU G F' H u v ps
  | .fz d, _, _, _, c, h => by simp only [RepU, U.clean] at h c ⊢; exact ⟨h.1, h.2.scalar c⟩
  | .ul us, _, _, k, c, h => by
    simp only [RepU, U.clean] at h c ⊢
    obtain ⟨p, vs, qs, rfl, rfl, h1, h2, h3⟩ := h
    exact ⟨p, vs, qs, rfl, rfl, h1, k p (by simp), RepUs.clean (fun x hx => k x (by simp [hx])) c h3⟩
  | .ut us, _, _, _, c, _ => by simp [U.clean] at c
theorem RepUs.clean {F H F' : Hp} : ∀ {us : List U} {vs : List V} {ps : List Addr}, (∀ p ∈ ps, F' p = none) → Us.clean us = true → RepUs G F H us vs ps → RepUs G F' H us vs ps
  | [], _, _, _, _, h => by simpa [RepUs] using h
  | u :: us, _, _, k, c, h => by
    simp only [RepUs, Us.clean, Bool.and_eq_true] at h c ⊢
    obtain ⟨v, r, p, q, rfl, rfl, h1, h2⟩ := h
    exact ⟨v, r, p, q, rfl, rfl, RepU.clean (fun x hx => k x (by simp [hx])) c.1 h1, RepUs.clean (fun x hx => k x (by simp [hx])) c.2 h2⟩
end
theorem te_brw {e : E} {σ : L2.St} {H : Hp} {Q : VK} (h : TEr G W cl P (.brw e) σ H Q) : TEr G W cl P e σ H Q := by
  obtain ⟨F, ρ, os, I, h⟩ := h
  have ow := I.env.owns
  have sf : Sub F (addF F H os) := addF_sub fun p hp => (ow p hp).2
  have sh : Sub (addF F H os) H := addF_le I.sub
  refine ⟨addF F H os, frzE ρ, [], ⟨sh, I.env.freeze sf fun p hp o e => by rw [addF_in hp]; exact e, List.nodup_nil⟩, ?_⟩
  simp only [evE] at h
  cases hr : evE cl P e (frzE ρ) with
  | bad => rw [hr] at h; exact h
  | ex c v ρ1 =>
    rw [hr] at h
    simp only at h
    by_cases hc : v.scalar = true
    · rw [if_pos hc] at h
      intro F' H' os' C a w I' hm ha hrv st
      -- the exception's own dict is new
      have hk : ∀ b o, H b = some o → H' b = some o := fun b o e => st.h b o e (by simp)
      have hHa : H a = none ∨ ∃ o, H a = some o := by cases q : H a <;> simp
      by_cases hFa : F a = some (.xd [(("value" : Str), w)])
      · refine h F H' os C a w ⟨fun b o e => hk b o (I.sub b o e), I.env.mono (Sub.refl F) fun p hp => ⟨(ow p hp).2, fun o e => hk p o e⟩, I.nd⟩ hm hFa (hrv.scalar hc) ⟨Sub.refl F, fun _ h => .inl h, fun b o e _ => hk b o e, st.t, fun _ h => .inl h⟩
      · have hn : a ∉ os := fun hp => by
          obtain ⟨⟨vs, e1⟩, _⟩ := ow a hp
          have := I'.sub a _ ha
          rw [hk a _ e1] at this; cases this
        have hHn : H a = none := by
          rcases st.n a (by rw [ha]; simp) with z | z | z
          · rw [addF_out hn] at z
            cases q : F a with
            | none => exact absurd q z
            | some o =>
              exfalso
              have e1 := hk a o (I.sub a o q)
              rw [I'.sub a _ ha] at e1
              cases e1
              exact hFa q
          · simp at z
          · exact z
        have hFn : F a = none := I.sub.none hHn
        refine h (upd F a (.xd [(("value" : Str), w)])) H' os C a w ⟨fun b o e => ?_, I.env.mono (Sub.upd hFn) fun p hp => ⟨?_, fun o e => hk p o e⟩, I.nd⟩ hm upd_same (hrv.scalar hc) ⟨Sub.upd hFn, fun b hb => ?_, fun b o e _ => hk b o e, st.t, fun _ h => .inl h⟩
        · by_cases eb : b = a
          · subst eb; rw [upd_same] at e; rw [← e]; exact I'.sub b _ ha
          · rw [upd_ne eb] at e; exact hk b o (I.sub b o e)
        · rw [upd_ne (fun e => hn (by rw [← e]; exact hp))]; exact (ow p hp).2
        · by_cases eb : b = a
          · exact .inr (.inr (by rw [eb]; exact hHn))
          · rw [upd_ne eb] at hb; exact .inl hb
    · rw [if_neg hc] at h; exact False.elim h
  | ok u ρ1 =>
    rw [hr] at h
    simp only at h
    by_cases hc : u.clean = true
    · rw [if_pos hc] at h
      intro F1 H1 os1 v ps i1 r1 nd1 st1 lk
      have hk : ∀ b o, H b = some o → H1 b = some o := fun b o e => st1.h b o e (by simp)
      have hps : ∀ p ∈ ps, H p = none := fun p hp => by
        rcases st1.o p (by simp [hp]) with z | z
        · simp at z
        · exact z
      have hpF : ∀ p ∈ ps, F p = none := fun p hp => I.sub.none (hps p hp)
      have i2 : Inv2 G F H1 ρ σ os := ⟨fun b o e => hk b o (I.sub b o e), I.env.mono (Sub.refl F) fun p hp => ⟨(ow p hp).2, fun o e => hk p o e⟩, I.nd⟩
      refine h F H1 os v ps i2 (r1.clean hpF hc) ?_ ⟨Sub.refl F, fun _ h => .inl h, fun b o e _ => hk b o e, st1.t, fun a ha => ?_⟩ (by simp [Lk])
      · rw [List.nodup_append]
        refine ⟨(List.nodup_append.mp nd1).1, I.nd, fun a ha b hb e => ?_⟩
        subst e
        obtain ⟨⟨vs, e1⟩, _⟩ := ow a hb
        rw [hps a ha] at e1; cases e1
      · rcases List.mem_append.mp ha with ha | ha
        · exact .inr (hps a ha)
        · exact .inl ha
    · rw [if_neg hc] at h; exact False.elim h
theorem se_brw {e : E} {ex : Expr} (s : SE G W cl P X e ex) : SE G W cl P X (.brw e) ex :=
  ⟨PE.imp s.pe fun σ H Q h => te_brw h, PT.imp s.pt fun σ H Q h => te_brw h⟩
end
end Pv

/-! Pv6: built-in calls, subscripts, slices, methods. -/
namespace Pv
open PySem PySem.Spec PyProof.Rows L2

section
variable {G : Gx} {W : WX} {cl : Str → List U → RC} {P : List Nat} {X : Cx} {F H : Hp}

def stars : List Expr → Bool
  | [] => true
  | e :: es => notStar e && stars es
theorem stars_ok {pos : Pos} {env : PySem.Env} : ∀ {es : List Expr}, stars es = true → (backTo pos (starEach es env)).any (·.1) = false
  | [], _ => rfl
  | e :: es, h => by
    simp only [stars, Bool.and_eq_true] at h
    rw [starEach_of h.1]
    show (false || (backTo pos (starEach es env)).any (·.1)) = false
    rw [stars_ok h.2]; rfl
theorem stars_all {pos : Pos} {env : PySem.Env} : ∀ {es : List Expr}, stars es = true → (backTo pos (starEach es env)).all (fun x => !x.1) = true
  | [], _ => rfl
  | e :: es, h => by
    simp only [stars, Bool.and_eq_true] at h
    rw [starEach_of h.1]
    show ((!false) && (backTo pos (starEach es env)).all (fun x => !x.1)) = true
    rw [stars_all h.2]; rfl
def DenC (G : Gx) (o : O) (r : List V → Hp → VK → Prop) : Prop := ∀ F H vs ds u Q, Sub F H → Reps G F ds vs → opF o ds = some u → OpOut G F H u Q → r vs H Q
theorem se_callB {o : O} {id : String} {x : Str} {r : List V → Hp → VK → Prop} {es : Es} {e : Expr} {exs : List Expr} {p pos : Pos} (hc : CallR X (.builtin id) r) (hg : Gl X x) (hm : X.mg x = none) (hv : bootBuiltins x = some (.builtin id))
    (hp : plainN x = true) (sa : SA G W cl P X es (e :: exs)) (hs : stars (e :: exs) = true) (den : DenC G o r) : SE G W cl P X (.op o es) (.Call (.Name x p) (e :: exs) [] pos) := by
  simp only [plainN, Bool.and_eq_true, Bool.not_eq_true', stars] at hp hs
  have h : PE X (.Call (.Name x p) (e :: exs) [] pos) (TEr G W cl P (.op o es)) := PE.imp (pe_callB hc hg hm hv sa (by intro z; rw [z] at hp; simp at hp) hp.1.1 (starEach_of hs.1) (stars_ok hs.2))
    fun σ H Q h => opA (r := r) h fun F' H' vs ds u sub rs hl ho out => den F' H' vs ds u Q sub rs ho out
  exact ⟨h, pt_val h⟩
theorem se_callTy {o : O} {T : String} {x : Str} {r : List V → Hp → VK → Prop} {es : Es} {e : Expr} {exs : List Expr} {p pos : Pos} (hc : CallR X (.type T) r) (hg : Gl X x) (hm : X.mg x = none) (hv : bootBuiltins x = some (.type T))
    (hp : plainN x = true) (sa : SA G W cl P X es (e :: exs)) (hs : stars (e :: exs) = true) (den : DenC G o r) : SE G W cl P X (.op o es) (.Call (.Name x p) (e :: exs) [] pos) := by
  simp only [plainN, Bool.and_eq_true, Bool.not_eq_true', stars] at hp hs
  have h : PE X (.Call (.Name x p) (e :: exs) [] pos) (TEr G W cl P (.op o es)) := PE.imp (pe_callTy hc hg hm hv sa (by intro z; rw [z] at hp; simp at hp) hp.1.1 (starEach_of hs.1) (stars_ok hs.2))
    fun σ H Q h => opA (r := r) h fun F' H' vs ds u sub rs hl ho out => den F' H' vs ds u Q sub rs ho out
  exact ⟨h, pt_val h⟩
theorem den_len : DenC G .len (fun xs H Q => (∃ p ys, xs = [.ref p] ∧ (SqL G.K H p ys ∨ SqT G.K H p ys) ∧ Q (.int ys.length) H) ∨ ∃ z, xs = [.str z] ∧ z.length ≤ sizeLine ∧ Q (.int z.length) H) := fun F H vs ds u Q sub rs ho out => by
  match ds, ho with
  | [d], ho =>
    obtain ⟨x, rfl, r⟩ := rs.one
    simp only [opF] at ho
    cases d <;> simp only [opLen] at ho <;> try (cases ho; done)
    · rename_i s
      split at ho
      · rename_i hz
        cases ho
        cases r.str_inv
        exact .inr ⟨s, rfl, le_lim hz, out.int sub⟩
      · cases ho
    · rename_i es
      cases ho
      obtain ⟨p, ys, rfl, h1, h2⟩ := r.tup_inv
      refine .inl ⟨p, ys, rfl, .inr (sub.sqT h1), ?_⟩
      rw [h2.length]; exact out.int sub
    · rename_i es
      cases ho
      obtain ⟨p, ys, rfl, h1, h2⟩ := r.lst_inv
      refine .inl ⟨p, ys, rfl, .inl (sub.sqL h1), ?_⟩
      rw [h2.length]; exact out.int sub
  | [], ho => simp [opF] at ho
  | _ :: _ :: _, ho => simp [opF] at ho
theorem c_len : CallR X (.builtin "len") (fun xs H Q => (∃ p ys, xs = [.ref p] ∧ (SqL X.K H p ys ∨ SqT X.K H p ys) ∧ Q (.int ys.length) H) ∨ ∃ z, xs = [.str z] ∧ z.length ≤ sizeLine ∧ Q (.int z.length) H) := call_len_seq.or call_len_str
theorem den_int1 : DenC G .int1 (fun xs H Q => (∃ i, xs = [.int i] ∧ Q (.int i) H) ∨ ∃ k, xs = [.bl k] ∧ Q (.int (if k then 1 else 0)) H) := fun F H vs ds u Q sub rs ho out => by
  match ds, ho with
  | [d], ho =>
    obtain ⟨x, rfl, r⟩ := rs.one
    simp only [opF] at ho
    cases d <;> simp only [asInt, Option.map_none, Option.map_some] at ho <;> try (cases ho; done)
    cases ho
    cases r.int_inv
    exact .inl ⟨_, rfl, out.int sub⟩
  | [], ho => simp [opF] at ho
  | _ :: _ :: _, ho => simp [opF] at ho
theorem many_inv {d : D} {ds : List D} (h : isMany d = some ds) : d = .lst ds ∨ d = .tup ds := by
  cases d <;> simp [isMany] at h <;> subst h <;> simp
theorem den_list1 : DenC G .list1 (fun xs H Q => ∃ p ys, xs = [.ref p] ∧ (SqL G.K H p ys ∨ SqT G.K H p ys) ∧ ∀ l, H l = none → Q (.ref l) (upd H l (.lst ys))) := fun F H vs ds u Q sub rs ho out => by
  match ds, ho with
  | [d], ho =>
    obtain ⟨x, rfl, r⟩ := rs.one
    simp only [opF, Option.map_eq_some_iff] at ho
    obtain ⟨es, e, rfl⟩ := ho
    rcases many_inv e with rfl | rfl
    · obtain ⟨p, ys, rfl, h1, h2⟩ := r.lst_inv
      exact ⟨p, ys, rfl, .inl (sub.sqL h1), out.list sub h2⟩
    · obtain ⟨p, ys, rfl, h1, h2⟩ := r.tup_inv
      exact ⟨p, ys, rfl, .inr (sub.sqT h1), out.list sub h2⟩
  | [], ho => simp [opF] at ho
  | _ :: _ :: _, ho => simp [opF] at ho
theorem den_tup1 : DenC G .tup1 (fun xs H Q => ∃ p ys, xs = [.ref p] ∧ ((SqL G.K H p ys ∧ ∀ l, H l = none → Q (.ref l) (upd H l (.tup ys))) ∨ (SqT G.K H p ys ∧ Q (.ref p) H))) := fun F H vs ds u Q sub rs ho out => by
  match ds, ho with
  | [d], ho =>
    obtain ⟨x, rfl, r⟩ := rs.one
    simp only [opF, Option.map_eq_some_iff] at ho
    obtain ⟨es, e, rfl⟩ := ho
    rcases many_inv e with rfl | rfl
    · obtain ⟨p, ys, rfl, h1, h2⟩ := r.lst_inv
      exact ⟨p, ys, rfl, .inl ⟨sub.sqL h1, out.tup sub h2⟩⟩
    · obtain ⟨p, ys, rfl, h1, h2⟩ := r.tup_inv
      exact ⟨p, ys, rfl, .inr ⟨sub.sqT h1, OpOut.scalar out sub (by simp only [Rep]; exact ⟨p, ys, rfl, h1, h2⟩)⟩⟩
  | [], ho => simp [opF] at ho
  | _ :: _ :: _, ho => simp [opF] at ho
theorem ints_rep : ∀ {ds : List D} {vs : List V} {ns : List Int}, Reps G F ds vs → intsD ds = some ns → vs = ns.map V.int
  | [], _, _, r, h => by have := r.nil_inv; subst this; simp [intsD] at h; subst h; rfl
  | d :: ds, _, ns, r, h => by
    obtain ⟨v, w, rfl, h1, h2⟩ := r.cons_inv
    simp only [intsD] at h
    cases d <;> try (simp at h; done)
    cases e : intsD ds with
    | none => rw [e] at h; simp at h
    | some is =>
      rw [e] at h
      simp only [Option.some.injEq] at h
      subst h
      cases h1.int_inv
      rw [ints_rep h2 e]; rfl
theorem bools_rep : ∀ {ds : List D} {vs : List V} {ns : List Bool}, Reps G F ds vs → boolsD ds = some ns → vs = ns.map V.bl
  | [], _, _, r, h => by have := r.nil_inv; subst this; simp [boolsD] at h; subst h; rfl
  | d :: ds, _, ns, r, h => by
    obtain ⟨v, w, rfl, h1, h2⟩ := r.cons_inv
    simp only [boolsD] at h
    cases d <;> try (simp at h; done)
    cases e : boolsD ds with
    | none => rw [e] at h; simp at h
    | some is =>
      rw [e] at h
      simp only [Option.some.injEq] at h
      subst h
      cases h1.bl_inv
      rw [bools_rep h2 e]; rfl
theorem den_sum1 : DenC G .sum1 (rSum G.K) := fun F H vs ds u Q sub rs ho out => by
  match ds, ho with
  | [.lst es], ho =>
    obtain ⟨x, rfl, r⟩ := rs.one
    simp only [opF, Option.map_eq_some_iff] at ho
    obtain ⟨ns, e, rfl⟩ := ho
    obtain ⟨p, ys, rfl, h1, h2⟩ := r.lst_inv
    have := ints_rep h2 e
    subst this
    exact ⟨p, ns, rfl, sub.sqL h1, out.int sub⟩
theorem den_all1 : DenC G .all1 (rAll G.K) := fun F H vs ds u Q sub rs ho out => by
  match ds, ho with
  | [.lst es], ho =>
    obtain ⟨x, rfl, r⟩ := rs.one
    simp only [opF, Option.map_eq_some_iff] at ho
    obtain ⟨ns, e, rfl⟩ := ho
    obtain ⟨p, ys, rfl, h1, h2⟩ := r.lst_inv
    have := bools_rep h2 e
    subst this
    exact ⟨p, ns, rfl, sub.sqL h1, out.bl sub⟩
theorem den_any1 : DenC G .any1 (rAny G.K) := fun F H vs ds u Q sub rs ho out => by
  match ds, ho with
  | [.lst es], ho =>
    obtain ⟨x, rfl, r⟩ := rs.one
    simp only [opF, Option.map_eq_some_iff] at ho
    obtain ⟨ns, e, rfl⟩ := ho
    obtain ⟨p, ys, rfl, h1, h2⟩ := r.lst_inv
    have := bools_rep h2 e
    subst this
    exact ⟨p, ns, rfl, sub.sqL h1, out.bl sub⟩
theorem foldl_max : ∀ (is : List Int) (i : Int), (∀ y ∈ i :: is, y ≤ is.foldl max i) ∧ is.foldl max i ∈ i :: is
  | [], i => by simp
  | j :: is, i => by
    obtain ⟨h1, h2⟩ := foldl_max is (max i j)
    simp only [List.foldl_cons]
    refine ⟨fun y hy => ?_, ?_⟩
    · simp only [List.mem_cons] at hy
      have h3 := h1 (max i j) (by simp)
      rcases hy with rfl | rfl | hy
      · omega
      · omega
      · exact h1 y (by simp [hy])
    · rcases List.mem_cons.mp h2 with h | h
      · rw [h]; rcases Int.le_total i j with h | h
        · simp [Int.max_eq_right h]
        · simp [Int.max_eq_left h]
      · simp [h]
theorem den_max1 : DenC G .max1 (rMax G.K) := fun F H vs ds u Q sub rs ho out => by
  match ds, ho with
  | [.lst es], ho =>
    obtain ⟨x, rfl, r⟩ := rs.one
    simp only [opF, Option.map_eq_some_iff, Option.bind_eq_some_iff] at ho
    obtain ⟨m, ⟨ns, e, hm⟩, rfl⟩ := ho
    obtain ⟨p, ys, rfl, h1, h2⟩ := r.lst_inv
    have := ints_rep h2 e
    subst this
    cases ns with
    | nil => simp [opMaxs] at hm
    | cons i is =>
      simp only [opMaxs, Option.some.injEq] at hm
      subst hm
      obtain ⟨k1, k2⟩ := foldl_max is i
      refine ⟨p, i :: is, rfl, sub.sqL h1, by simp, fun m hm hle => ?_⟩
      have : m = is.foldl max i := Int.le_antisymm (k1 m hm) (hle _ k2)
      rw [this]; exact out.int sub
theorem den_int2 {o : O} {g : Int → Int → Int} (he : ∀ ds u, opF o ds = some u → ∃ i j, ds = [.int i, .int j] ∧ u = intU (g i j)) : DenC G o (fun xs H Q => ∃ i j, xs = [.int i, .int j] ∧ Q (.int (g i j)) H) := fun F H vs ds u Q sub rs ho out => by
  obtain ⟨i, j, rfl, rfl⟩ := he ds u ho
  obtain ⟨x, y, rfl, r1, r2⟩ := rs.two
  cases r1.int_inv; cases r2.int_inv
  exact ⟨i, j, rfl, out.int sub⟩
theorem den_max2 : DenC G .max2 (fun xs H Q => ∃ i j, xs = [.int i, .int j] ∧ Q (.int (if j > i then j else i)) H) := den_int2 (g := fun i j => if j > i then j else i) fun ds u h => by
  match ds, h with
  | [a, b], h =>
    obtain ⟨i, j, rfl, rfl, _, rfl⟩ := opInt_inv (show opInt _ _ a b = some u from h)
    exact ⟨i, j, rfl, rfl⟩
theorem den_min2 : DenC G .min2 (fun xs H Q => ∃ i j, xs = [.int i, .int j] ∧ Q (.int (if j < i then j else i)) H) := den_int2 (g := fun i j => if j < i then j else i) fun ds u h => by
  match ds, h with
  | [a, b], h =>
    obtain ⟨i, j, rfl, rfl, _, rfl⟩ := opInt_inv (show opInt _ _ a b = some u from h)
    exact ⟨i, j, rfl, rfl⟩

/-! ### isinstance -/
def cls6 : List String := ["list", "tuple", "str", "bool", "int", "dict"]
theorem Rep.tyx {d : D} {x : V} {t : String} (r : Rep G F d x) (sub : Sub F H) (h : d.tyn = some t) : TyX G.K H x (.type t) := by
  cases d <;> simp only [D.tyn, Option.some.injEq] at h <;> try (cases h; done)
  · subst h; cases r.non_inv; exact .base .non
  · subst h; cases r.bl_inv; exact .base (.bl _)
  · subst h; cases r.int_inv; exact .base (.int _)
  · subst h; cases r.str_inv; exact .base (.str _)
  · subst h
    obtain ⟨p, ys, rfl, h1, h2⟩ := r.tup_inv
    rcases sub.sqT h1 with (h | ⟨o, h⟩) | ⟨o, its, n, hk, hc, _⟩
    · exact .base (.tup h)
    · exact .fTuple h
    · exact .kTuple hk hc
  · subst h
    obtain ⟨p, ys, rfl, h1, h2⟩ := r.lst_inv
    rcases sub.sqL h1 with (h | ⟨o, h⟩) | ⟨o, its, n, hk, hc, _⟩
    · exact .base (.lst h)
    · exact .base (.frz h)
    · exact .kList hk hc
theorem kit_all (K : PySem.W.Frag) {d : D} {t c : String} (h : d.tyn = some t) (hc : c ∈ cls6) : PySem.W.kitOne K (.type t) (.type c) = some (isaT t c) := by
  simp only [cls6, List.mem_cons, List.not_mem_nil, or_false] at hc
  cases d <;> simp only [D.tyn, Option.some.injEq] at h <;> (try (cases h; done)) <;> subst h <;>
    rcases hc with rfl | rfl | rfl | rfl | rfl | rfl <;> first | rfl | decide +kernel
theorem kit_any (K : PySem.W.Frag) {d : D} {t : String} (h : d.tyn = some t) : ∀ {ts : List String}, (∀ c ∈ ts, c ∈ cls6) → PySem.W.kitAny K (.type t) (ts.map .type) = some (ts.any (isaT t))
  | [], _ => rfl
  | c :: ts, hc => by
    have ih := kit_any K h (ts := ts) fun c hm => hc c (by simp [hm])
    have h1 := kit_all K h (hc c (by simp))
    simp only [List.map_cons, List.any_cons, PySem.W.kitAny, h1]
    cases isaT t c
    · simpa using ih
    · simp
theorem opIsa_inv {ts : List String} {d : D} {u : U} (h : opIsa ts d = some u) : ∃ t, d.tyn = some t ∧ u = boolU (ts.any (isaT t)) := by
  simp only [opIsa, Option.map_eq_some_iff] at h
  obtain ⟨t, e, rfl⟩ := h
  exact ⟨t, e, rfl⟩
def isTyName (X : Cx) (x : Str) (c : String) : Prop := Gl X x ∧ X.mg x = none ∧ bootBuiltins x = some (.type c) ∧ plainN x = true
theorem pe_tyname {x : Str} {c : String} {p : Pos} (h : isTyName X x c) : PE X (.Name x p) (tC (.ty c)) := by
  obtain ⟨h1, h2, h3, h4⟩ := h
  simp only [plainN, Bool.and_eq_true, Bool.not_eq_true'] at h4
  exact pe_bltn h1 h2 h3 rfl (by intro z; rw [z] at h4; simp at h4) h4.1.1
theorem isi_plain (h : isTyName X "isinstance" "isinstance" ∨ True) : True := trivial
theorem se_isa1 {a : E} {ea : Expr} {x : Str} {c : String} {p p' pos : Pos} (hK : X.K = G.K) (hg : Gl X "isinstance") (hm : X.mg "isinstance" = none) (sa : SE G W cl P X a ea) (hn : notStar ea = true) (hc : c ∈ cls6) (ht : isTyName X x c) :
    SE G W cl P X (.op (.isa [c]) (.cons a .nil)) (.Call (.Name "isinstance" p) [ea, .Name x p'] [] pos) := by
  have h : PE X (.Call (.Name "isinstance" p) [ea, .Name x p'] [] pos) (TEr G W cl P (.op (.isa [c]) (.cons a .nil))) := by
    refine PE.imp (pe_callB call_isi hg hm boot_isinstance (pa_cons sa.pe (pa_cons (pe_tyname ht) pa_nil rfl) (starEach_of hn)) (by decide) (by decide) (starEach_of hn) rfl) fun σ H Q h => ?_
    refine one (opA (r := fun vs H Q => ∃ x, vs = [x] ∧ rIsi X.K [x, .ty c] H Q) h fun F' H' vs ds u sub rs hl ho out => ?_)
    obtain ⟨da, rfl⟩ := len1 hl
    obtain ⟨x, rfl, r⟩ := rs.one
    obtain ⟨t, e, rfl⟩ := opIsa_inv (show opIsa [c] da = some u from ho)
    refine ⟨x, rfl, x, .ty c, .type t, .type c, isaT t c, rfl, .ty c, by rw [hK]; exact r.tyx sub e, kit_all _ e hc, ?_⟩
    simpa using OpOut.bl out sub
  exact ⟨h, pt_val h⟩
theorem se_isa2 {a : E} {ea : Expr} {x y : Str} {c d : String} {k : Nat} {p p1 p2 p3 pos : Pos} (hK : X.K = G.K) (hg : Gl X "isinstance") (hm : X.mg "isinstance" = none) (sa : SE G W cl P X a ea) (hn : notStar ea = true)
    (hc : c ∈ cls6) (hd : d ∈ cls6) (ht : isTyName X x c) (hu : isTyName X y d) :
    SE G W cl P X (.op (.isa [c, d]) (.cons a .nil)) (.Call (.Name "isinstance" p) [ea, .Tuple [.Name x p1, .Name y p2] k p3] [] pos) := by
  have h : PE X (.Call (.Name "isinstance" p) [ea, .Tuple [.Name x p1, .Name y p2] k p3] [] pos) (TEr G W cl P (.op (.isa [c, d]) (.cons a .nil))) := by
    refine PE.imp (pe_callB call_isiT hg hm boot_isinstance (pa_cons sa.pe (pa_cons (pe_tup (pa_cons (pe_tyname ht) (pa_cons (pe_tyname hu) pa_nil rfl) rfl)) pa_nil rfl) (starEach_of hn)) (by decide) (by decide) (starEach_of hn) rfl) fun σ H Q h => ?_
    refine one (opA (r := fun vs H Q => ∃ x, vs = [x] ∧ ([V.ty c, V.ty d].length ≤ sizeLine ∧ ∀ p, H p = none → rIsiT X.K [x, .ref p] (upd H p (.tup [.ty c, .ty d])) Q)) h fun F' H' vs ds u sub rs hl ho out => ?_)
    obtain ⟨da, rfl⟩ := len1 hl
    obtain ⟨x, rfl, r⟩ := rs.one
    obtain ⟨t, e, rfl⟩ := opIsa_inv (show opIsa [c, d] da = some u from ho)
    refine ⟨x, rfl, by show 2 ≤ sizeLine; decide, fun p hp => ?_⟩
    have hs : Sub H' (upd H' p (.tup [.ty c, .ty d])) := Sub.upd hp
    refine ⟨x, p, [.ty c, .ty d], .type t, [.type c, .type d], _, rfl, upd_same, .cons (.ty c) (.cons (.ty d) .nil), by rw [hK]; exact r.tyx (sub.trans hs) e, kit_any _ e (ts := [c, d]) (fun z hz => ?_), ?_⟩
    · simp at hz; rcases hz with rfl | rfl <;> assumption
    · exact out F' _ (.bl _) [] (sub.trans hs) (by simp [boolU, RepU, Rep]) (by simp) ⟨Sub.refl _, fun _ h => .inl h, fun a o e _ => hs a o e, fun a ha => by
        by_cases q : a = p
        · rw [q]; exact hp
        · rw [upd_ne q] at ha; exact ha, fun a ha => by simp at ha⟩
  exact ⟨h, pt_val h⟩

/-! ### subscripts -/
def noSl : Expr → Bool
  | .Slice .. => false
  | _ => true
theorem plainIx_of {e : Expr} (h : noSl e = true) : PlainIx e := by
  intro o i
  cases e <;> first | rfl | (simp [noSl] at h)
theorem Reps.ixN {ds : List D} {vs : List V} (h : Reps G F ds vs) : ∀ {i : Int} {d : D}, atI ds i = some d → ∃ v, atI vs i = some v ∧ Rep G F d v := fun {i d} e => by
  unfold atI at e ⊢
  rw [h.length]
  cases q : L2.ixN ds.length i with
  | none => rw [q] at e; simp at e
  | some j =>
    rw [q] at e
    simp only [Option.bind_some] at e ⊢
    exact h.get e
theorem se_idx {a b : E} {ea eb : Expr} {pos : Pos} (hK : X.K = G.K) (sa : SE G W cl P X a ea) (sb : SE G W cl P X b eb) (hn : noSl eb = true) : SE G W cl P X (.op .idx (.cons a (.cons b .nil))) (.Subscript ea eb pos) := by
  have h : PE X (.Subscript ea eb pos) (TEr G W cl P (.op .idx (.cons a (.cons b .nil)))) := by
    refine PE.imp (pe_ix ix_seq sa.pe sb.pe (plainIx_of hn)) fun σ H Q h => ?_
    refine two (opA (r := fun vs H Q => ∃ x y, vs = [x, y] ∧ rIx X.K x y H Q) h fun F' H' vs ds u sub rs hl ho out => ?_)
    obtain ⟨da, db, rfl⟩ := len2 hl
    obtain ⟨x, y, rfl, r1, r2⟩ := rs.two
    refine ⟨x, y, rfl, ?_⟩
    simp only [opF] at ho
    cases db <;> cases da <;> simp only [opIdx, Option.map_eq_some_iff] at ho <;> try (cases ho; done)
    · rename_i i s
      split at ho
      · rename_i hz
        simp only [Option.map_eq_some_iff] at ho
        obtain ⟨c, e, rfl⟩ := ho
        cases r1.str_inv; cases r2.int_inv
        exact .inr (.inr ⟨s, i, c, rfl, rfl, le_lim hz, e, OpOut.scalar out sub (by simp [Rep])⟩)
      · cases ho
    · rename_i i es
      obtain ⟨d, e, rfl⟩ := ho
      cases r2.int_inv
      obtain ⟨p, ys, rfl, h1, h2⟩ := r1.tup_inv
      obtain ⟨v, e1, e2⟩ := h2.ixN e
      exact .inr (.inl ⟨p, ys, i, v, rfl, rfl, by rw [hK]; exact sub.sqT h1, e1, OpOut.scalar out sub e2⟩)
    · rename_i i es
      obtain ⟨d, e, rfl⟩ := ho
      cases r2.int_inv
      obtain ⟨p, ys, rfl, h1, h2⟩ := r1.lst_inv
      obtain ⟨v, e1, e2⟩ := h2.ixN e
      exact .inl ⟨p, ys, i, v, rfl, rfl, by rw [hK]; exact sub.sqL h1, e1, OpOut.scalar out sub e2⟩
  exact ⟨h, pt_val h⟩
theorem Reps.cut {ds : List D} {vs : List V} (h : Reps G F ds vs) (lo hi : Option Int) : Reps G F (cutD ds lo hi) (cutV vs lo hi) := by
  unfold cutD cutV
  rw [h.length]
  exact (h.drop _).take _
def rSlAll (K : PySem.W.Frag) : V → Option Int → Option Int → Hp → VK → Prop := fun x lo hi H Q => rSlL K x lo hi H Q ∨ rSlA K x lo hi H Q
theorem sl_all : SlR X (rSlAll X.K) := sl_list.or sl_tupA
theorem cut_whole {ds : List D} {lo hi : Option Int} (h : HT.sIx ds.length 0 lo = 0 ∧ HT.sIx ds.length ds.length hi = ds.length) : cutD ds lo hi = ds := by
  unfold cutD
  rw [h.1, h.2]; simp
theorem den_slice {K : PySem.W.Frag} (hK : K = G.K) {d : D} {x : V} {lo hi : Option Int} {u : U} {Q : VK} (sub : Sub F H) (r : Rep G F d x) (ho : opSlice d lo hi = some u) (out : OpOut G F H u Q) : rSlAll K x lo hi H Q := by
  subst hK
  cases d <;> simp only [opSlice, Option.some.injEq] at ho <;> try (cases ho; done)
  · subst ho
    rename_i ds
    obtain ⟨p, ys, rfl, h1, h2⟩ := r.tup_inv
    refine .inr ⟨p, ys, rfl, sub.sqT h1, fun hw => ?_, fun hw => out.tup sub (h2.cut lo hi)⟩
    rw [h2.length] at hw
    refine OpOut.scalar out sub ?_
    rw [cut_whole hw]
    simp only [Rep]
    exact ⟨p, ys, rfl, h1, h2⟩
  · subst ho
    rename_i ds
    obtain ⟨p, ys, rfl, h1, h2⟩ := r.lst_inv
    exact .inl ⟨p, ys, rfl, sub.sqL h1, out.list sub (h2.cut lo hi)⟩

/-- a slice's part -/
def TOr (G : Gx) (W : WX) (cl : Str → List U → RC) (P : List Nat) (lo : Es) : TO := fun σ H Q => ∃ F ρ os, Inv2 G F H ρ σ os ∧ match evEs cl P lo ρ with
  | .ok ls ρ1 => (match partOf ls with
    | some l => ∀ F1 H1 os1, Inv2 G F1 H1 ρ1 σ os1 → Step F H os F1 H1 os1 → Q l H1
    | none => False)
  | .ex c v ρ1 => GX G W c v ρ1 F H os σ
  | .bad => False
def SP (G : Gx) (W : WX) (cl : Str → List U → RC) (P : List Nat) (X : Cx) (lo : Es) (e : Option Expr) : Prop := PO X e (TOr G W cl P lo)
theorem PO.imp {X : Cx} {e : Option Expr} {t t' : TO} (h : PO X e t) (k : ∀ σ H Q, t' σ H Q → t σ H Q) : PO X e t' := ⟨fun pins s σ H Q I q => h.run pins s σ H Q I (k σ H Q q)⟩
theorem sp_none : SP G W cl P X .nil none := PO.imp po_none fun σ H Q ⟨F, ρ, os, I, h⟩ => by
  simp only [evEs, partOf] at h
  exact h F H os I Step.refl
theorem sp_some {e : E} {ex : Expr} (s : SE G W cl P X e ex) : SP G W cl P X (.cons e .nil) (some ex) := PO.imp (po_some s.pe) fun σ H Q ⟨F, ρ, os, I, h⟩ => by
  refine ⟨F, ρ, os, I, ?_⟩
  simp only [evEs] at h
  cases hr : evE cl P e ρ with
  | bad => rw [hr] at h; exact h
  | ex c v ρ1 => rw [hr] at h; exact h
  | ok u ρ1 =>
    rw [hr] at h
    intro F1 H1 os1 v ps i1 r1 nd1 st1 lk
    simp only at h
    cases u with
    | fz d =>
      cases d with
      | int i =>
        simp only [RepU, Rep] at r1
        obtain ⟨rfl, rfl⟩ := r1
        simp only [partOf] at h
        exact ⟨i, rfl, h F1 H1 os1 i1 (by simpa using st1)⟩
      | _ => simp [partOf] at h
    | ul us => simp [partOf] at h
    | ut us => simp [partOf] at h
theorem se_sl {a : E} {lo hi : Es} {ea : Expr} {el eh : Option Expr} {p2 pos : Pos} (hK : X.K = G.K) (sa : SE G W cl P X a ea) (sl : SP G W cl P X lo el) (sh : SP G W cl P X hi eh) :
    SE G W cl P X (.sl a lo hi) (.Subscript ea (.Slice el eh none p2) pos) := by
  have h : PE X (.Subscript ea (.Slice el eh none p2) pos) (TEr G W cl P (.sl a lo hi)) := by
    refine PE.imp (pe_slice sl_all sa.pe sl sh) fun σ H Q ⟨F, ρ, os, I, h⟩ => ?_
    simp only [evE] at h
    refine te_frz I ?_
    cases e1 : evE cl P a ρ with
    | bad => rw [e1] at h; exact h
    | ex x v ρ1 => rw [e1] at h; exact h
    | ok u1 ρ1 =>
      rw [e1] at h
      intro F1 H1 os1 x i1 r1 st1
      refine ⟨F1, ρ1, os1, i1, ?_⟩
      simp only at h
      cases e2 : evEs cl P lo ρ1 with
      | bad => rw [e2] at h; exact h
      | ex x v ρ2 => rw [e2] at h; exact GX.trans h st1 fun a ha => ha
      | ok ls ρ2 =>
        rw [e2] at h
        simp only at h ⊢
        cases e3 : partOf ls with
        | none => rw [e3] at h; exact h.elim
        | some l =>
          rw [e3] at h
          intro F2 H2 os2 i2 st2
          refine ⟨F2, ρ2, os2, i2, ?_⟩
          simp only at h
          cases e4 : evEs cl P hi ρ2 with
          | bad => rw [e4] at h; exact h
          | ex x v ρ2 => rw [e4] at h; exact GX.trans h (st1.trans st2) fun a ha => ha
          | ok hs ρ3 =>
            rw [e4] at h
            simp only at h ⊢
            cases e5 : partOf hs with
            | none => rw [e5] at h; exact h.elim
            | some hh =>
              rw [e5] at h
              intro F3 H3 os3 i3 st3
              simp only at h
              cases e6 : opSlice u1.d l hh with
              | none => rw [e6] at h; exact h.elim
              | some w =>
                rw [e6] at h
                refine den_slice hK i3.sub ((r1.mono st2.f).mono st3.f) e6 fun F' H' v ps sub ru nd st => ?_
                obtain ⟨i4, n4, s4⟩ := out_step i3 sub nd st
                exact h F' H' os3 v ps i4 ru n4 (((st1.trans st2).trans st3).trans s4) (by simp [Lk])
  exact ⟨h, pt_val h⟩
theorem se_rev {a : E} {ea : Expr} {k : Nat} {p1 p2 p3 pos : Pos} (hK : X.K = G.K) (sa : SE G W cl P X a ea) : SE G W cl P X (.op .rev (.cons a .nil)) (.Subscript ea (.Slice none none (some (.UnaryOp .USub (.Constant (.int 1) k p1) p2)) p3) pos) := by
  have h : PE X (.Subscript ea (.Slice none none (some (.UnaryOp .USub (.Constant (.int 1) k p1) p2)) p3) pos) (TEr G W cl P (.op .rev (.cons a .nil))) := by
    refine PE.imp (pe_revL sa.pe) fun σ H Q h => ?_
    refine one (opA (r := fun vs H Q => ∃ x, vs = [x] ∧ ∃ a xs, x = .ref a ∧ SqL X.K H a xs ∧ ∀ p, H p = none → Q (.ref p) (upd H p (.lst xs.reverse))) h fun F' H' vs ds u sub rs hl ho out => ?_)
    match ds, ho with
    | [.lst es], ho =>
      obtain ⟨x, rfl, r⟩ := rs.one
      simp only [opF, Option.some.injEq] at ho
      subst ho
      obtain ⟨p, ys, rfl, h1, h2⟩ := r.lst_inv
      exact ⟨_, rfl, p, ys, rfl, by rw [hK]; exact sub.sqL h1, out.list sub h2.reverse⟩
  exact ⟨h, pt_val h⟩
theorem se_rngl1 {a : E} {ea : Expr} {p p' pos pos' : Pos} (hc : X.calm = true) (hg : Gl X "list") (hm : X.mg "list" = none) (hg' : Gl X "range") (hm' : X.mg "range" = none) (sa : SE G W cl P X a ea) (hn : notStar ea = true) :
    SE G W cl P X (.op .rngl (.cons a .nil)) (.Call (.Name "list" p) [.Call (.Name "range" p') [ea] [] pos'] [] pos) := by
  have h : PE X (.Call (.Name "list" p) [.Call (.Name "range" p') [ea] [] pos'] [] pos) (TEr G W cl P (.op .rngl (.cons a .nil))) := by
    refine PE.imp (pe_listRg hc hg hm (prg_1 hg' hm' sa.pe (starEach_of hn)) rfl) fun σ H Q h => ?_
    have h2 := one (R := fun y H1 => ∃ n, y = .int n ∧ RgOk 0 n ∧ ∀ q, H1 q = none → Q (.ref q) (upd H1 q (.lst (rgV 0 n)))) (opA (r := fun vs H Q => ∃ y, vs = [y] ∧ (∃ n, y = .int n ∧ RgOk 0 n ∧ ∀ q, H q = none → Q (.ref q) (upd H q (.lst (rgV 0 n))))) h fun F' H' vs ds u sub rs hl ho out => ?_)
    · exact h2
    · match ds, ho with
      | [.int j], ho =>
        obtain ⟨y, rfl, r2⟩ := rs.one
        simp only [opF] at ho
        split at ho
        · rename_i hz
          cases ho
          cases r2.int_inv
          have hL : (LIM : Int) = 1000000 := rfl
          refine ⟨_, rfl, j, rfl, RgOk.of_le (by decide) (by omega) (by decide) hz.1, out.list sub ?_⟩
          have : ∀ (l : List Nat), Reps G F' (l.map fun i => D.int (0 + (i : Nat))) (l.map fun i => V.int (0 + (i : Nat))) := by
            intro l
            induction l with
            | nil => exact Reps.nil
            | cons a l ih => exact Reps.cons (by simp [Rep]) ih
          exact this _
        · cases ho
  exact ⟨h, pt_val h⟩
theorem se_bits {a : E} {ea : Expr} {apos pos : Pos} (sa : SE G W cl P X a ea) (hb : attributeBase ea "bit_length" X.env (eval ea X.env) = eval ea X.env) (hl : (apos.endLine == pos.line) = true) :
    SE G W cl P X (.op .bitlen (.cons a .nil)) (.Call (.Attribute ea "bit_length" apos) [] [] pos) := by
  have h : PE X (.Call (.Attribute ea "bit_length" apos) [] [] pos) (TEr G W cl P (.op .bitlen (.cons a .nil))) := by
    refine PE.imp (pe_bits sa.pe hb hl) fun σ H Q h => ?_
    refine one (opA (r := fun vs H Q => ∃ x, vs = [x] ∧ ∃ i, x = .int i ∧ Q (.int (Builtin.Int.intBits i : Nat)) H) h fun F' H' vs ds u sub rs hl ho out => ?_)
    obtain ⟨da, rfl⟩ := len1 hl
    obtain ⟨x, rfl, r⟩ := rs.one
    simp only [opF] at ho
    cases da <;> simp only [asInt, Option.map_none, Option.map_some] at ho <;> try (cases ho; done)
    cases ho
    cases r.int_inv
    exact ⟨_, rfl, _, rfl, out.int sub⟩
  exact ⟨h, pt_val h⟩
theorem index_inv {p : PyData} : ∀ {qs : List PyData} {n m : Nat}, indexD p qs n = some m → ∃ j z, m = n + j ∧ qs[j]? = some z ∧ PyData.eqv z p = true ∧ ∀ (k : Nat) (z' : PyData), k < j → qs[k]? = some z' → PyData.eqv z' p = false
  | [], _, _, h => by simp [indexD] at h
  | q :: qs, n, m, h => by
    simp only [indexD] at h
    split at h
    · rename_i hq
      cases h
      exact ⟨0, q, rfl, rfl, hq, fun k _ hk => absurd hk (Nat.not_lt_zero _)⟩
    · rename_i hq
      obtain ⟨j, z, e1, e2, e3, e4⟩ := index_inv h
      refine ⟨j + 1, z, by omega, by simpa using e2, e3, fun k z' hk hz => ?_⟩
      cases k with
      | zero => simp at hz; subst hz; simpa using hq
      | succ k => exact e4 k z' (by omega) (by simpa using hz)

/-! ### methods of built-in types -/
theorem Rep.tyv {K : PySem.W.Frag} (hK : K = G.K) {d : D} {x : V} {T : String} (r : Rep G F d x) (sub : Sub F H) (h : d.tyn = some T) (hT : T = "list" ∨ T = "str") : tyV K T x H := by
  subst hK
  cases d <;> simp only [D.tyn, Option.some.injEq] at h <;> try (cases h; done)
  · subst h; rcases hT with h | h <;> simp at h
  · subst h; rcases hT with h | h <;> simp at h
  · subst h; rcases hT with h | h <;> simp at h
  · subst h; cases r.str_inv; rfl
  · subst h; rcases hT with h | h <;> simp at h
  · subst h
    obtain ⟨p, ys, rfl, h1, h2⟩ := r.lst_inv
    exact .inl ⟨rfl, ys, sub.sqL h1⟩
def DenM (G : Gx) (o : O) (r : V → List V → Hp → VK → Prop) : Prop := ∀ F H x xs da ds u Q, Sub F H → Rep G F da x → Reps G F ds xs → opF o (da :: ds) = some u → OpOut G F H u Q → r x xs H Q
theorem te_meth {o : O} {T : String} {a : E} {es : Es} {r : V → List V → Hp → VK → Prop} (hK : X.K = G.K) (hT : T = "list" ∨ T = "str") (den : DenM G o r) {σ : L2.St} {H : Hp} {Q : VK} (h : TEr G W cl P (.meth o T a es) σ H Q) :
    TEr G W cl P a σ H fun x H1 => tyV X.K T x H1 ∧ TAr G W cl P es σ H1 fun xs H2 => r x xs H2 Q := by
  obtain ⟨F, ρ, os, I, h⟩ := h
  simp only [evE] at h
  refine te_frz I ?_
  cases e1 : evE cl P a ρ with
  | bad => rw [e1] at h; exact h
  | ex x v ρ1 => rw [e1] at h; exact h
  | ok u1 ρ1 =>
    rw [e1] at h
    intro F1 H1 os1 x i1 r1 st1
    simp only at h
    by_cases ht : u1.d.tyn = some T
    · rw [if_pos ht] at h
      refine ⟨r1.tyv hK i1.sub ht hT, F1, ρ1, os1, i1, ?_⟩
      cases e2 : evEs cl P es ρ1 with
      | bad => rw [e2] at h; exact h
      | ex x v ρ2 => rw [e2] at h; exact GX.trans h st1 fun a ha => ha
      | ok us ρ2 =>
        rw [e2] at h
        simp only at h
        intro F2 H2 os2 vs ps i2 r2 nd2 st2 lk
        cases e3 : opF o (u1.d :: Us.d us) with
        | none => rw [e3] at h; exact h.elim
        | some w =>
          rw [e3] at h
          obtain ⟨i3, s3⟩ := share i2 r2.owns nd2
          refine den _ H2 x vs u1.d (Us.d us) w Q i3.sub ((r1.mono st2.f).mono s3.f) (share_reps r2) e3 fun F' H' v ps' sub ru nd st => ?_
          obtain ⟨i4, n4, s4⟩ := out_step i3 sub nd st
          exact h F' H' os2 v ps' i4 ru n4 (((st1.trans st2).trans s3).trans s4) (by simp [Lk])
    · rw [if_neg ht] at h; exact h.elim
theorem se_meth {o : O} {T id : String} {name : Str} {a : E} {es : Es} {ea eb : Expr} {exs : List Expr} {apos pos : Pos} {r : V → List V → Hp → VK → Prop} (hK : X.K = G.K) (hT : T = "list" ∨ T = "str")
    (pa : PlainAttrs T) (slot : Slot T name id) (hty : typeOf (.builtin id) = pure (.type "method_descriptor")) (hm : MtR X id r) (den : DenM G o r)
    (sa : SE G W cl P X a ea) (sb : SA G W cl P X es (eb :: exs)) (hb : attributeBase ea name X.env (eval ea X.env) = eval ea X.env) (hl : (apos.endLine == pos.line) = true) (hn : stars (eb :: exs) = true) (hz : exs.length < 20) :
    SE G W cl P X (.meth o T a es) (.Call (.Attribute ea name apos) (eb :: exs) [] pos) := by
  have hn2 := hn
  simp only [stars, Bool.and_eq_true] at hn2
  have h : PE X (.Call (.Attribute ea name apos) (eb :: exs) [] pos) (TEr G W cl P (.meth o T a es)) := by
    refine PE.imp (pe_bm pa slot hty hm sa.pe sb hb ?_ hl (starEach_of hn2.1) (stars_ok hn2.2)) fun σ H Q h => te_meth hK hT den h
    rw [stars_all hn]
    show (true && true && decide ((eb :: exs).length + 0 + 0 < 30)) = true
    simp only [List.length_cons, Bool.and_self, Bool.true_and, decide_eq_true_eq]
    omega
  exact ⟨h, pt_val h⟩
theorem se_meth0 {o : O} {T id : String} {name : Str} {a : E} {ea : Expr} {apos pos : Pos} {r : V → List V → Hp → VK → Prop} (hK : X.K = G.K) (hT : T = "list" ∨ T = "str")
    (pa : PlainAttrs T) (slot : Slot T name id) (hty : typeOf (.builtin id) = pure (.type "method_descriptor")) (hm : MtR X id r) (den : DenM G o r)
    (sa : SE G W cl P X a ea) (hb : attributeBase ea name X.env (eval ea X.env) = eval ea X.env) (hl : (apos.endLine == pos.line) = true) :
    SE G W cl P X (.meth o T a .nil) (.Call (.Attribute ea name apos) [] [] pos) := by
  have h : PE X (.Call (.Attribute ea name apos) [] [] pos) (TEr G W cl P (.meth o T a .nil)) := by
    refine PE.imp (pe_bm0 pa slot hty hm sa.pe hb hl) fun σ H Q h => (te_meth hK hT den h).mono fun x H1 ⟨t, F, ρ, os, I, q⟩ => ⟨t, ?_⟩
    simp only [evEs] at q
    exact q F H1 os [] [] I (by simp [RepUs]) (by simpa using I.nd) Step.refl (by simp [Lks])
  exact ⟨h, pt_val h⟩
theorem den_index : DenM G .index (rIndexD G.K) := fun F H x xs da ds u Q sub r rs ho out => by
  match da, ds, ho with
  | .lst es, [b], ho =>
    obtain ⟨y, rfl, ry⟩ := rs.one
    simp only [opF] at ho
    split at ho
    · rename_i p qs e1 e2
      split at ho
      · rename_i hs
        rw [Bool.and_eq_true] at hs
        simp only [Option.map_eq_some_iff] at ho
        obtain ⟨n, e, rfl⟩ := ho
        obtain ⟨j, z, e3, e4, e5, e6⟩ := index_inv e
        simp only [Nat.zero_add] at e3
        subst e3
        have dl : Dp G.K H x (.list qs) := dp_sub sub (r.dp rfl (by simp only [D.data, e2, Option.map_some]))
        obtain ⟨a, vs, hx, _, _⟩ := r.lst_inv
        subst hx
        exact ⟨a, y, p, qs, n, z, rfl, rfl, dl, dp_sub sub (ry.dp rfl e1), hs.2, hs.1, e4, e5, e6, out.int sub⟩
      · cases ho
    · cases ho
end
end Pv

/-! Pv7: lists of the def's own are changed. -/
namespace Pv
open PySem PySem.Spec PyProof.Rows L2

section
variable {G : Gx} {W : WX} {cl : Str → List U → RC} {P : List Nat} {X : Cx}
theorem RepUs.append {F H : Hp} : ∀ {us ws : List U} {vs zs : List V} {ps qs : List Addr}, RepUs G F H us vs ps → RepUs G F H ws zs qs → RepUs G F H (us ++ ws) (vs ++ zs) (ps ++ qs)
  | [], _, _, _, _, _, h, k => by simp only [RepUs] at h; obtain ⟨rfl, rfl⟩ := h; exact k
  | u :: us, _, _, _, _, _, h, k => by
    simp only [RepUs, List.cons_append] at h ⊢
    obtain ⟨v, r, p, q, rfl, rfl, h1, h2⟩ := h
    exact ⟨v, r ++ _, p, q ++ _, rfl, by simp, h1, RepUs.append h2 k⟩
theorem RepUs.single {F H : Hp} {u : U} {v : V} {ps : List Addr} (h : RepU G F H u v ps) : RepUs G F H [u] [v] ps := by
  simp only [RepUs]; exact ⟨v, [], ps, [], rfl, by simp, h, rfl, rfl⟩
/-- one item of an owned row -/
theorem RepUs.at {F H : Hp} : ∀ {us : List U} {vs : List V} {ps : List Addr} {j : Nat} {u : U}, RepUs G F H us vs ps → us[j]? = some u →
    ∃ v l q r, vs[j]? = some v ∧ ps = l ++ (q ++ r) ∧ RepU G F H u v q ∧ RepUs G F H (us.eraseIdx j) (vs.eraseIdx j) (l ++ r) ∧
      ∀ {F' H' : Hp} {u' : U} {q' : List Addr}, Sub F F' → (∀ a ∈ l ++ r, F' a = none ∧ ∀ o, H a = some o → H' a = some o) → RepU G F' H' u' v q' → RepUs G F' H' (us.set j u') vs (l ++ (q' ++ r))
  | [], _, _, _, _, _, e => by simp at e
  | w :: us, _, _, 0, u, h, e => by
    simp only [RepUs] at h
    obtain ⟨v, r, p, q, rfl, rfl, h1, h2⟩ := h
    simp at e; subst e
    refine ⟨v, [], p, q, by simp, by simp, h1, by simpa using h2, fun sf k h3 => ?_⟩
    simp only [List.set_cons_zero, List.nil_append, RepUs]
    exact ⟨_, _, _, _, rfl, rfl, h3, h2.mono sf (by simpa using k)⟩
  | w :: us, _, _, j + 1, u, h, e => by
    simp only [RepUs] at h
    obtain ⟨v, r, p, q, rfl, rfl, h1, h2⟩ := h
    obtain ⟨v2, l, q2, r2, e1, rfl, e3, e4, e5⟩ := RepUs.at (j := j) h2 (by simpa using e)
    refine ⟨v2, p ++ l, q2, r2, by simpa using e1, by simp, e3, ?_, fun sf k h3 => ?_⟩
    · simp only [List.eraseIdx_cons_succ, RepUs]
      exact ⟨_, _, p, _, rfl, by simp, h1, e4⟩
    · simp only [List.set_cons_succ, RepUs]
      refine ⟨_, _, p, _, rfl, by simp, h1.mono sf (fun a ha => k a (by simp [ha])), e5 sf (fun a ha => k a ?_) h3⟩
      rcases List.mem_append.mp ha with ha | ha <;> simp [ha]
theorem write_slot {F H : Hp} {ρ : Env} {σ : L2.St} {os : List Addr} {i : Nat} {us : List U} (I : Inv2 G F H ρ σ os) (e : ρ[i]? = some (some (.ul us))) :
    ∃ p0 vs l qs r, σ[i]? = some (some (.ref p0)) ∧ os = l ++ ((p0 :: qs) ++ r) ∧ H p0 = some (.lst vs) ∧ F p0 = none ∧ RepUs G F H us vs qs ∧
      ∀ us' vs' qs', RepUs G F H us' vs' qs' → (l ++ ((p0 :: qs') ++ r)).Nodup → Inv2 G F (upd H p0 (.lst vs')) (ρ.set i (some (.ul us'))) σ (l ++ ((p0 :: qs') ++ r)) := by
  obtain ⟨v, l, p, r, e1, rfl, r1, e2, fill⟩ := I.env.split e
  simp only [RepU] at r1
  obtain ⟨p0, vs, qs, rfl, rfl, h1, h2, h3⟩ := r1
  refine ⟨p0, vs, l, qs, r, e1, rfl, h1, h2, h3, fun us' vs' qs' hr nd => ⟨fun a o ea => ?_, ?_, nd⟩⟩
  · by_cases ha : a = p0
    · rw [ha, h2] at ea; cases ea
    · rw [upd_ne ha]; exact I.sub a o ea
  · have nd2 := nodup_mid nd
    have np : ∀ a ∈ qs', a ≠ p0 := fun a ha z => by
      rw [z] at ha
      exact (List.nodup_cons.mp (List.nodup_append.mp nd2).1).1 ha
    have nr : ∀ a ∈ l ++ r, a ≠ p0 := fun a ha z => by
      rw [z] at ha
      exact (List.nodup_append.mp nd2).2.2 p0 (by simp) p0 ha rfl
    have := fill (F' := F) (H' := upd H p0 (.lst vs')) (u' := .ul us') (v' := .ref p0) (p' := p0 :: qs') (Sub.refl F) (fun a ha => ⟨(e2.owns a ha).2, fun o q => by rw [upd_ne (nr a ha)]; exact q⟩) (by
      simp only [RepU]
      exact ⟨p0, vs', qs', rfl, rfl, upd_same, h2, hr.mono (Sub.refl F) fun a ha => ⟨(hr.owns a ha).2, fun o q => by rw [upd_ne (np a ha)]; exact q⟩⟩)
    rw [set_self e1] at this
    exact this
theorem step_write {F H : Hp} {p0 : Addr} {vs : List V} {u : HO} {os os' : List Addr} (hp : H p0 = some u) (hm : p0 ∈ os) (h : ∀ a ∈ os', a ∈ os) : Step F H os F (upd H p0 (.lst vs)) os' where
  f := Sub.refl F
  n := fun a h => .inl h
  h := fun a o e hn => by rw [upd_ne (fun z => hn (by rw [z]; exact hm))]; exact e
  t := fun a ha => by
    by_cases z : a = p0
    · rw [z, upd_same] at ha; cases ha
    · rw [upd_ne z] at ha; exact ha
  o := fun a ha => .inl (h a ha)
theorem own0 {F H : Hp} {ρ : Env} {σ : L2.St} {os : List Addr} {i : Nat} (I : Inv2 G F H ρ σ os) (h : ownAt ρ i [] = true) : ∃ p0 vs, σ[i]? = some (some (.ref p0)) ∧ H p0 = some (.lst vs) := by
  unfold ownAt at h
  cases e : ρ[i]? with
  | none => rw [e] at h; simp at h
  | some o =>
    cases o with
    | none => rw [e] at h; simp at h
    | some w =>
      rw [e] at h
      simp only [getU] at h
      cases w with
      | ul us =>
        obtain ⟨p0, vs, l, qs, r, e1, _, e2, _⟩ := write_slot I e
        exact ⟨p0, vs, e1, e2⟩
      | fz d => simp [isUl] at h
      | ut us => simp [isUl] at h
/-- x.m(e) where x is an own list: the argument first -/
theorem te_own {i : Nat} {e a : E} {k : U → Env → R U} {r : V → List V → Hp → VK → Prop} {σ : L2.St} {H : Hp} {Q : VK} (h : TEr G W cl P a σ H Q) (hl : ∀ σ v, Lk a σ v)
    (hev : ∀ ρ, evE cl P a ρ = if ownAt ρ i [] then (match evE cl P e ρ with
      | .ok u ρ1 => k u ρ1
      | .ex c v ρ1 => .ex c v ρ1
      | .bad => .bad) else .bad)
    (hr : ∀ p0 F1 H1 ρ1 os1 u x ps, σ[i]? = some (some (.ref p0)) → Inv2 G F1 H1 ρ1 σ os1 → RepU G F1 H1 u x ps → (ps ++ os1).Nodup →
      (∀ b, (match k u ρ1 with
        | .ok w ρ2 => ∀ F' H' os' v ps', Inv2 G F' H' ρ2 σ os' → RepU G F' H' w v ps' → (ps' ++ os').Nodup → Step F1 H1 (ps ++ os1) F' H' (ps' ++ os') → Q v H'
        | .ex c v ρ2 => b
        | .bad => False) → b ∨ r (.ref p0) [x] H1 Q)) (hk : ∀ u ρ1 c v ρ2, k u ρ1 ≠ .ex c v ρ2) (hK : X.K = G.K) :
    tVar i σ H fun x H1 => tyV X.K "list" x H1 ∧ (tCons (TEr G W cl P e) tNil) σ H1 fun xs H2 => r x xs H2 Q := by
  obtain ⟨F, ρ, os, I, h⟩ := h
  rw [hev] at h
  by_cases ho : ownAt ρ i [] = true
  · rw [if_pos ho] at h
    obtain ⟨p0, vs, e1, e2⟩ := own0 I ho
    refine ⟨.ref p0, e1, .inl ⟨rfl, vs, .inl (.inl e2)⟩, F, ρ, os, I, ?_⟩
    cases hr' : evE cl P e ρ with
    | bad => rw [hr'] at h; exact h
    | ex c v ρ1 => rw [hr'] at h; exact h
    | ok u ρ1 =>
      rw [hr'] at h
      intro F1 H1 os1 x ps i1 r1 nd1 st1 lk
      simp only at h
      have := hr p0 F1 H1 ρ1 os1 u x ps e1 i1 r1 nd1 False
      cases hk' : k u ρ1 with
      | bad => rw [hk'] at h; exact h.elim
      | ex c v ρ2 => exact absurd hk' (hk _ _ _ _ _)
      | ok w ρ2 =>
        rw [hk'] at h this
        rcases this fun F' H' os' v ps' i2 r2 nd2 st2 => h F' H' os' v ps' i2 r2 nd2 (st1.trans st2) (hl _ _) with z | z
        · exact z.elim
        · exact z
  · rw [if_neg ho] at h; exact h.elim
theorem attr_name {x : Str} {p : Pos} {m : Str} {env : PySem.Env} : attributeBase (.Name x p) m env (eval (.Name x p) env) = eval (.Name x p) env := rfl
theorem se_app {i : Nat} {e : E} {x : Str} {ee : Expr} {p apos pos : Pos} (hK : X.K = G.K) (hN : X.N[i]? = some x) (hv : visB X.env.scope x = true) (hp : plainN x = true) (se : SE G W cl P X e ee) (hn : notStar ee = true) (hl : (apos.endLine == pos.line) = true) :
    SE G W cl P X (.app i e) (.Call (.Attribute (.Name x p) "append" apos) [ee] [] pos) := by
  simp only [plainN, Bool.and_eq_true, Bool.not_eq_true'] at hp
  have h : PE X (.Call (.Attribute (.Name x p) "append" apos) [ee] [] pos) (TEr G W cl P (.app i e)) := by
    refine PE.imp (pe_bm PySem.F.plainAttrs_list PySem.F.slot_list_append PySem.F.type_list_append mt_append (pe_var hN (vis_of hv) hp.1.1 hp.1.2) (pa_cons se.pe pa_nil (starEach_of hn)) attr_name (by rw [starEach_of hn]; rfl) hl (starEach_of hn) rfl) fun σ H Q h => ?_
    refine te_own (k := fun u ρ1 => match ρ1[i]? with
      | some (some (.ul us)) => if us.length < LIM then .ok (.fz .non) (ρ1.set i (some (.ul (us ++ [u])))) else .bad
      | _ => .bad) h (fun _ _ => by simp [Lk]) (fun ρ => by simp only [evE] <;> rfl) (fun p0 F1 H1 ρ1 os1 u x ps e1 i1 r1 nd1 b hb => ?_) (fun u ρ1 c v ρ2 => ?_) hK
    · cases e2 : ρ1[i]? with
      | none => rw [e2] at hb; exact hb.elim
      | some o =>
        cases o with
        | none => rw [e2] at hb; exact hb.elim
        | some w =>
          cases w with
          | fz d => rw [e2] at hb; exact hb.elim
          | ut us => rw [e2] at hb; exact hb.elim
          | ul us =>
            rw [e2] at hb
            simp only at hb
            by_cases hz : us.length < LIM
            · rw [if_pos hz] at hb
              obtain ⟨q0, vs, l, qs, r, e3, rfl, e4, e5, e6, wr⟩ := write_slot i1 e2
              rw [e1] at e3; cases e3
              refine .inr ⟨p0, vs, x, rfl, rfl, e4, by rw [e6.length]; exact lim_lt hz, ?_⟩
              have nd2 : (l ++ ((p0 :: (qs ++ ps)) ++ r)).Nodup := by
                refine (List.Perm.nodup_iff ?_).mp nd1
                refine (List.perm_append_comm_assoc ps l _).trans (List.Perm.append_left l ?_)
                rw [List.cons_append, List.cons_append, List.append_assoc]
                refine List.perm_middle.trans (List.Perm.cons _ ?_)
                exact (List.perm_append_comm_assoc ps qs r)
              have i2 := wr (us ++ [u]) (vs ++ [x]) (qs ++ ps) (e6.append (RepUs.single r1)) nd2
              refine hb F1 _ _ .non [] i2 (by simp [RepU, Rep]) (by simpa using nd2) (step_write e4 (by simp) fun a ha => ?_)
              simp only [List.nil_append, List.mem_append, List.mem_cons] at ha ⊢
              rcases ha with h | ⟨h | h | h⟩ | h <;> simp [h]
            · rw [if_neg hz] at hb; exact hb.elim
    · intro z
      split at z
      · split at z <;> cases z
      · cases z
  exact ⟨h, pt_val h⟩
theorem drop_erase {α : Type} : ∀ (l : List α), l.dropLast = l.eraseIdx (l.length - 1)
  | [] => rfl
  | [a] => rfl
  | a :: b :: l => by
    have ih := drop_erase (b :: l)
    simp only [List.dropLast_cons₂, List.length_cons, Nat.add_sub_cancel] at ih ⊢
    rw [ih, List.eraseIdx_cons_succ]
theorem last_idx {α : Type} {us : List α} {u : α} (h : us.getLast? = some u) : us[us.length - 1]? = some u ∧ us.dropLast = us.eraseIdx (us.length - 1) := by
  refine ⟨by rw [← List.getLast?_eq_getElem?]; exact h, ?_⟩
  exact drop_erase us
/-- an item taken out of an own list -/
theorem take_out {F H : Hp} {ρ : Env} {σ : L2.St} {os : List Addr} {i j : Nat} {us : List U} {u : U} {Q : VK} (I : Inv2 G F H ρ σ os) (e : ρ[i]? = some (some (.ul us))) (ej : us[j]? = some u)
    (hq : ∀ F' H' os' v ps', Inv2 G F' H' (ρ.set i (some (.ul (us.eraseIdx j)))) σ os' → RepU G F' H' u v ps' → (ps' ++ os').Nodup → Step F H os F' H' (ps' ++ os') → Q v H') :
    ∃ p0 vs y, σ[i]? = some (some (.ref p0)) ∧ H p0 = some (.lst vs) ∧ vs.length = us.length ∧ vs[j]? = some y ∧ Q y (upd H p0 (.lst (vs.eraseIdx j))) := by
  obtain ⟨p0, vs, l, qs, r, e3, rfl, e4, e5, e6, wr⟩ := write_slot I e
  obtain ⟨y, l2, q, r2, e7, rfl, e8, e9, _⟩ := e6.at ej
  have nd : (q ++ (l ++ ((p0 :: (l2 ++ r2)) ++ r))).Nodup := by
    refine (List.Perm.nodup_iff ?_).mp I.nd
    refine List.Perm.trans (List.Perm.append_left l ?_) (List.perm_append_comm_assoc l q _)
    rw [List.cons_append, List.cons_append]
    refine List.Perm.trans (List.Perm.cons _ ?_) List.perm_middle.symm
    rw [List.append_assoc, List.append_assoc, List.append_assoc]
    exact List.perm_append_comm_assoc l2 q (r2 ++ r)
  have i2 := wr (us.eraseIdx j) (vs.eraseIdx j) (l2 ++ r2) e9 (List.nodup_append.mp nd).2.1
  have hqn : ∀ a ∈ q, a ≠ p0 := fun a ha z => (List.nodup_append.mp nd).2.2 a ha p0 (by simp) z
  refine ⟨p0, vs, y, e3, e4, e6.length, e7, hq F _ _ y q i2 (e8.mono (Sub.refl F) fun a ha => ⟨(e8.owns a ha).2, fun o z => by rw [upd_ne (hqn a ha)]; exact z⟩) nd (step_write e4 (by simp) fun a ha => ?_)⟩
  simp only [List.mem_append, List.mem_cons] at ha ⊢
  rcases ha with h | h | ⟨h | h | h⟩ | h <;> simp [h]
theorem se_pop {i : Nat} {x : Str} {p apos pos : Pos} (hK : X.K = G.K) (hN : X.N[i]? = some x) (hv : visB X.env.scope x = true) (hp : plainN x = true) (hl : (apos.endLine == pos.line) = true) :
    SE G W cl P X (.pop i) (.Call (.Attribute (.Name x p) "pop" apos) [] [] pos) := by
  simp only [plainN, Bool.and_eq_true, Bool.not_eq_true'] at hp
  have h : PE X (.Call (.Attribute (.Name x p) "pop" apos) [] [] pos) (TEr G W cl P (.pop i)) := by
    refine PE.imp (pe_bm0 PySem.F.plainAttrs_list PySem.F.slot_list_pop PySem.F.type_list_pop mt_pop (pe_var hN (vis_of hv) hp.1.1 hp.1.2) attr_name hl) fun σ H Q ⟨F, ρ, os, I, h⟩ => ?_
    simp only [evE] at h
    cases e2 : ρ[i]? with
    | none => rw [e2] at h; exact h.elim
    | some o =>
      cases o with
      | none => rw [e2] at h; exact h.elim
      | some w =>
        cases w with
        | fz d => rw [e2] at h; exact h.elim
        | ut us => rw [e2] at h; exact h.elim
        | ul us =>
          rw [e2] at h
          simp only at h
          cases e3 : us.getLast? with
          | none => rw [e3] at h; exact h.elim
          | some u =>
            rw [e3] at h
            simp only at h
            obtain ⟨k1, k2⟩ := last_idx e3
            rw [k2] at h
            obtain ⟨p0, vs, y, e4, e5, e6, e7, q⟩ := take_out (Q := Q) I e2 k1 fun F' H' os' v ps' i2 r2 nd2 st2 => h F' H' os' v ps' i2 r2 nd2 st2 (by simp [Lk])
            refine ⟨.ref p0, e4, .inl ⟨rfl, vs, .inl (.inl e5)⟩, p0, vs, y, rfl, rfl, e5, by rw [e6]; exact e7, ?_⟩
            have : vs.dropLast = vs.eraseIdx (us.length - 1) := by rw [drop_erase, e6]
            rw [this]; exact q
  exact ⟨h, pt_val h⟩
theorem ixN_bd {n j : Nat} {k : Int} (h : ixN n k = some j) : -(n : Int) ≤ k ∧ k < n := by
  obtain ⟨_, h2, h3, h4⟩ := ixN_seq h
  omega
theorem se_popAt {i : Nat} {e : E} {x : Str} {ee : Expr} {p apos pos : Pos} (hK : X.K = G.K) (hN : X.N[i]? = some x) (hv : visB X.env.scope x = true) (hp : plainN x = true) (se : SE G W cl P X e ee) (hn : notStar ee = true) (hl : (apos.endLine == pos.line) = true) :
    SE G W cl P X (.popAt i e) (.Call (.Attribute (.Name x p) "pop" apos) [ee] [] pos) := by
  simp only [plainN, Bool.and_eq_true, Bool.not_eq_true'] at hp
  have h : PE X (.Call (.Attribute (.Name x p) "pop" apos) [ee] [] pos) (TEr G W cl P (.popAt i e)) := by
    refine PE.imp (pe_bm PySem.F.plainAttrs_list PySem.F.slot_list_pop PySem.F.type_list_pop mt_popAt (pe_var hN (vis_of hv) hp.1.1 hp.1.2) (pa_cons se.pe pa_nil (starEach_of hn)) attr_name (by rw [starEach_of hn]; rfl) hl (starEach_of hn) rfl) fun σ H Q h => ?_
    refine te_own (k := fun u ρ1 => match u with
      | .fz (.int k) => (match ρ1[i]? with
        | some (some (.ul us)) => (match ixN us.length k with
          | some j => (match us[j]? with
            | some u => if us.length ≤ LIM then .ok u (ρ1.set i (some (.ul (us.eraseIdx j)))) else .bad
            | none => .bad)
          | none => .bad)
        | _ => .bad)
      | _ => .bad) h (fun _ _ => by simp [Lk]) (fun ρ => ?_) (fun p0 F1 H1 ρ1 os1 u x ps e1 i1 r1 nd1 b hb => ?_) (fun u ρ1 c v ρ2 => ?_) hK
    · simp only [evE]
      split
      · cases evE cl P e ρ with
        | ok u ρ1 => cases u with
          | fz d => cases d <;> rfl
          | ul us => rfl
          | ut us => rfl
        | ex c v ρ1 => rfl
        | bad => rfl
      · rfl
    · cases u with
      | ul us => exact hb.elim
      | ut us => exact hb.elim
      | fz d =>
        cases d with
        | int k =>
          simp only [RepU, Rep] at r1
          obtain ⟨rfl, rfl⟩ := r1
          simp only at hb
          cases e2 : ρ1[i]? with
          | none => rw [e2] at hb; exact hb.elim
          | some o =>
            cases o with
            | none => rw [e2] at hb; exact hb.elim
            | some w =>
              cases w with
              | fz d => rw [e2] at hb; exact hb.elim
              | ut us => rw [e2] at hb; exact hb.elim
              | ul us =>
                rw [e2] at hb
                simp only at hb
                cases e3 : ixN us.length k with
                | none => rw [e3] at hb; exact hb.elim
                | some j =>
                  rw [e3] at hb
                  simp only at hb
                  cases e4 : us[j]? with
                  | none => rw [e4] at hb; exact hb.elim
                  | some w =>
                    rw [e4] at hb
                    simp only at hb
                    by_cases hz : us.length ≤ LIM
                    · rw [if_pos hz] at hb
                      obtain ⟨q0, vs, y, e5, e6, e7, e8, q⟩ := take_out (Q := Q) i1 e2 e4 fun F' H' os' v ps' i2 r2 nd2 st2 => hb F' H' os' v ps' i2 r2 nd2 (by simpa using st2)
                      rw [e1] at e5; cases e5
                      obtain ⟨b1, b2⟩ := ixN_bd e3
                      have hL : (LIM : Int) = 1000000 := rfl
                      have hz' : (us.length : Int) ≤ LIM := by exact_mod_cast hz
                      refine .inr ⟨p0, vs, k, j, y, rfl, rfl, e6, by omega, by omega, by rw [e7]; exact (ixN_seq e3).1, e8, q⟩
                    · rw [if_neg hz] at hb; exact hb.elim
        | _ => exact hb.elim
    · intro z
      cases u with
      | fz d =>
        cases d with
        | int k =>
          simp only at z
          split at z
          · split at z
            · split at z
              · split at z <;> cases z
              · cases z
            · cases z
          · cases z
        | _ => cases z
      | ul us => cases z
      | ut us => cases z
  exact ⟨h, pt_val h⟩
theorem ints_us {F H : Hp} : ∀ {us : List U} {vs : List V} {qs : List Addr} {ns : List Int}, RepUs G F H us vs qs → intsD (Us.d us) = some ns → qs = [] ∧ vs = ns.map V.int
  | [], _, _, _, r, h => by simp only [RepUs, Us.d, intsD, Option.some.injEq] at r h; subst h; obtain ⟨rfl, rfl⟩ := r; exact ⟨rfl, rfl⟩
  | u :: us, _, _, ns, r, h => by
    simp only [RepUs] at r
    obtain ⟨v, w, p, q, rfl, rfl, h1, h2⟩ := r
    simp only [Us.d, intsD] at h
    cases u with
    | ul us => simp [U.d] at h
    | ut us => simp [U.d] at h
    | fz d =>
      simp only [U.d] at h
      cases d <;> try (simp at h; done)
      cases e : intsD (Us.d us) with
      | none => rw [e] at h; simp at h
      | some is =>
        rw [e] at h
        simp only [Option.some.injEq] at h
        subst h
        obtain ⟨rfl, rfl⟩ := ints_us h2 e
        simp only [RepU, Rep] at h1
        obtain ⟨rfl, rfl⟩ := h1
        exact ⟨rfl, rfl⟩
theorem idxOf_first : ∀ {ns : List Int} {k : Int}, k ∈ ns → ns[ns.idxOf k]? = some k ∧ ∀ m, m < ns.idxOf k → ns[m]? ≠ some k
  | [], k, h => by simp at h
  | n :: ns, k, h => by
    by_cases e : n = k
    · subst e
      rw [List.idxOf_cons_self]
      exact ⟨rfl, fun m hm => absurd hm (Nat.not_lt_zero _)⟩
    · have h' : k ∈ ns := by
        rcases List.mem_cons.mp h with z | z
        · exact absurd z.symm e
        · exact z
      obtain ⟨h1, h2⟩ := idxOf_first h'
      have e2 : (n :: ns).idxOf k = ns.idxOf k + 1 := by rw [List.idxOf_cons, show (n == k) = false from by simpa using e]; rfl
      rw [e2]
      refine ⟨by simpa using h1, fun m hm => ?_⟩
      cases m with
      | zero => simpa using e
      | succ m => simpa using h2 m (by omega)
theorem rep_ints {F : Hp} : ∀ (ns : List Int), Reps G F (ns.map D.int) (ns.map V.int)
  | [] => Reps.nil
  | n :: ns => Reps.cons (by simp [Rep]) (rep_ints ns)
theorem se_rem {i : Nat} {e : E} {x : Str} {ee : Expr} {p apos pos : Pos} (hK : X.K = G.K) (hN : X.N[i]? = some x) (hv : visB X.env.scope x = true) (hp : plainN x = true) (se : SE G W cl P X e ee) (hn : notStar ee = true) (hl : (apos.endLine == pos.line) = true) :
    SE G W cl P X (.rem i e) (.Call (.Attribute (.Name x p) "remove" apos) [ee] [] pos) := by
  simp only [plainN, Bool.and_eq_true, Bool.not_eq_true'] at hp
  have h : PE X (.Call (.Attribute (.Name x p) "remove" apos) [ee] [] pos) (TEr G W cl P (.rem i e)) := by
    refine PE.imp (pe_bm PySem.F.plainAttrs_list PySem.F.slot_list_remove PySem.F.type_list_remove mt_remove (pe_var hN (vis_of hv) hp.1.1 hp.1.2) (pa_cons se.pe pa_nil (starEach_of hn)) attr_name (by rw [starEach_of hn]; rfl) hl (starEach_of hn) rfl) fun σ H Q h => ?_
    refine te_own (k := fun u ρ1 => match u with
      | .fz (.int k) => (match ρ1[i]? with
        | some (some (.ul us)) => (match intsD (Us.d us) with
          | some ns => if k ∈ ns then .ok (.fz .non) (ρ1.set i (some (.ul (fzs ((ns.eraseIdx (ns.idxOf k)).map .int))))) else .bad
          | none => .bad)
        | _ => .bad)
      | _ => .bad) h (fun _ _ => by simp [Lk]) (fun ρ => ?_) (fun p0 F1 H1 ρ1 os1 u x ps e1 i1 r1 nd1 b hb => ?_) (fun u ρ1 c v ρ2 => ?_) hK
    · simp only [evE]
      split
      · cases evE cl P e ρ with
        | ok u ρ1 => cases u with
          | fz d => cases d <;> rfl
          | ul us => rfl
          | ut us => rfl
        | ex c v ρ1 => rfl
        | bad => rfl
      · rfl
    · cases u with
      | ul us => exact hb.elim
      | ut us => exact hb.elim
      | fz d =>
        cases d with
        | int k =>
          simp only [RepU, Rep] at r1
          obtain ⟨rfl, rfl⟩ := r1
          simp only at hb
          cases e2 : ρ1[i]? with
          | none => rw [e2] at hb; exact hb.elim
          | some o =>
            cases o with
            | none => rw [e2] at hb; exact hb.elim
            | some w =>
              cases w with
              | fz d => rw [e2] at hb; exact hb.elim
              | ut us => rw [e2] at hb; exact hb.elim
              | ul us =>
                rw [e2] at hb
                simp only at hb
                cases e3 : intsD (Us.d us) with
                | none => rw [e3] at hb; exact hb.elim
                | some ns =>
                  rw [e3] at hb
                  simp only at hb
                  by_cases hz : k ∈ ns
                  · rw [if_pos hz] at hb
                    obtain ⟨q0, vs, l, qs, r, e5, rfl, e6, e7, e8, wr⟩ := write_slot i1 e2
                    rw [e1] at e5; cases e5
                    obtain ⟨rfl, rfl⟩ := ints_us e8 e3
                    obtain ⟨f1, f2⟩ := idxOf_first hz
                    have nd2 : (l ++ ((p0 :: []) ++ r)).Nodup := by simpa using nd1
                    have i2 := wr (fzs ((ns.eraseIdx (ns.idxOf k)).map .int)) ((ns.eraseIdx (ns.idxOf k)).map V.int) [] (RepUs.fzs (rep_ints _)) nd2
                    refine .inr ⟨p0, ns, k, ns.idxOf k, rfl, rfl, e6, f1, f2, ?_⟩
                    exact hb F1 _ _ .non [] i2 (by simp [RepU, Rep]) (by simpa using nd2) (step_write e6 (by simp) fun a ha => by simpa using ha)
                  · rw [if_neg hz] at hb; exact hb.elim
        | _ => exact hb.elim
    · intro z
      cases u with
      | fz d =>
        cases d with
        | int k =>
          simp only at z
          split at z
          · split at z
            · split at z <;> cases z
            · cases z
          · cases z
        | _ => cases z
      | ul us => cases z
      | ut us => cases z
  exact ⟨h, pt_val h⟩
theorem atU {F H : Hp} {us : List U} {vs : List V} {qs : List Addr} {k : Int} {d : D} (r : RepUs G F H us vs qs) (h : atI us k = some (.fz d)) : ∃ v, atI vs k = some v ∧ Rep G F d v := by
  unfold atI at h ⊢
  rw [r.length]
  cases q : ixN us.length k with
  | none => rw [q] at h; simp at h
  | some j =>
    rw [q] at h
    simp only [Option.bind_some] at h ⊢
    obtain ⟨v, l, q, r, e1, e2, e3, _⟩ := r.at h
    simp only [RepU] at e3
    exact ⟨v, e1, e3.2⟩
theorem se_pix {i : Nat} {e : E} {x : Str} {ee : Expr} {p pos : Pos} (hK : X.K = G.K) (hN : X.N[i]? = some x) (hv : visB X.env.scope x = true) (hp : plainN x = true) (se : SE G W cl P X e ee) (hn : noSl ee = true) :
    SE G W cl P X (.pix i e) (.Subscript (.Name x p) ee pos) := by
  simp only [plainN, Bool.and_eq_true, Bool.not_eq_true'] at hp
  have h : PE X (.Subscript (.Name x p) ee pos) (TEr G W cl P (.pix i e)) := by
    refine PE.imp (pe_ix ix_seq (pe_var hN (vis_of hv) hp.1.1 hp.1.2) se.pe (plainIx_of hn)) fun σ H Q ⟨F, ρ, os, I, h⟩ => ?_
    simp only [evE] at h
    by_cases ho : hasAt ρ i = true
    · rw [if_pos ho] at h
      have hv : ∃ v, σ[i]? = some (some v) := by
        unfold hasAt at ho
        cases e : ρ[i]? with
        | none => rw [e] at ho; simp at ho
        | some o =>
          cases o with
          | none => rw [e] at ho; simp at ho
          | some w =>
            obtain ⟨v, _, _, _, e1, _⟩ := I.env.split e
            exact ⟨v, e1⟩
      obtain ⟨v, e1⟩ := hv
      refine ⟨v, e1, ?_⟩
      refine te_frz I ?_
      cases e2 : evE cl P e ρ with
      | bad => rw [e2] at h; exact h
      | ex x v ρ1 => rw [e2] at h; exact h
      | ok u ρ1 =>
        rw [e2] at h
        intro F1 H1 os1 y i1 r1 st1
        cases u with
        | ul us => exact h.elim
        | ut us => exact h.elim
        | fz d =>
          cases d with
          | int k =>
            simp only [U.d] at r1
            cases r1.int_inv
            simp only at h
            cases e3 : ρ1[i]? with
            | none => rw [e3] at h; exact h.elim
            | some o =>
              cases o with
              | none => rw [e3] at h; exact h.elim
              | some w =>
                cases w with
                | fz d => rw [e3] at h; exact h.elim
                | ut us => rw [e3] at h; exact h.elim
                | ul us =>
                  rw [e3] at h
                  obtain ⟨p0, vs, l, qs, r, e4, _, e5, _, e6, _⟩ := write_slot i1 e3
                  rw [e1] at e4; cases e4
                  cases e7 : atI us k with
                  | none => simp only [e7] at h; exact h.elim
                  | some w =>
                    cases w with
                    | ul _ => simp only [e7] at h; exact h.elim
                    | ut _ => simp only [e7] at h; exact h.elim
                    | fz d =>
                      simp only [e7] at h
                      obtain ⟨z, e8, e9⟩ := atU e6 e7
                      refine .inl ⟨p0, vs, k, z, rfl, rfl, .inl (.inl e5), e8, ?_⟩
                      exact h F1 H1 os1 z [] i1 (by simp only [RepU, true_and]; exact e9) (by simpa using i1.nd) st1 (by simp [Lk])
          | _ => exact h.elim
    · rw [if_neg ho] at h; exact h.elim
  exact ⟨h, pt_val h⟩
end
end Pv

/-! Pv8: targets, what is walked, comprehensions. -/
namespace Pv
open PySem PySem.Spec PyProof.Rows L2

section
variable {G : Gx} {W : WX} {cl : Str → List U → RC} {P : List Nat} {X : Cx}
/-- a slot is filled anew -/
theorem set_slot {F H : Hp} {ρ : Env} {σ : L2.St} {os ps : List Addr} {i : Nat} {u : U} {v : V} (I : Inv2 G F H ρ σ os) (r : RepU G F H u v ps) (nd : (ps ++ os).Nodup) (hi : i < ρ.length) :
    ∃ os', Inv2 G F H (ρ.set i (some u)) (σ.set i (some v)) os' ∧ ∀ a ∈ os', a ∈ ps ++ os := by
  cases e : ρ[i]? with
  | none => rw [List.getElem?_eq_none_iff] at e; omega
  | some o =>
    cases o with
    | none =>
      obtain ⟨l, q, rfl, e2⟩ := I.env.fill e r
      exact ⟨l ++ (ps ++ q), ⟨I.sub, e2, (List.perm_append_comm_assoc l ps q).nodup_iff.mpr nd⟩, fun a ha => by simp only [List.mem_append] at ha ⊢; rcases ha with h | h | h <;> simp [h]⟩
    | some w =>
      obtain ⟨v0, l, p, q, e1, rfl, r1, e2, fill⟩ := I.env.split e
      have nd2 : (ps ++ (l ++ q)).Nodup := by
        have h1 := List.nodup_append.mp nd
        rw [List.nodup_append]
        refine ⟨h1.1, (List.nodup_append.mp (nodup_mid h1.2.1)).2.1, fun a ha b hb => h1.2.2 a ha b ?_⟩
        rcases List.mem_append.mp hb with h | h <;> simp [h]
      have := fill (F' := F) (H' := H) (u' := u) (v' := v) (p' := ps) (Sub.refl F) (fun a ha => ⟨(e2.owns a ha).2, fun o q => q⟩) r
      refine ⟨l ++ (ps ++ q), ⟨I.sub, this, (List.perm_append_comm_assoc l ps q).nodup_iff.mpr nd2⟩, fun a ha => ?_⟩
      simp only [List.mem_append] at ha ⊢
      rcases ha with h | h | h <;> simp [h]
/-- a slot's content is forgotten -/
theorem RepE.forget {F H : Hp} {σ : L2.St} {ρ : Env} {os : List Addr} {i : Nat} (h : RepE G F H ρ σ os) (nd : os.Nodup) : ∃ os', RepE G F H (ρ.set i none) σ os' ∧ os'.Nodup ∧ ∀ a ∈ os', a ∈ os := by
  cases e : ρ[i]? with
  | none =>
    rw [List.set_eq_of_length_le (List.getElem?_eq_none_iff.mp e)]
    exact ⟨os, h, nd, fun a h => h⟩
  | some o =>
    cases o with
    | none => exact ⟨os, by
        have : ρ.set i none = ρ := by
          apply List.ext_getElem?
          intro j
          by_cases q : i = j
          · subst q; rw [List.getElem?_set_self (List.getElem?_eq_some_iff.mp e).1, e]
          · rw [List.getElem?_set_ne q]
        rw [this]; exact h, nd, fun a h => h⟩
    | some w =>
      obtain ⟨v0, l, p, q, e1, rfl, r1, e2, _⟩ := h.split e
      exact ⟨l ++ q, e2, (List.nodup_append.mp (nodup_mid nd)).2.1, fun a ha => by simp only [List.mem_append] at ha ⊢; rcases ha with h | h <;> simp [h]⟩
/-- with nothing known of a slot, its value does not matter -/
theorem RepE.anyV {F H : Hp} : ∀ {ρ : Env} {σ : L2.St} {os : List Addr} {i : Nat} {x : Option V}, RepE G F H ρ σ os → ρ[i]? = some none → RepE G F H ρ (σ.set i x) os
  | [], _, _, _, _, _, e => by simp at e
  | none :: ρ, _, _, 0, x, h, _ => by
    simp only [RepE] at h ⊢
    obtain ⟨y, r, rfl, h⟩ := h
    exact ⟨x, r, by simp, h⟩
  | some w :: ρ, _, _, 0, _, _, e => by simp at e
  | none :: ρ, _, _, i + 1, x, h, e => by
    simp only [RepE] at h ⊢
    obtain ⟨y, r, rfl, h⟩ := h
    exact ⟨y, r.set i x, by simp, RepE.anyV h (by simpa using e)⟩
  | some w :: ρ, _, _, i + 1, x, h, e => by
    simp only [RepE] at h ⊢
    obtain ⟨v, r, p, q, rfl, rfl, h1, h2⟩ := h
    exact ⟨v, r.set i x, p, q, by simp, rfl, h1, RepE.anyV h2 (by simpa using e)⟩

/-! ### targets -/
/-- slots outside of P alone are changed -/
def Keep (P : List Nat) (σ σ' : L2.St) : Prop := ∀ i ∈ P, σ'[i]? = σ[i]?
theorem Keep.refl {σ : L2.St} : Keep P σ σ := fun _ _ => rfl
theorem Keep.trans {σ σ1 σ2 : L2.St} (a : Keep P σ σ1) (b : Keep P σ1 σ2) : Keep P σ σ2 := fun i h => (b i h).trans (a i h)
theorem Keep.set {σ : L2.St} {i : Nat} {x : Option V} (h : P.contains i = false) : Keep P σ (σ.set i x) := fun j hj => by
  rw [List.getElem?_set_ne]
  intro e
  subst e
  rw [List.contains_iff_mem.mpr hj] at h
  exact Bool.noConfusion h
def TGr (G : Gx) (P : List Nat) (tg : Tg) : TG := fun v σ H Q => ∃ F ρ os u ps, Inv2 G F H ρ σ os ∧ RepU G F H u v ps ∧ (ps ++ os).Nodup ∧ match setTg P tg u ρ with
  | some ρ' => ∀ F' os' σ', Inv2 G F' H ρ' σ' os' → Step F H (ps ++ os) F' H os' → Keep P σ σ' → (∀ j, j ∉ tg.slots → σ'[j]? = σ[j]?) → σ'.length = σ.length → Q σ' H
  | none => False
def ST (G : Gx) (P : List Nat) (X : Cx) (tg : Tg) (e : Expr) : Prop := PG X e (TGr G P tg)
theorem PG.imp {X : Cx} {e : Expr} {t t' : TG} (h : PG X e t) (k : ∀ v σ H Q, t' v σ H Q → t v σ H Q) : PG X e t' := ⟨fun pins s σ H v u Q I r q => h.run pins s σ H v u Q I r (k v σ H Q q)⟩
def locB (X : Cx) (x : Str) : Bool := X.env.scope.names.lookup x == some .local || (X.env.scope.names.lookup x == some .cell && X.fn x)
theorem loc_of {x : Str} (h : locB X x = true) : Loc X.env.scope x ∧ (X.fn x = true ∨ X.env.scope.names.lookup x = some .local) := by
  simp only [locB, Bool.or_eq_true, Bool.and_eq_true, beq_iff_eq] at h
  rcases h with h | ⟨h, k⟩
  · exact ⟨.inl h, .inr h⟩
  · exact ⟨.inr h, .inl k⟩
theorem st_name {i : Nat} {x : Str} {pos : Pos} (hnd : X.N.Nodup) (hN : X.N[i]? = some x) (hv : locB X x = true) : ST G P X (.name i) (.Name x pos) := by
  obtain ⟨h1, h2⟩ := loc_of hv
  refine PG.imp (pg_name hnd hN h1 h2) fun v σ H Q ⟨F, ρ, os, u, ps, I, r, nd, h⟩ => ?_
  simp only [setTg] at h
  by_cases hp : P.contains i = true
  · rw [if_pos hp] at h; exact h.elim
  · rw [if_neg hp] at h
    by_cases hl : i < ρ.length
    · rw [if_pos hl] at h
      obtain ⟨os', I', hs⟩ := set_slot I r nd hl
      refine h F os' _ I' (Step.refl.weak (fun a h => h) fun a ha => .inr (hs a ha)) (Keep.set (by simpa using hp)) (fun j hj => ?_) (by simp)
      simp only [Tg.slots, List.mem_singleton] at hj
      rw [List.getElem?_set_ne (Ne.symm hj)]
    · rw [if_neg hl] at h; exact h.elim
def gNs : List Nat → TGs
  | [] => gNil
  | i :: is => gCons (gName i) (gNs is)
def nameOf : Expr → Option Str
  | .Name x _ => some x
  | _ => none
def namesAre (X : Cx) : List Nat → List Expr → Prop
  | [], es => es = []
  | i :: is, es => ∃ x p r, es = .Name x p :: r ∧ X.N[i]? = some x ∧ locB X x = true ∧ namesAre X is r
theorem pgs_names (hnd : X.N.Nodup) : ∀ {is : List Nat} {es : List Expr}, namesAre X is es → PGs X es (gNs is) ∧ (assignEach es X.env).length = is.length ∧ (assignEach es X.env).findIdx? (·.1) = none
  | [], es, h => by simp only [namesAre] at h; subst h; exact ⟨pgs_nil, rfl, rfl⟩
  | i :: is, es, h => by
    simp only [namesAre] at h
    obtain ⟨x, p, r, rfl, h1, h2, h3⟩ := h
    obtain ⟨k1, k2, k3⟩ := pgs_names hnd h3
    obtain ⟨l1, l2⟩ := loc_of h2
    refine ⟨pgs_cons (pg_name hnd h1 l1 l2) k1 rfl, ?_, ?_⟩
    · show (assignEach r X.env).length + 1 = _
      rw [k2]; rfl
    · show ((false, _) :: assignEach r X.env).findIdx? (·.1) = none
      rw [List.findIdx?_cons]
      simp only [Bool.false_eq_true, if_false, k3, Option.map_none]
theorem gNs_reads : ∀ {is : List Nat} {vs : List V} {σ : L2.St} {H : Hp} {Q : L2.St → Hp → Prop}, vs.length = is.length → Q ((is.zip vs).foldl (fun σ p => σ.set p.1 (some p.2)) σ) H → gNs is vs σ H Q
  | [], vs, σ, H, Q, hl, h => by
    have : vs = [] := List.length_eq_zero_iff.mp hl
    subst this
    exact ⟨rfl, h⟩
  | i :: is, [], _, _, _, hl, _ => by simp at hl
  | i :: is, v :: vs, σ, H, Q, hl, h => ⟨v, vs, rfl, gNs_reads (by simpa using hl) (by simpa using h)⟩
theorem set_many {F H : Hp} : ∀ {is : List Nat} {us : List U} {vs : List V} {qs : List Addr} {ρ : Env} {σ : L2.St} {os : List Addr}, Inv2 G F H ρ σ os → RepUs G F H us vs qs → (qs ++ os).Nodup → is.length = us.length → (∀ i ∈ is, i < ρ.length ∧ P.contains i = false) →
    ∃ os', Inv2 G F H ((is.zip us).foldl (fun ρ p => ρ.set p.1 (some p.2)) ρ) ((is.zip vs).foldl (fun σ p => σ.set p.1 (some p.2)) σ) os' ∧ (∀ a ∈ os', a ∈ qs ++ os) ∧
      Keep P σ ((is.zip vs).foldl (fun σ p => σ.set p.1 (some p.2)) σ) ∧ (∀ j, j ∉ is → ((is.zip vs).foldl (fun σ p => σ.set p.1 (some p.2)) σ)[j]? = σ[j]?) ∧ ((is.zip vs).foldl (fun σ p => σ.set p.1 (some p.2)) σ).length = σ.length
  | [], _, _, qs, ρ, σ, os, I, r, nd, hl, _ => ⟨os, by simpa using I, fun a h => by simp [h], Keep.refl, fun _ _ => rfl, rfl⟩
  | i :: is, [], _, _, _, _, _, _, _, _, hl, _ => by simp at hl
  | i :: is, u :: us, vs, qs, ρ, σ, os, I, r, nd, hl, hi => by
    simp only [RepUs] at r
    obtain ⟨v, w, p, q, rfl, rfl, r1, r2⟩ := r
    have nd1 : (p ++ os).Nodup := by
      rw [List.nodup_append] at nd ⊢
      exact ⟨(List.nodup_append.mp nd.1).1, nd.2.1, fun a ha b hb => nd.2.2 a (by simp [ha]) b hb⟩
    obtain ⟨os1, I1, s1⟩ := set_slot I r1 nd1 (hi i (by simp)).1
    have nd2 : (q ++ os1).Nodup := by
      rw [List.nodup_append]
      refine ⟨(List.nodup_append.mp (List.nodup_append.mp nd).1).2.1, I1.nd, fun a ha b hb e => ?_⟩
      subst e
      rcases List.mem_append.mp (s1 a hb) with h | h
      · exact (List.nodup_append.mp (List.nodup_append.mp nd).1).2.2 a h a ha rfl
      · exact (List.nodup_append.mp nd).2.2 a (by simp [ha]) a h rfl
    obtain ⟨os2, I2, s2, k2, o2, l2⟩ := set_many (is := is) I1 r2 nd2 (by simpa using hl) (fun j hj => by simpa using hi j (by simp [hj]))
    refine ⟨os2, by simpa using I2, fun a ha => ?_, ?_, fun j hj => ?_, ?_⟩
    · rcases List.mem_append.mp (s2 a ha) with h | h
      · simp [h]
      · rcases List.mem_append.mp (s1 a h) with h | h <;> simp [h]
    · simp only [List.zip_cons_cons, List.foldl_cons]
      exact (Keep.set (hi i (by simp)).2).trans k2
    · simp only [List.mem_cons, not_or] at hj
      simp only [List.zip_cons_cons, List.foldl_cons]
      rw [o2 j hj.2, List.getElem?_set_ne (Ne.symm hj.1)]
    · simp only [List.zip_cons_cons, List.foldl_cons]
      rw [l2]; simp
/-- what is unpacked: a tuple or a list -/
theorem tup_parts {F H : Hp} {u : U} {v : V} {ps : List Addr} {us : List U} (r : RepU G F H u v ps) (e : tupU u = some us) (sub : Sub F H) : ∃ a vs qs, v = .ref a ∧ (SqT G.K H a vs ∨ SqL G.K H a vs) ∧ RepUs G F H us vs qs ∧ (∀ x ∈ qs, x ∈ ps) ∧ (ps.Nodup → qs.Nodup) := by
  cases u with
  | ul ws =>
    simp only [tupU] at e; cases e
    simp only [RepU] at r
    obtain ⟨p, vs, qs, rfl, rfl, h1, h2, h3⟩ := r
    exact ⟨p, vs, qs, rfl, .inr (.inl (.inl h1)), h3, fun x hx => by simp [hx], fun n => (List.nodup_cons.mp n).2⟩
  | ut ws =>
    simp only [tupU] at e; cases e
    simp only [RepU] at r
    obtain ⟨a, vs, rfl, h1, h3⟩ := r
    exact ⟨a, vs, ps, rfl, .inl (.inl (.inl (sub _ _ h1))), h3, fun x hx => hx, fun n => n⟩
  | fz d =>
    simp only [RepU] at r
    obtain ⟨rfl, r⟩ := r
    cases d with
    | tup ds =>
      simp only [tupU] at e; cases e
      simp only [Rep] at r
      obtain ⟨a, vs, rfl, h1, h2⟩ := r
      exact ⟨a, vs, [], rfl, .inl (sub.sqT h1), RepUs.fzs h2, fun x hx => hx, fun n => n⟩
    | lst ds =>
      simp only [tupU] at e; cases e
      simp only [Rep] at r
      obtain ⟨a, vs, rfl, h1, h2⟩ := r
      exact ⟨a, vs, [], rfl, .inr (sub.sqL h1), RepUs.fzs h2, fun x hx => hx, fun n => n⟩
    | _ => simp [tupU] at e
theorem st_tup {is : List Nat} {es : List Expr} {k : Nat} {pos : Pos} (hK : X.K = G.K) (hc : X.calm = true) (hnd : X.N.Nodup) (hN : namesAre X is es) : ST G P X (.tup is) (.Tuple es k pos) := by
  obtain ⟨k1, k2, k3⟩ := pgs_names hnd hN
  refine ⟨fun pins s σ H v uu Q I0 rr ⟨F, ρ, os, u, ps, I, r, nd, h⟩ => ?_⟩
  simp only [setTg] at h
  cases e : tupU u with
  | none => rw [e] at h; exact h.elim
  | some us =>
    rw [e] at h
    simp only at h
    by_cases hcond : (decide (us.length = is.length) && is.all fun i => !P.contains i && decide (i < ρ.length)) = true
    · rw [if_pos hcond] at h
      obtain ⟨a, vs, qs, rfl, sq, rs, sb, ndq⟩ := tup_parts r e I.sub
      simp only [Bool.and_eq_true, decide_eq_true_eq, List.all_eq_true, Bool.not_eq_true'] at hcond
      have nd' : (qs ++ os).Nodup := by
        rw [List.nodup_append] at nd ⊢
        exact ⟨ndq nd.1, nd.2.1, fun x hx y hy => nd.2.2 x (sb x hx) y hy⟩
      obtain ⟨os', I3, s3, k3', o3, l3⟩ := set_many (P := P) I rs nd' hcond.1.symm (fun i hi => ⟨(hcond.2 i hi).2, (hcond.2 i hi).1⟩)
      have fin : Q ((is.zip vs).foldl (fun σ p => σ.set p.1 (some p.2)) σ) H := h F os' _ I3 (Step.refl.weak (fun a h => h) fun a ha => .inr (by
        rcases List.mem_append.mp (s3 a ha) with h | h
        · simp [sb a h]
        · simp [h])) k3' o3 l3
      have lv : vs.length = is.length := by rw [rs.length]; exact hcond.1
      rcases sq with sq | sq
      · exact (pg_tup hc k1 k2 k3).run pins s σ H _ uu Q I0 rr ⟨a, vs, rfl, by rw [hK]; exact sq, lv, gNs_reads lv fin⟩
      · exact (pg_unl hc k1 k2 k3).run pins s σ H _ uu Q I0 rr ⟨a, vs, rfl, by rw [hK]; exact sq, lv, gNs_reads lv fin⟩
    · rw [if_neg hcond] at h; exact h.elim

/-! ### what is walked -/
structure Walk (G : Gx) (J : It) (F : Hp) (ds : List D) : Prop where
  stop : ∀ i H, Sub F H → ds.length ≤ i → J.stop i H
  go : ∀ i H, Sub F H → i < ds.length → J.go i H
  yld : ∀ i H x H' F' d, Sub F F' → Sub F' H → J.yld i H x H' → ds[i]? = some d → ∃ F'', Rep G F'' d x ∧ Sub F'' H' ∧ Step F' H [] F'' H' []
theorem walk_list {F : Hp} {a : Addr} {vs : List V} {ds : List D} (h : SqL G.K F a vs) (r : Reps G F ds vs) : Walk G (Itl G.K a) F ds where
  stop := fun i H s hi => ⟨vs, s.sqL h, by rw [r.length]; exact hi⟩
  go := fun i H s hi => ⟨vs, vs[i]'(by rw [r.length]; exact hi), s.sqL h, List.getElem?_eq_getElem _⟩
  yld := fun i H x H' F' d s s' ⟨e, y⟩ hd => by
    subst e
    obtain ⟨v, e1, e2⟩ := r.get hd
    have := y vs ((s.trans s').sqL h)
    rw [e1] at this; cases this
    exact ⟨F', e2.mono s, s', Step.refl⟩
theorem walk_tup {F : Hp} {a : Addr} {vs : List V} {ds : List D} (h : SqT G.K F a vs) (r : Reps G F ds vs) : Walk G (Itt G.K a) F ds where
  stop := fun i H s hi => ⟨vs, s.sqT h, by rw [r.length]; exact hi⟩
  go := fun i H s hi => ⟨vs, vs[i]'(by rw [r.length]; exact hi), s.sqT h, List.getElem?_eq_getElem _⟩
  yld := fun i H x H' F' d s s' ⟨e, y⟩ hd => by
    subst e
    obtain ⟨v, e1, e2⟩ := r.get hd
    have := y vs ((s.trans s').sqT h)
    rw [e1] at this; cases this
    exact ⟨F', e2.mono s, s', Step.refl⟩
theorem rgD_get {lo hi : Int} {i : Nat} {d : D} (h : (rgD lo hi)[i]? = some d) : d = .int (lo + i) := by
  unfold rgD at h
  rw [List.getElem?_map] at h
  cases e : (List.range (hi - lo).toNat)[i]? with
  | none => rw [e] at h; simp at h
  | some j =>
    rw [e] at h
    obtain ⟨h1, h2⟩ := List.getElem?_eq_some_iff.mp e
    simp at h2 h
    subst h2
    exact h.symm
theorem rgD_length (lo hi : Int) : (rgD lo hi).length = (hi - lo).toNat := by unfold rgD; simp
theorem walk_rng {F : Hp} {lo hi : Int} : Walk G (Itr lo (hi - lo).toNat) F (rgD lo hi) where
  stop := fun i H s h => by rw [rgD_length] at h; exact h
  go := fun i H s h => by rw [rgD_length] at h; exact h
  yld := fun i H x H' F' d s s' ⟨e, y⟩ hd => by
    subst e y
    rw [rgD_get hd]
    exact ⟨F', by simp [Rep], s', Step.refl⟩
theorem upd_sub {F H : Hp} {p : Addr} {o : HO} (s : Sub F H) : Sub (upd F p o) (upd H p o) := fun a u e => by
  by_cases ha : a = p
  · subst ha; rw [upd_same] at e ⊢; exact e
  · rw [upd_ne ha] at e ⊢; exact s a u e
theorem walk_enum {F : Hp} {a : Addr} {vs : List V} {ds : List D} (h : SqL G.K F a vs) (r : Reps G F ds vs) : Walk G (Ite G.K a) F (ds.zipIdx.map fun p => .tup [.int p.2, p.1]) where
  stop := fun i H s hi => ⟨vs, s.sqL h, by rw [r.length]; simpa using hi⟩
  go := fun i H s hi => ⟨vs, vs[i]'(by rw [r.length]; simpa using hi), s.sqL h, List.getElem?_eq_getElem _⟩
  yld := fun i H x H' F' d s s' ⟨T, y, e1, hT, e2, k⟩ hd => by
    subst e1 e2
    rw [List.getElem?_map, List.getElem?_zipIdx] at hd
    cases q : ds[i]? with
    | none => rw [q] at hd; simp at hd
    | some dd =>
      rw [q] at hd
      simp at hd
      subst hd
      obtain ⟨v, e3, e4⟩ := r.get q
      have hv : v = y := Option.some.inj (e3.symm.trans (k vs ((s.trans s').sqL h)))
      subst hv
      refine ⟨upd F' T (.tup [.int (i : Nat), v]), ?_, upd_sub s', Step.newF s' hT⟩
      simp only [Rep]
      refine ⟨T, _, rfl, .inl (.inl upd_same), Reps.cons (by simp [Rep]) (Reps.cons (e4.mono (s.trans (Sub.upd (s'.none hT)))) Reps.nil)⟩
theorem walk_zip {F : Hp} {a b : Addr} {vs ws : List V} {ds es : List D} (h : SqL G.K F a vs) (r : Reps G F ds vs) (h' : SqL G.K F b ws) (r' : Reps G F es ws) : Walk G (Itz G.K a b) F ((ds.zip es).map fun p => .tup [p.1, p.2]) where
  stop := fun i H s hi => ⟨vs, ws, s.sqL h, s.sqL h', by rw [r.length, r'.length]; simp only [List.length_map, List.length_zip] at hi; omega⟩
  go := fun i H s hi => by
    simp only [List.length_map, List.length_zip] at hi
    exact ⟨vs, ws, vs[i]'(by rw [r.length]; omega), ws[i]'(by rw [r'.length]; omega), s.sqL h, s.sqL h', List.getElem?_eq_getElem _, List.getElem?_eq_getElem _⟩
  yld := fun i H x H' F' d s s' ⟨T, y, z, e1, hT, e2, k, k'⟩ hd => by
    subst e1 e2
    rw [List.getElem?_map] at hd
    cases q : (ds.zip es)[i]? with
    | none => rw [q] at hd; simp at hd
    | some p =>
      obtain ⟨q1, q2⟩ := List.getElem?_zip_eq_some.mp q
      rw [q] at hd
      simp at hd
      subst hd
      obtain ⟨v, e3, e4⟩ := r.get q1
      obtain ⟨w, e5, e6⟩ := r'.get q2
      have hv : v = y := Option.some.inj (e3.symm.trans (k vs ((s.trans s').sqL h)))
      have hw : w = z := Option.some.inj (e5.symm.trans (k' ws ((s.trans s').sqL h')))
      subst hv hw
      have sT : Sub F (upd F' T (.tup [v, w])) := s.trans (Sub.upd (s'.none hT))
      refine ⟨upd F' T (.tup [v, w]), ?_, upd_sub s', Step.newF s' hT⟩
      simp only [Rep]
      exact ⟨T, _, rfl, .inl (.inl upd_same), Reps.cons (e4.mono sT) (Reps.cons (e6.mono sT) Reps.nil)⟩
def TIr (G : Gx) (W : WX) (cl : Str → List U → RC) (P : List Nat) (k : ItK) (src : Es) : TI := fun σ H R => ∃ F ρ os, Inv2 G F H ρ σ os ∧ match evEs cl P src ρ with
  | .ok us ρ1 => (match itF k (Us.d us) with
    | some ds => ∀ F1 H1 os1 J, Inv2 G F1 H1 ρ1 σ os1 → Step F H os F1 H1 os1 → Walk G J F1 ds → R J H1
    | none => False)
  | .ex c v ρ1 => GX G W c v ρ1 F H os σ
  | .bad => False
def SI (G : Gx) (W : WX) (cl : Str → List U → RC) (P : List Nat) (X : Cx) (tgE : Expr) (k : ItK) (src : Es) (e : Expr) : Prop := PI X tgE e (TIr G W cl P k src)
/-- the source's values, shared -/
theorem ti_args {k : ItK} {src : Es} {σ : L2.St} {H : Hp} {R : It → Hp → Prop} (h : TIr G W cl P k src σ H R) {K : List V → Hp → Prop}
    (hk : ∀ F1 H1 vs us ds, Sub F1 H1 → Reps G F1 us vs → itF k us = some ds → us.length = src.len → (∀ J, Walk G J F1 ds → R J H1) → K vs H1) : TAr G W cl P src σ H K := by
  obtain ⟨F, ρ, os, I, h⟩ := h
  refine ⟨F, ρ, os, I, ?_⟩
  cases e : evEs cl P src ρ with
  | bad => rw [e] at h; exact h
  | ex c v ρ1 => rw [e] at h; exact h
  | ok us ρ1 =>
    rw [e] at h
    simp only at h
    cases e2 : itF k (Us.d us) with
    | none => rw [e2] at h; exact h.elim
    | some ds =>
      rw [e2] at h
      intro F1 H1 os1 vs ps i1 r1 nd1 st1 lk
      obtain ⟨i2, s2⟩ := share i1 r1.owns nd1
      exact hk _ H1 vs _ ds i2.sub (share_reps r1) e2 (by rw [Us.d_length]; exact evEs_len src e) fun J w => h _ H1 os1 J i2 (st1.trans s2) w
theorem te_src {k : ItK} {e : E} {σ : L2.St} {H : Hp} {R : It → Hp → Prop} {K : V → Hp → Prop} {F : Hp} {ρ : Env} {os : List Addr} (I : Inv2 G F H ρ σ os)
    (h : match evEs cl P (.cons e .nil) ρ with
      | .ok us ρ1 => (match itF k (Us.d us) with
        | some ds => ∀ F1 H1 os1 J, Inv2 G F1 H1 ρ1 σ os1 → Step F H os F1 H1 os1 → Walk G J F1 ds → R J H1
        | none => False)
      | .ex c v ρ1 => GX G W c v ρ1 F H os σ
      | .bad => False)
    (hk : ∀ u ρ1 ds, evE cl P e ρ = .ok u ρ1 → itF k [u.d] = some ds → ∀ F1 H1 x, Sub F1 H1 → Rep G F1 u.d x → (∀ J, Walk G J F1 ds → R J H1) → K x H1) : TEr G W cl P e σ H K := by
  refine te_frz I ?_
  simp only [evEs] at h
  cases e1 : evE cl P e ρ with
  | bad => rw [e1] at h; exact h
  | ex c v ρ1 => rw [e1] at h; exact h
  | ok u ρ1 =>
    rw [e1] at h
    simp only [Us.d] at h
    intro F1 H1 os1 x i1 r1 st1
    cases e2 : itF k [u.d] with
    | none => rw [e2] at h; exact h.elim
    | some ds =>
      rw [e2] at h
      exact hk u ρ1 ds e1 e2 F1 H1 x i1.sub r1 fun J w => h F1 H1 os1 J i1 st1 w
theorem walk_str {F : Hp} {z : Str} : Walk G (Its z) F (chrsD z) where
  stop := fun i H _ hi => by
    simp only [chrsD, List.length_map] at hi
    show z.cps.size ≤ i
    simpa using hi
  go := fun i H _ hi => by
    simp only [chrsD, List.length_map] at hi
    show i < z.cps.size
    simpa using hi
  yld := fun i H x H' F' d s s' ⟨e1, c, e2, e3⟩ hd => by
    subst e1 e3
    simp only [chrsD, List.getElem?_map, Array.getElem?_toList, e2, Option.map_some, Option.some.injEq] at hd
    subst hd
    exact ⟨F', by simp [Rep], s', Step.refl⟩
theorem it_inv {d : D} {ds : List D} (h : itMany d = some ds) : d = .lst ds ∨ d = .tup ds ∨ ∃ z, d = .str z ∧ ds = chrsD z := by
  cases d <;> simp [itMany] at h
  · exact .inr (.inr ⟨_, rfl, h.symm⟩)
  · subst h; exact .inr (.inl rfl)
  · subst h; exact .inl rfl
theorem si_many {e : E} {ex tgE : Expr} (hK : X.K = G.K) (s : SE G W cl P X e ex) : SI G W cl P X tgE .many (.cons e .nil) ex := by
  refine ⟨fun pins st σ H R I ⟨F, ρ, os, I0, h⟩ => ?_⟩
  by_cases ht : ∃ u ρ1 ds, evE cl P e ρ = .ok u ρ1 ∧ u.d = .tup ds
  · obtain ⟨u, ρ1, ds, e1, e2⟩ := ht
    refine (pi_tup (tg := tgE) s.pe).run pins st σ H R I (te_src I0 h fun u' ρ1' ds' e1' e2' F1 H1 x sub r hw => ?_)
    rw [e1] at e1'; cases e1'
    rw [e2] at r e2'
    simp only [itF, itMany, Option.some.injEq] at e2'
    subst e2'
    obtain ⟨p, ys, rfl, h1, h2⟩ := r.tup_inv
    exact ⟨p, rfl, ⟨ys, by rw [hK]; exact sub.sqT h1⟩, by rw [hK]; exact hw _ (walk_tup h1 h2)⟩
  · by_cases hs : ∃ u ρ1 z, evE cl P e ρ = .ok u ρ1 ∧ u.d = .str z
    · obtain ⟨u, ρ1, z, e1, e2⟩ := hs
      refine (pi_str (tg := tgE) s.pe).run pins st σ H R I (te_src I0 h fun u' ρ1' ds' e1' e2' F1 H1 x sub r hw => ?_)
      rw [e1] at e1'; cases e1'
      rw [e2] at r e2'
      simp only [itF, itMany, Option.some.injEq] at e2'
      subst e2'
      cases r.str_inv
      exact ⟨z, rfl, hw _ walk_str⟩
    · refine (pi_list (tg := tgE) s.pe).run pins st σ H R I (te_src I0 h fun u' ρ1' ds' e1' e2' F1 H1 x sub r hw => ?_)
      simp only [itF] at e2'
      rcases it_inv e2' with q | q | ⟨z, q, _⟩
      · rw [q] at r
        obtain ⟨p, ys, rfl, h1, h2⟩ := r.lst_inv
        exact ⟨p, rfl, ⟨ys, by rw [hK]; exact sub.sqL h1⟩, by rw [hK]; exact hw _ (walk_list h1 h2)⟩
      · exact absurd ⟨u', ρ1', ds', e1', q⟩ ht
      · exact absurd ⟨u', ρ1', z, e1', q⟩ hs
theorem PI.imp {X : Cx} {tg e : Expr} {t t' : TI} (h : PI X tg e t) (k : ∀ σ H Q, t' σ H Q → t σ H Q) : PI X tg e t' := ⟨fun pins s σ H Q I q => h.run pins s σ H Q I (k σ H Q q)⟩
theorem si_rng1 {a : E} {ea tgE : Expr} {p pos : Pos} (hg : Gl X "range") (hm : X.mg "range" = none) (sa : SE G W cl P X a ea) (hn : notStar ea = true) : SI G W cl P X tgE .rng1 (.cons a .nil) (.Call (.Name "range" p) [ea] [] pos) := by
  refine PI.imp (pi_range1 hg hm (sa_cons sa sa_nil hn) (starEach_of hn)) fun σ H R h => ?_
  refine ti_args h fun F1 H1 vs us ds sub rs e hl hw => ?_
  obtain ⟨d, rfl⟩ := len1 hl
  obtain ⟨x, rfl, r⟩ := rs.one
  cases d <;> simp only [itF] at e <;> try (cases e; done)
  rename_i j
  split at e
  · rename_i hj
    cases e
    cases r.int_inv
    have := hw _ (walk_rng (lo := 0) (hi := j))
    rw [Int.sub_zero] at this
    exact ⟨j, rfl, by omega, by omega, this⟩
  · cases e
theorem si_rng2 {a b : E} {ea eb tgE : Expr} {p pos : Pos} (hg : Gl X "range") (hm : X.mg "range" = none) (sa : SE G W cl P X a ea) (sb : SE G W cl P X b eb) (hn : notStar ea = true) (hn' : notStar eb = true) :
    SI G W cl P X tgE .rng2 (.cons a (.cons b .nil)) (.Call (.Name "range" p) [ea, eb] [] pos) := by
  refine PI.imp (pi_range2 hg hm (sa_cons sa (sa_cons sb sa_nil hn') hn) (by rw [starEach_of hn, starEach_of hn']; rfl) (by rw [starEach_of hn']; rfl)) fun σ H R h => ?_
  refine ti_args h fun F1 H1 vs us ds sub rs e hl hw => ?_
  obtain ⟨d, d', rfl⟩ := len2 hl
  obtain ⟨x, y, rfl, r, r'⟩ := rs.two
  cases d <;> cases d' <;> simp only [itF] at e <;> try (cases e; done)
  rename_i i j
  split at e
  · rename_i hj
    cases e
    cases r.int_inv; cases r'.int_inv
    exact ⟨i, j, rfl, by omega, hw _ walk_rng⟩
  · cases e
theorem walk_enumT {F : Hp} {a : Addr} {vs : List V} {ds : List D} (h : SqT G.K F a vs) (r : Reps G F ds vs) : Walk G (IteT G.K a) F (ds.zipIdx.map fun p => .tup [.int p.2, p.1]) where
  stop := fun i H s hi => ⟨vs, s.sqT h, by rw [r.length]; simpa using hi⟩
  go := fun i H s hi => ⟨vs, vs[i]'(by rw [r.length]; simpa using hi), s.sqT h, List.getElem?_eq_getElem _⟩
  yld := fun i H x H' F' d s s' ⟨T, y, e1, hT, e2, k⟩ hd => by
    subst e1 e2
    rw [List.getElem?_map, List.getElem?_zipIdx] at hd
    cases q : ds[i]? with
    | none => rw [q] at hd; simp at hd
    | some dd =>
      rw [q] at hd
      simp at hd
      subst hd
      obtain ⟨v, e3, e4⟩ := r.get q
      have hv : v = y := Option.some.inj (e3.symm.trans (k vs ((s.trans s').sqT h)))
      subst hv
      refine ⟨upd F' T (.tup [.int (i : Nat), v]), ?_, upd_sub s', Step.newF s' hT⟩
      simp only [Rep]
      refine ⟨T, _, rfl, .inl (.inl upd_same), Reps.cons (by simp [Rep]) (Reps.cons (e4.mono (s.trans (Sub.upd (s'.none hT)))) Reps.nil)⟩
theorem si_enum {a : E} {ea : Expr} {elts : List Expr} {kk : Nat} {p pos tpos : Pos} (hK : X.K = G.K) (hg : Gl X "enumerate") (hm : X.mg "enumerate" = none) (sa : SE G W cl P X a ea) (hn : notStar ea = true) :
    SI G W cl P X (.Tuple elts kk tpos) .enum (.cons a .nil) (.Call (.Name "enumerate" p) [ea] [] pos) := by
  refine ⟨fun pins st σ H R I h => ?_⟩
  by_cases ht : ∃ F ρ os u ρ1 ds, (Inv2 G F H ρ σ os ∧ match evEs cl P (.cons a .nil) ρ with
    | .ok us ρ1 => (match itF .enum (Us.d us) with
      | some ds => ∀ F1 H1 os1 J, Inv2 G F1 H1 ρ1 σ os1 → Step F H os F1 H1 os1 → Walk G J F1 ds → R J H1
      | none => False)
    | .ex c v ρ1 => GX G W c v ρ1 F H os σ
    | .bad => False) ∧ evE cl P a ρ = .ok u ρ1 ∧ u.d = .tup ds
  · obtain ⟨F, ρ, os, u, ρ1, ds, ⟨I0, h0⟩, e1, e2⟩ := ht
    refine (pi_enumT hg hm (sa_cons sa sa_nil hn) (by rw [starEach_of hn]; rfl)).run pins st σ H R I ⟨F, ρ, os, I0, ?_⟩
    cases e : evEs cl P (.cons a .nil) ρ with
    | bad => rw [e] at h0; exact h0
    | ex c v ρ1 => rw [e] at h0; exact h0
    | ok us ρ2 =>
      rw [e] at h0
      simp only at h0
      intro F1 H1 os1 vs ps i1 r1 nd1 st1 lk
      have eu : us = [u] := by
        simp only [evEs, e1] at e
        cases e; rfl
      subst eu
      simp only [Us.d, e2, itF] at h0
      obtain ⟨i2, s2⟩ := share i1 r1.owns nd1
      have rs := share_reps r1
      simp only [Us.d, e2] at rs
      obtain ⟨x, rfl, r⟩ := rs.one
      obtain ⟨q, ys, rfl, h1, h2⟩ := r.tup_inv
      exact ⟨q, ys, rfl, by rw [hK]; exact i2.sub.sqT h1, by rw [hK]; exact h0 _ H1 os1 _ i2 (st1.trans s2) (walk_enumT h1 h2)⟩
  · obtain ⟨F, ρ, os, I0, h0⟩ := h
    refine (pi_enum hg hm (sa_cons sa sa_nil hn) (by rw [starEach_of hn]; rfl)).run pins st σ H R I ⟨F, ρ, os, I0, ?_⟩
    cases e : evEs cl P (.cons a .nil) ρ with
    | bad => rw [e] at h0; exact h0
    | ex c v ρ1 => rw [e] at h0; exact h0
    | ok us ρ2 =>
      have h00 := h0
      rw [e] at h0
      simp only at h0
      intro F1 H1 os1 vs ps i1 r1 nd1 st1 lk
      obtain ⟨i2, s2⟩ := share i1 r1.owns nd1
      have rs := share_reps r1
      have hl : us.length = 1 := evEs_len (.cons a .nil) e
      match us, hl with
      | [u], _ =>
        simp only [Us.d] at h0 rs
        obtain ⟨x, rfl, r⟩ := rs.one
        cases hd : u.d with
        | lst ds =>
          rw [hd] at h0 r
          simp only [itF] at h0
          obtain ⟨q, ys, rfl, h1, h2⟩ := r.lst_inv
          exact ⟨q, ys, rfl, by rw [hK]; exact i2.sub.sqL h1, by rw [hK]; exact h0 _ H1 os1 _ i2 (st1.trans s2) (walk_enum h1 h2)⟩
        | tup ds =>
          exfalso
          refine ht ⟨F, ρ, os, u, ρ2, ds, ⟨I0, h00⟩, ?_, hd⟩
          simp only [evEs] at e
          cases e9 : evE cl P a ρ with
          | bad => rw [e9] at e; cases e
          | ex c v ρ3 => rw [e9] at e; cases e
          | ok u' ρ3 => rw [e9] at e; simp only at e; cases e; rfl
        | _ => rw [hd] at h0; simp only [itF] at h0
theorem si_zip {a b : E} {ea eb : Expr} {elts : List Expr} {kk : Nat} {p pos tpos : Pos} (hK : X.K = G.K) (hg : Gl X "zip") (hm : X.mg "zip" = none) (sa : SE G W cl P X a ea) (sb : SE G W cl P X b eb) (hn : notStar ea = true) (hn' : notStar eb = true) :
    SI G W cl P X (.Tuple elts kk tpos) .zip (.cons a (.cons b .nil)) (.Call (.Name "zip" p) [ea, eb] [] pos) := by
  refine PI.imp (pi_zip hg hm (sa_cons sa (sa_cons sb sa_nil hn') hn) (starEach_of hn) (by rw [starEach_of hn']; rfl)) fun σ H R h => ?_
  refine ti_args h fun F1 H1 vs us ds sub rs e hl hw => ?_
  obtain ⟨d, d', rfl⟩ := len2 hl
  obtain ⟨x, y, rfl, r, r'⟩ := rs.two
  cases d <;> cases d' <;> simp only [itF] at e <;> try (cases e; done)
  cases e
  obtain ⟨q, ys, rfl, h1, h2⟩ := r.lst_inv
  obtain ⟨q', ys', rfl, h1', h2'⟩ := r'.lst_inv
  exact ⟨q, q', ys, ys', rfl, by rw [hK]; exact sub.sqL h1, by rw [hK]; exact sub.sqL h1', by rw [hK]; exact hw _ (walk_zip h1 h2 h1' h2')⟩
end
end Pv

/-! Pv9: comprehensions. -/
namespace Pv
open PySem PySem.Spec PyProof.Rows L2

section
variable {G : Gx} {W : WX} {cl : Str → List U → RC} {P : List Nat} {X : Cx}
abbrev WF : WX := fun _ _ _ _ => False
theorem Step.frame {F H F' H' : Hp} {os os' : List Addr} (qs : List Addr) (s : Step F H os F' H' os') : Step F H (qs ++ os) F' H' (qs ++ os') :=
  s.weak (fun a h => by simp [h]) fun a h => by
    rcases List.mem_append.mp h with h | h
    · exact .inr (by simp [h])
    · exact .inl h
theorem wipeE_length (ρ : Env) : ∀ vs : List Nat, (wipeE ρ vs).length = ρ.length
  | [] => rfl
  | v :: vs => by unfold wipeE; rw [List.length_set, wipeE_length ρ vs]
theorem wipe_env {F H : Hp} {ρ : Env} {σ : L2.St} {os : List Addr} (h : RepE G F H ρ σ os) (nd : os.Nodup) : ∀ {vs : List Nat}, (∀ v ∈ vs, v < ρ.length) → ∃ os', RepE G F H (wipeE ρ vs) (wipe σ vs) os' ∧ os'.Nodup ∧ ∀ a ∈ os', a ∈ os
  | [], _ => ⟨os, h, nd, fun a h => h⟩
  | v :: vs, hv => by
    obtain ⟨os1, h1, n1, s1⟩ := wipe_env h nd (vs := vs) fun x hx => hv x (by simp [hx])
    obtain ⟨os2, h2, n2, s2⟩ := h1.forget n1 (i := v)
    refine ⟨os2, ?_, n2, fun a ha => s1 a (s2 a ha)⟩
    unfold wipeE wipe
    exact h2.anyV (by rw [List.getElem?_set_self (by rw [wipeE_length]; exact hv v (by simp))])
/-- slots that hold nothing of the def's own are forgotten without loss -/
theorem RepE.forget0 {F H : Hp} {σ : L2.St} {ρ : Env} {os : List Addr} {i : Nat} (h : RepE G F H ρ σ os) (hf : match ρ[i]? with
    | some (some (.ul _)) => False
    | some (some (.ut _)) => False
    | _ => True) : RepE G F H (ρ.set i none) σ os := by
  cases e : ρ[i]? with
  | none => rw [List.set_eq_of_length_le (List.getElem?_eq_none_iff.mp e)]; exact h
  | some o =>
    cases o with
    | none =>
      have : ρ.set i none = ρ := by
        apply List.ext_getElem?
        intro j
        by_cases q : i = j
        · subst q; rw [List.getElem?_set_self (List.getElem?_eq_some_iff.mp e).1, e]
        · rw [List.getElem?_set_ne q]
      rw [this]; exact h
    | some w =>
      obtain ⟨v0, l, p, q, e1, rfl, r1, e2, _⟩ := h.split e
      cases w with
      | fz d =>
        simp only [RepU] at r1
        obtain ⟨rfl, _⟩ := r1
        simpa using e2
      | ul us => rw [e] at hf; exact hf.elim
      | ut us => rw [e] at hf; exact hf.elim
theorem wipeE_out {ρ : Env} {i : Nat} : ∀ {vs : List Nat}, i ∉ vs → (wipeE ρ vs)[i]? = ρ[i]?
  | [], _ => rfl
  | v :: vs, h => by
    simp only [List.mem_cons, not_or] at h
    unfold wipeE
    rw [List.getElem?_set_ne (Ne.symm h.1)]; exact wipeE_out h.2
theorem wipeE_in {ρ : Env} {i : Nat} (hi : i < ρ.length) : ∀ {vs : List Nat}, i ∈ vs → (wipeE ρ vs)[i]? = some none
  | [], h => by simp at h
  | v :: vs, h => by
    unfold wipeE
    by_cases e : v = i
    · subst e; rw [List.getElem?_set_self (by rw [wipeE_length]; exact hi)]
    · rw [List.getElem?_set_ne e]
      rcases List.mem_cons.mp h with h | h
      · exact absurd h.symm e
      · exact wipeE_in hi h
theorem wipe_hid {F H : Hp} {ρ : Env} {σ : L2.St} {os : List Addr} (h : RepE G F H ρ σ os) : ∀ {vs : List Nat}, hidOk ρ vs = true → RepE G F H (wipeE ρ vs) (wipe σ vs) os
  | [], _ => h
  | v :: vs, hv => by
    simp only [hidOk, List.all_cons, Bool.and_eq_true, decide_eq_true_eq] at hv
    have h1 := wipe_hid h (vs := vs) hv.2
    unfold wipeE wipe
    refine RepE.anyV (h1.forget0 ?_) (by rw [List.getElem?_set_self (by rw [wipeE_length]; exact hv.1.1)])
    by_cases hm : v ∈ vs
    · rw [wipeE_in hv.1.1 hm]; trivial
    · rw [wipeE_out hm]
      have := hv.1.2
      split at this <;> simp_all
/-- the own names' outer values come back -/
theorem back_env {F1 H1 F H : Hp} {ρ1 : Env} {σ : L2.St} {os1 : List Addr} (h1 : RepE G F1 H1 ρ1 σ os1) (sf : Sub F1 F) : ∀ {vs : List Nat} {ρ : Env} {os : List Addr}, hidOk ρ1 vs = true → ρ.length = ρ1.length → (∀ v ∈ vs, ρ[v]? = some none) → RepE G F H ρ (wipe σ vs) os →
    RepE G F H (backE ρ1 ρ vs) σ os
  | [], ρ, os, _, _, _, h => h
  | v :: vs, ρ, os, hv, hl, hn, h => by
    have hv' := hv
    simp only [hidOk, List.all_cons, Bool.and_eq_true, decide_eq_true_eq] at hv
    -- the value of slot v first
    have hlt : v < ρ.length := by rw [hl]; exact hv.1.1
    have h2 : RepE G F H ρ (wipe σ vs) os := by
      have e : wipe σ vs = (wipe σ (v :: vs)).set v ((wipe σ vs)[v]?.join) := by
        rw [show wipe σ (v :: vs) = (wipe σ vs).set v none from rfl, List.set_set]
        have hl2 : v < (wipe σ vs).length := by rw [wipe_length, h1.length]; exact hv.1.1
        rw [List.getElem?_eq_getElem hl2]
        simp
      rw [e]
      exact h.anyV (hn v (by simp))
    have ih := back_env h1 sf (vs := vs) hv.2 hl (fun x hx => hn x (by simp [hx])) h2
    unfold backE
    have hlb : ∀ (vs : List Nat), (backE ρ1 ρ vs).length = ρ.length := by
      intro vs
      induction vs with
      | nil => rfl
      | cons a l ih => unfold backE; rw [List.length_set, ih]
    by_cases hm : v ∈ vs
    · -- set already: the same again
      have same : ∀ {vs : List Nat}, v ∈ vs → (backE ρ1 ρ vs)[v]? = some ((ρ1[v]?).join) := by
        intro vs
        induction vs with
        | nil => intro h; simp at h
        | cons a l ih2 =>
          intro h
          unfold backE
          by_cases e : a = v
          · subst e; rw [List.getElem?_set_self (by rw [hlb]; exact hlt)]
          · rw [List.getElem?_set_ne e]
            rcases List.mem_cons.mp h with h | h
            · exact absurd h.symm e
            · exact ih2 h
      have : (backE ρ1 ρ vs).set v ((ρ1[v]?).join) = backE ρ1 ρ vs := by
        apply List.ext_getElem?
        intro j
        by_cases q : v = j
        · subst q; rw [List.getElem?_set_self (by rw [hlb]; exact hlt), same hm]
        · rw [List.getElem?_set_ne q]
      rw [this]; exact ih
    · have out : ∀ {vs : List Nat}, v ∉ vs → (backE ρ1 ρ vs)[v]? = ρ[v]? := by
        intro vs
        induction vs with
        | nil => intro _; rfl
        | cons a l ih2 =>
          intro h
          simp only [List.mem_cons, not_or] at h
          unfold backE
          rw [List.getElem?_set_ne (Ne.symm h.1)]; exact ih2 h.2
      have e0 : (backE ρ1 ρ vs)[v]? = some none := by rw [out hm]; exact hn v (by simp)
      cases q : ρ1[v]? with
      | none => rw [List.getElem?_eq_none_iff] at q; omega
      | some o =>
        cases o with
        | none =>
          have : (backE ρ1 ρ vs).set v (some (none : Option U)).join = backE ρ1 ρ vs := by
            apply List.ext_getElem?
            intro j
            by_cases q : v = j
            · subst q; rw [List.getElem?_set_self (by rw [hlb]; exact hlt), e0]; rfl
            · rw [List.getElem?_set_ne q]
          rw [this]; exact ih
        | some w =>
          have h3 := hv.1.2
          rw [q] at h3
          cases w with
          | ul us => simp at h3
          | ut us => simp at h3
          | fz d =>
            obtain ⟨x, l, p, r, e1, _, r1, _⟩ := h1.split q
            simp only [RepU] at r1
            obtain ⟨l2, r2, e2, f⟩ := ih.fill (u := .fz d) (v := x) (p := []) e0 (by simp only [RepU, true_and]; exact r1.2.mono sf)
            rw [e2]
            rw [set_self e1] at f
            simpa using f
theorem wipe_out' {σ : L2.St} {i : Nat} : ∀ {vs : List Nat}, i ∉ vs → (wipe σ vs)[i]? = σ[i]?
  | [], _ => rfl
  | v :: vs, h => by
    simp only [List.mem_cons, not_or] at h
    unfold wipe
    rw [List.getElem?_set_ne (Ne.symm h.1)]; exact wipe_out' h.2
theorem wipe_in' {σ : L2.St} {i : Nat} (hi : i < σ.length) : ∀ {vs : List Nat}, i ∈ vs → (wipe σ vs)[i]? = some none
  | [], h => by simp at h
  | v :: vs, h => by
    unfold wipe
    by_cases e : v = i
    · subst e; rw [List.getElem?_set_self (by rw [wipe_length]; exact hi)]
    · rw [List.getElem?_set_ne e]
      rcases List.mem_cons.mp h with h | h
      · exact absurd h.symm e
      · exact wipe_in' hi h
theorem wipe_same {σ σ2 : L2.St} {vs : List Nat} (hl : σ2.length = (wipe σ vs).length) (h : ∀ j, j ∉ vs → σ2[j]? = (wipe σ vs)[j]?) : wipe σ2 vs = wipe σ vs := by
  apply List.ext_getElem?
  intro j
  by_cases hj : j ∈ vs
  · by_cases hb : j < σ.length
    · rw [wipe_in' (by rw [hl, wipe_length]; exact hb) hj, wipe_in' hb hj]
    · rw [List.getElem?_eq_none_iff.mpr, List.getElem?_eq_none_iff.mpr]
      · rw [wipe_length]; omega
      · rw [wipe_length, hl, wipe_length]; omega
  · rw [wipe_out' hj, h j hj]
def TTs (G : Gx) (cl : Str → List U → RC) (P : List Nat) : Es → TT
  | .nil => tYes
  | .cons c _ => TTr G WF cl P c
/-- the comprehension's end -/
def FinC (G : Gx) (σ : L2.St) (vs : List Nat) (L : Addr) (F1 H1 : Hp) (os1 : List Addr) (Q : VK) (r : R (List U)) : Prop := match r with
  | .ok acc ρ => ∀ F H os av ps, Inv2 G F H ρ (wipe σ vs) os → (∀ v ∈ vs, ρ[v]? = some none) → H L = some (.lst av) → F L = none → RepUs G F H acc av ps → ((L :: ps) ++ os).Nodup → Step F1 H1 os1 F H ((L :: ps) ++ os) → Q (.ref L) H
  | _ => False
def InvC (G : Gx) (cl : Str → List U → RC) (P : List Nat) (tg : Tg) (elt : E) (cond : Es) (σ : L2.St) (vs : List Nat) (L : Addr) (F1 H1 : Hp) (os1 : List Addr) (Q : VK) (ds : List D) (H : Hp) : Prop :=
  ∃ F ρ os acc av ps, Inv2 G F H ρ (wipe σ vs) os ∧ (∀ v ∈ vs, ρ[v]? = some none) ∧ H L = some (.lst av) ∧ F L = none ∧ RepUs G F H acc av ps ∧ ((L :: ps) ++ os).Nodup ∧ Step F1 H1 os1 F H ((L :: ps) ++ os) ∧
    FinC G σ vs L F1 H1 os1 Q (evComp P tg vs (fun ρ => evEs cl P cond ρ) (fun ρ => evE cl P elt ρ) ds ρ acc)
theorem Step.perm {F H F' H' : Hp} {os os' qs' : List Addr} (s : Step F H os F' H' os') (h : ∀ a ∈ qs', a ∈ os') : Step F H os F' H' qs' := s.weak (fun a h => h) fun a ha => .inl (h a ha)
/-- a turn that keeps its item -/
theorem comp_keep {tg : Tg} {elt : E} {cond : Es} {σ σ3 : L2.St} {vs : List Nat} {L : Addr} {F1 H1 : Hp} {os1 : List Addr} {Q : VK} {ds : List D} {F H : Hp} {ρ : Env} {os ps : List Addr} {acc : List U} {av : List V}
    (I : Inv2 G F H ρ σ3 os) (hw : wipe σ3 vs = wipe σ vs) (hvs : ∀ v ∈ vs, v < ρ.length) (hL : H L = some (.lst av)) (fL : F L = none) (ra : RepUs G F H acc av ps) (nd : ((L :: ps) ++ os).Nodup) (st : Step F1 H1 os1 F H ((L :: ps) ++ os))
    (fin : FinC G σ vs L F1 H1 os1 Q (match evE cl P elt ρ with
      | .ok u ρ3 => if acc.length < LIM then evComp P tg vs (fun ρ => evEs cl P cond ρ) (fun ρ => evE cl P elt ρ) ds (wipeE ρ3 vs) (acc ++ [u]) else .bad
      | _ => .bad)) (hlen : ∀ u ρ3, evE cl P elt ρ = .ok u ρ3 → ∀ v ∈ vs, v < ρ3.length) :
    TEr G WF cl P elt σ3 H fun y H4 => ∃ acc, H4 L = some (.lst acc) ∧ acc.length < sizeLine ∧ InvC G cl P tg elt cond σ vs L F1 H1 os1 Q ds (upd H4 L (.lst (acc ++ [y]))) := by
  refine ⟨F, ρ, os, I, ?_⟩
  cases e : evE cl P elt ρ with
  | bad => rw [e] at fin; exact fin.elim
  | ex c v ρ1 => rw [e] at fin; exact fin.elim
  | ok u ρ3 =>
    rw [e] at fin
    intro F5 H5 os5 y ps5 i5 r5 nd5 st5 lk
    simp only at fin
    by_cases hz : acc.length < LIM
    · rw [if_pos hz] at fin
      have hLo : L ∉ os := fun h => (disj_of nd) L (by simp) h
      have hL5 : H5 L = some (.lst av) := st5.h L _ hL hLo
      have fL5 : F5 L = none := by
        cases q : F5 L with
        | none => rfl
        | some w =>
          exfalso
          rcases st5.n L (by rw [q]; simp) with z | z | z
          · exact z fL
          · exact hLo z
          · rw [hL] at z; cases z
      have ra5 : RepUs G F5 H5 acc av ps := st5.keepUs ra fun p hp => disj_of nd p (by simp [hp])
      -- all that is owned now
      have own : Owns F H (L :: ps) := fun p hp => by
        rcases List.mem_cons.mp hp with rfl | hp
        · exact ⟨⟨av, hL⟩, fL⟩
        · exact ra.owns p hp
      have nall : ((L :: ps) ++ (ps5 ++ os5)).Nodup := nodup_step nd own st5 nd5
      obtain ⟨os6, e6, n6, s6⟩ := wipe_env i5.env i5.nd (vs := vs) (hlen u ρ3 e)
      rw [hw] at e6
      refine ⟨av, hL5, by rw [ra.length]; exact lim_lt hz, F5, wipeE ρ3 vs, os6, acc ++ [u], av ++ [y], ps ++ ps5, ⟨fun a o q => ?_, ?_, n6⟩, fun v hv => wipeE_in (hlen u ρ3 e v hv) hv, upd_same, fL5, ?_, ?_, ?_, fin⟩
      · by_cases ha : a = L
        · rw [ha, fL5] at q; cases q
        · rw [upd_ne ha]; exact i5.sub a o q
      · refine e6.mono (Sub.refl F5) fun a ha => ⟨(e6.owns a ha).2, fun o q => ?_⟩
        rw [upd_ne (fun z => ?_)]; exact q
        rw [z] at ha
        exact disj_of nall L (by simp) (by simp [s6 L ha])
      · refine (ra5.append (RepUs.single r5)).mono (Sub.refl F5) fun a ha => ?_
        have hne : a ≠ L := fun z => by
          rw [z] at ha
          rcases List.mem_append.mp ha with h | h
          · exact (List.nodup_cons.mp (List.nodup_append.mp nall).1).1 h
          · exact disj_of nall L (by simp) (by simp [h])
        refine ⟨?_, fun o q => by rw [upd_ne hne]; exact q⟩
        rcases List.mem_append.mp ha with h | h
        · exact (ra5.owns a h).2
        · exact (r5.owns a h).2
      · have h1 : ((L :: ps) ++ (ps5 ++ os6)).Nodup := by
          rw [List.nodup_append] at nall ⊢
          refine ⟨nall.1, ?_, fun a ha b hb => nall.2.2 a ha b ?_⟩
          · have h2 := List.nodup_append.mp nall.2.1
            rw [List.nodup_append]
            exact ⟨h2.1, n6, fun a ha b hb => h2.2.2 a ha b (s6 b hb)⟩
          · rcases List.mem_append.mp hb with h | h
            · simp [h]
            · simp [s6 b h]
        simpa [List.append_assoc] using h1
      · have s7 : Step F1 H1 os1 F5 H5 ((L :: ps) ++ (ps5 ++ os5)) := st.trans (st5.frame (L :: ps))
        have s8 : Step F5 H5 ((L :: ps) ++ (ps5 ++ os5)) F5 (upd H5 L (.lst (av ++ [y]))) ((L :: (ps ++ ps5)) ++ os6) := step_write hL5 (by simp) fun a ha => by
          simp only [List.cons_append, List.mem_cons, List.mem_append] at ha ⊢
          rcases ha with h | ⟨h | h⟩ | h
          · simp [h]
          · simp [h]
          · simp [h]
          · simp [s6 a h]
        exact s7.trans s8
    · rw [if_neg hz] at fin; exact fin.elim
theorem se_comp_key {own : List (Str × Nat)} {tg : Tg} {k : ItK} {src : Es} {elt : E} {cond : Es} {σ : L2.St} {H : Hp} {Q : VK} (hlen : ∀ (e : E) ρ u ρ', evE cl P e ρ = .ok u ρ' → ρ'.length = ρ.length)
    (hlens : ∀ (e : Es) ρ u ρ', evEs cl P e ρ = .ok u ρ' → ρ'.length = ρ.length) (hc : cond.len ≤ 1) (h : TEr G W cl P (.comp own tg k src elt cond) σ H Q) :
    tLc (TIr G W cl P k src) (TGr G P tg) (TTs G cl P cond) (TEr G WF cl P elt) (own.map (·.2)) σ H Q := by
  obtain ⟨F, ρ, os, I, h⟩ := h
  refine ⟨F, ρ, os, I, ?_⟩
  simp only [evE] at h
  cases e : evEs cl P src ρ with
  | bad => rw [e] at h; exact h
  | ex c v ρ1 => rw [e] at h; exact h
  | ok us ρ1 =>
    rw [e] at h
    simp only at h ⊢
    generalize hvs : own.map (·.2) = vs at h ⊢
    by_cases hh : (hidOk ρ1 vs && tg.slots.all fun i => vs.contains i) = true
    · rw [if_pos hh] at h
      rw [Bool.and_eq_true] at hh
      cases e2 : itF k (Us.d us) with
      | none => rw [e2] at h; exact h.elim
      | some ds =>
        rw [e2] at h
        simp only at h ⊢
        intro F1 H1 os1 J i1 st1 wk L hL
        have hsl : ∀ j ∈ tg.slots, j ∈ vs := fun j hj => by
          have := List.all_eq_true.mp hh.2 j hj
          simpa using this
        have hvl : ∀ v ∈ vs, v < ρ1.length := fun v hv => by
          have := List.all_eq_true.mp hh.1 v hv
          simp only [Bool.and_eq_true, decide_eq_true_eq] at this
          exact this.1
        have fL1 : F1 L = none := i1.sub.none hL
        refine ⟨fun i m H => m = ds.length - i ∧ i ≤ ds.length ∧ InvC G cl P tg elt cond σ vs L F1 H1 os1 Q (ds.drop i) H, ⟨ds.length, by simp, Nat.zero_le _, ?_⟩, ?_⟩
        · -- the start
          have hLo : L ∉ os1 := fun hm => by
            obtain ⟨⟨ws, e⟩, _⟩ := i1.env.owns L hm
            rw [hL] at e; cases e
          refine ⟨F1, wipeE ρ1 vs, os1, [], [], [], ⟨i1.sub.trans (Sub.upd hL), ?_, i1.nd⟩, fun v hv => wipeE_in (hvl v hv) hv, upd_same, fL1, by simp [RepUs], by simpa using ⟨hLo, i1.nd⟩, by simpa using Step.newO hL, ?_⟩
          · exact (wipe_hid i1.env hh.1).mono (Sub.refl F1) fun a ha => ⟨(i1.env.owns a ha).2, fun o q => by rw [upd_ne (ne_of_none q hL)]; exact q⟩
          · simp only [List.drop_zero]
            cases e3 : evComp P tg vs (fun ρ => evEs cl P cond ρ) (fun ρ => evE cl P elt ρ) ds (wipeE ρ1 vs) [] with
            | bad => rw [e3] at h; exact h.elim
            | ex c v ρ2 => rw [e3] at h; exact h.elim
            | ok acc ρ2 =>
              rw [e3] at h
              intro F2 H2 os2 av ps i2 hn hL2 fL2 ra nd st2
              have lenC : ∀ (ds : List D) (ρ : Env) (acc acc' : List U) (ρ' : Env), evComp P tg vs (fun ρ => evEs cl P cond ρ) (fun ρ => evE cl P elt ρ) ds ρ acc = .ok acc' ρ' → True := fun _ _ _ _ _ _ => trivial
              have l2 : ρ2.length = ρ1.length := by
                have a1 := i2.env.length
                have a2 := i1.env.length
                rw [wipe_length] at a1
                omega
              have eb := back_env (F := F2) (H := H2) i1.env (Sub.trans (st2.f) (Sub.refl _)) hh.1 l2 hn i2.env
              refine h F2 H2 os2 (.ref L) (L :: ps) ⟨i2.sub, eb, i2.nd⟩ ?_ nd (st1.trans st2) (by simp [Lk])
              simp only [RepU]
              exact ⟨L, av, ps, rfl, rfl, hL2, fL2, ra⟩
        · rintro i m H ⟨rfl, hi, F2, ρ2, os2, acc, av, ps, i2, hn, hL2, fL2, ra, nd, st2, fin⟩
          by_cases hlt : i < ds.length
          · refine .inr ⟨wk.go i H (st2.f.trans i2.sub) hlt, fun H' => i + 1 ≤ ds.length ∧ InvC G cl P tg elt cond σ vs L F1 H1 os1 Q (ds.drop (i + 1)) H', fun H' ⟨h1, h2⟩ => ⟨ds.length - (i + 1), by omega, rfl, h1, h2⟩, fun x H' y => ?_⟩
            have ed : ds.drop i = ds[i] :: ds.drop (i + 1) := List.drop_eq_getElem_cons hlt
            rw [ed] at fin
            obtain ⟨F3, rx, s3, st3⟩ := wk.yld i H x H' F2 ds[i] st2.f i2.sub y (List.getElem?_eq_getElem hlt)
            have i3 : Inv2 G F3 H' ρ2 (wipe σ vs) os2 := i2.step st3 s3 fun _ _ h => by simp at h
            have hL3 : H' L = some (.lst av) := st3.h L _ hL2 (by simp)
            have fL3 : F3 L = none := by
              cases q : F3 L with
              | none => rfl
              | some w =>
                exfalso
                rcases st3.n L (by rw [q]; simp) with z | z | z
                · exact z fL2
                · simp at z
                · rw [hL2] at z; cases z
            have ra3 : RepUs G F3 H' acc av ps := st3.keepUs ra fun p hp => by simp
            have st3' : Step F1 H1 os1 F3 H' ((L :: ps) ++ os2) := by
              refine st2.trans (st3.weak (fun a h => by simp at h) fun a ha => .inr ha)
            refine ⟨F3, ρ2, os2, .fz ds[i], [], i3, by simp only [RepU, true_and]; exact rx, by simpa using i3.nd, ?_⟩
            simp only [evComp] at fin
            cases e4 : setTg P tg (.fz ds[i]) ρ2 with
            | none => rw [e4] at fin; exact fin.elim
            | some ρt =>
              rw [e4] at fin
              intro F4 os4 σ4 i4 st4 kp4 off4 len4
              simp only at fin
              have hw : wipe σ4 vs = wipe σ vs := wipe_same len4 fun j hj => off4 j fun z => hj (hsl j z)
              refine ⟨hw, ?_⟩
              have nLos : ∀ p ∈ L :: ps, p ∉ os2 := disj_of nd
              have st4' : Step F3 H' os2 F4 H' os4 := by simpa using st4
              have own3 : Owns F3 H' (L :: ps) := fun p hp => by
                rcases List.mem_cons.mp hp with rfl | hp
                · exact ⟨⟨av, hL3⟩, fL3⟩
                · exact ra3.owns p hp
              have nd4 : ((L :: ps) ++ os4).Nodup := nodup_step nd own3 st4' i4.nd
              have fL4 : F4 L = none := by
                cases q : F4 L with
                | none => rfl
                | some w =>
                  exfalso
                  rcases st4'.n L (by rw [q]; simp) with z | z | z
                  · exact z fL3
                  · exact nLos L (by simp) z
                  · rw [hL3] at z; cases z
              have ra4 : RepUs G F4 H' acc av ps := st4'.keepUs ra3 fun p hp => nLos p (by simp [hp])
              have st4'' : Step F1 H1 os1 F4 H' ((L :: ps) ++ os4) := st3'.trans (st4'.frame (L :: ps))
              have lt4 : ∀ v ∈ vs, v < ρt.length := fun v hv => by
                have a1 := i4.env.length
                have a2 := i1.env.length
                rw [len4, wipe_length] at a1
                have := hvl v hv
                omega
              -- the test
              match cond, hc with
              | .nil, _ =>
                have hc0 : evEs cl P .nil ρt = .ok [] ρt := by simp only [evEs]
                rw [hc0] at fin
                simp only [Us.d] at fin
                have kk := (comp_keep i4 hw lt4 hL3 fL4 ra4 nd4 st4'' fin fun u ρ3 e v hv => by rw [hlen _ _ _ _ e]; exact lt4 v hv).mono (Q' := fun y H4 => ∃ acc, H4 L = some (.lst acc) ∧ acc.length < sizeLine ∧ (i + 1 ≤ ds.length ∧ InvC G cl P tg elt .nil σ vs L F1 H1 os1 Q (ds.drop (i + 1)) (upd H4 L (.lst (acc ++ [y]))))) fun y H5 ⟨ac, q1, q2, q3⟩ => ⟨ac, q1, q2, by omega, q3⟩
                simp only [TTs, tYes, if_true]
                exact kk
              | .cons c .nil, _ =>
                simp only [evEs] at fin
                refine ⟨F4, ρt, os4, i4, ?_⟩
                cases e5 : evE cl P c ρt with
                | bad => rw [e5] at fin; exact fin.elim
                | ex cc v ρ5 => rw [e5] at fin; exact fin.elim
                | ok uc ρ5 =>
                  rw [e5] at fin
                  intro F5 H5 os5 xc pc i5 r5 nd5 st5 lk5
                  simp only [Us.d] at fin
                  have hL5 : H5 L = some (.lst av) := st5.h L _ hL3 (disj_of nd4 L (by simp))
                  have own4 : Owns F4 H' (L :: ps) := fun p hp => by
                    rcases List.mem_cons.mp hp with rfl | hp
                    · exact ⟨⟨av, hL3⟩, fL4⟩
                    · exact ra4.owns p hp
                  have fL5 : F5 L = none := by
                    cases q : F5 L with
                    | none => rfl
                    | some w =>
                      exfalso
                      rcases st5.n L (by rw [q]; simp) with z | z | z
                      · exact z fL4
                      · exact disj_of nd4 L (by simp) z
                      · rw [hL3] at z; cases z
                  have ra5 : RepUs G F5 H5 acc av ps := st5.keepUs ra4 fun p hp => disj_of nd4 p (by simp [hp])
                  have lt5 : ∀ v ∈ vs, v < ρ5.length := fun v hv => by rw [hlen _ _ _ _ e5]; exact lt4 v hv
                  cases uc with
                  | ul _ => simp only [U.d] at fin; exact fin.elim
                  | ut _ => simp only [U.d] at fin; exact fin.elim
                  | fz dc =>
                    cases dc with
                    | bl b =>
                      simp only [RepU, Rep] at r5
                      obtain ⟨rfl, rfl⟩ := r5
                      have st5' : Step F4 H' os4 F5 H5 os5 := by simpa using st5
                      have nd5' : ((L :: ps) ++ os5).Nodup := nodup_step nd4 own4 st5' i5.nd
                      have st5'' : Step F1 H1 os1 F5 H5 ((L :: ps) ++ os5) := st4''.trans (st5'.frame (L :: ps))
                      refine ⟨b, rfl, ?_⟩
                      simp only [U.d] at fin
                      cases b with
                      | true =>
                        exact iteT ((comp_keep i5 hw lt5 hL5 fL5 ra5 nd5' st5'' fin fun u ρ3 e v hv => by rw [hlen _ _ _ _ e]; exact lt5 v hv).mono fun y H6 ⟨ac, q1, q2, q3⟩ => ⟨ac, q1, q2, by omega, q3⟩)
                      | false =>
                        obtain ⟨os6, e6, n6, s6⟩ := wipe_env i5.env i5.nd (vs := vs) lt5
                        rw [hw] at e6
                        refine iteF ⟨by omega, F5, wipeE ρ5 vs, os6, acc, av, ps, ⟨i5.sub, e6, n6⟩, fun v hv => wipeE_in (lt5 v hv) hv, hL5, fL5, ra5, ?_, st5''.perm fun a ha => ?_, fin⟩
                        · rw [List.nodup_append] at nd5' ⊢
                          exact ⟨nd5'.1, n6, fun a ha b hb => nd5'.2.2 a ha b (s6 b hb)⟩
                        · rcases List.mem_append.mp ha with h | h
                          · simp only [List.mem_append]; exact .inl h
                          · simp only [List.mem_append]; exact .inr (s6 a h)
                    | _ => simp only [U.d] at fin; exact fin.elim
          · have ei : i = ds.length := by omega
            subst ei
            refine .inl ⟨wk.stop _ H (st2.f.trans i2.sub) (Nat.le_refl _), ?_⟩
            rw [List.drop_length] at fin
            simp only [evComp] at fin
            exact fin F2 H os2 av ps i2 hn hL2 fL2 ra nd st2
    · rw [if_neg hh] at h; exact h.elim
end
end Pv

/-! Pv10: an env keeps its length; comprehensions as expressions. -/
namespace Pv
open PySem PySem.Spec PyProof.Rows L2

section
variable {G : Gx} {W : WX} {cl : Str → List U → RC} {P : List Nat} {X : Cx}
theorem setTg_len {tg : Tg} {u : U} {ρ ρ' : Env} (h : setTg P tg u ρ = some ρ') : ρ'.length = ρ.length := by
  cases tg with
  | name i =>
    simp only [setTg] at h
    split at h
    · cases h
    · split at h
      · cases h; simp
      · cases h
  | tup is =>
    simp only [setTg] at h
    have fl : ∀ (l : List (Nat × U)) (ρ : Env), (l.foldl (fun ρ p => ρ.set p.1 (some p.2)) ρ).length = ρ.length := by
      intro l
      induction l with
      | nil => intro ρ; rfl
      | cons a l ih => intro ρ; rw [List.foldl_cons, ih, List.length_set]
    split at h
    · split at h
      · cases h; exact fl _ _
      · cases h
    · cases h
theorem putB_len : ∀ {es : Es} {us : List (Option U)} {ρ ρ' : Env}, putB es us ρ = some ρ' → ρ'.length = ρ.length := by
  intro es
  induction es using Es.rec (motive_1 := fun _ => True) with
  | nil => intro us ρ ρ' h; simp only [putB] at h; cases h; rfl
  | cons e es _ ih =>
    intro us ρ ρ' h
    cases us with
    | nil => cases e <;> simp [putB] at h
    | cons o us =>
      cases e with
      | mv i =>
        cases o with
        | none => simp only [putB] at h; exact ih h
        | some u =>
          simp only [putB] at h
          split at h
          · have := ih h
            rw [List.length_set] at this
            exact this
          · cases h
      | _ => simp only [putB] at h; exact ih h
  | _ => trivial
theorem backE_length (ρ0 ρ : Env) : ∀ vs : List Nat, (backE ρ0 ρ vs).length = ρ.length
  | [] => rfl
  | v :: vs => by unfold backE; rw [List.length_set, backE_length ρ0 ρ vs]
theorem frzE_length (ρ : Env) : (frzE ρ).length = ρ.length := by unfold frzE; simp
theorem evComp_len {tg : Tg} {own : List Nat} {c : Env → R (List U)} {e : Env → R U} (hc : ∀ ρ us ρ', c ρ = .ok us ρ' → ρ'.length = ρ.length) (he : ∀ ρ u ρ', e ρ = .ok u ρ' → ρ'.length = ρ.length) :
    ∀ {ds : List D} {ρ : Env} {acc acc' : List U} {ρ' : Env}, evComp P tg own c e ds ρ acc = .ok acc' ρ' → ρ'.length = ρ.length := by
  intro ds
  induction ds with
  | nil => intro ρ acc acc' ρ' h; simp only [evComp] at h; cases h; rfl
  | cons d ds ih =>
    intro ρ acc acc' ρ' h
    simp only [evComp] at h
    cases e1 : setTg P tg (.fz d) ρ with
    | none => rw [e1] at h; cases h
    | some ρ1 =>
      rw [e1] at h
      have l1 := setTg_len e1
      simp only at h
      cases e2 : c ρ1 with
      | bad => rw [e2] at h; cases h
      | ex => rw [e2] at h; cases h
      | ok cs ρ2 =>
        rw [e2] at h
        have l2 := hc _ _ _ e2
        simp only at h
        have go : (match e ρ2 with
          | .ok u ρ3 => if acc.length < LIM then evComp P tg own c e ds (wipeE ρ3 own) (acc ++ [u]) else .bad
          | _ => .bad) = R.ok acc' ρ' → ρ'.length = ρ.length := fun h => by
          cases e3 : e ρ2 with
          | bad => rw [e3] at h; cases h
          | ex => rw [e3] at h; cases h
          | ok u ρ3 =>
            rw [e3] at h
            simp only at h
            split at h
            · have := ih h
              rw [wipeE_length] at this
              have l3 := he _ _ _ e3
              omega
            · cases h
        split at h
        · exact go h
        · exact go h
        · have := ih h
          rw [wipeE_length] at this
          omega
        · cases h
mutual
theorem evE_length : ∀ (e : E) (ρ : Env) (u : U) (ρ' : Env), evE cl P e ρ = .ok u ρ' → ρ'.length = ρ.length
  | .var i, ρ, u, ρ', h => by simp only [evE] at h; (repeat' split at h) <;> first | (cases h; done) | (cases h; grind) | grind
  | .mv i, ρ, u, ρ', h => by simp only [evE] at h; (repeat' split at h) <;> first | (cases h; done) | (cases h; grind) | grind
  | .cst d, ρ, u, ρ', h => by simp only [evE] at h; (repeat' split at h) <;> first | (cases h; done) | (cases h; grind) | grind
  | .glob x d, ρ, u, ρ', h => by simp only [evE] at h; (repeat' split at h) <;> first | (cases h; done) | (cases h; grind) | grind
  | .op o es, ρ, u, ρ', h => by have i1 := evEs_length es; simp only [evE] at h; (repeat' split at h) <;> first | (cases h; done) | (cases h; grind) | grind
  | .tup es, ρ, u, ρ', h => by have i1 := evEs_length es; simp only [evE] at h; (repeat' split at h) <;> first | (cases h; done) | (cases h; grind) | grind
  | .lst es, ρ, u, ρ', h => by have i1 := evEs_length es; simp only [evE] at h; (repeat' split at h) <;> first | (cases h; done) | (cases h; grind) | grind
  | .call f es perm, ρ, u, ρ', h => by
    have i1 := evEs_length es
    have i2 := @putB_len es
    simp only [evE] at h
    (repeat' split at h) <;> first | (cases h; done) | (cases h; grind) | grind
  | .callL f i es, ρ, u, ρ', h => by
    have i1 := evEs_length es
    have i2 := @putB_len (.cons (.mv i) es)
    simp only [evE] at h
    (repeat' split at h) <;> first | (cases h; done) | (cases h; grind) | grind
  | .and_ a b, ρ, u, ρ', h => by have i1 := evE_length a; have i2 := evE_length b; simp only [evE] at h; (repeat' split at h) <;> first | (cases h; done) | (cases h; grind) | grind
  | .or_ a b, ρ, u, ρ', h => by have i1 := evE_length a; have i2 := evE_length b; simp only [evE] at h; (repeat' split at h) <;> first | (cases h; done) | (cases h; grind) | grind
  | .not_ a, ρ, u, ρ', h => by have i1 := evE_length a; simp only [evE] at h; (repeat' split at h) <;> first | (cases h; done) | (cases h; grind) | grind
  | .ite c a b, ρ, u, ρ', h => by have i1 := evE_length a; have i2 := evE_length b; have i3 := evE_length c; simp only [evE] at h; (repeat' split at h) <;> first | (cases h; done) | (cases h; grind) | grind
  | .meth o T a es, ρ, u, ρ', h => by have i1 := evE_length a; have i2 := evEs_length es; simp only [evE] at h; (repeat' split at h) <;> first | (cases h; done) | (cases h; grind) | grind
  | .sl a lo hi, ρ, u, ρ', h => by have i1 := evE_length a; have i2 := evEs_length lo; have i3 := evEs_length hi; simp only [evE] at h; (repeat' split at h) <;> first | (cases h; done) | (cases h; grind) | grind
  | .chain o o' a b c, ρ, u, ρ', h => by have i1 := evE_length a; have i2 := evE_length b; have i3 := evE_length c; simp only [evE] at h; (repeat' split at h) <;> first | (cases h; done) | (cases h; grind) | grind
  | .comp own tg k src elt cond, ρ, u, ρ', h => by
    have i1 := evEs_length src; have i2 := evE_length elt; have i3 := evEs_length cond
    simp only [evE] at h
    cases e1 : evEs cl P src ρ with
    | bad => rw [e1] at h; cases h
    | ex => rw [e1] at h; cases h
    | ok us ρ1 =>
      rw [e1] at h
      simp only at h
      split at h
      · split at h
        · split at h
          · rename_i e2
            cases h
            have l1 := i1 _ _ _ e1
            have l2 := evComp_len (fun ρ us ρ' q => i3 _ _ _ q) (fun ρ us ρ' q => i2 _ _ _ q) e2
            rw [wipeE_length] at l2
            rw [backE_length]
            omega
          · cases h
        · cases h
      · cases h
  | .brw e, ρ, u, ρ', h => by simp only [evE] at h; (repeat' split at h) <;> first | (cases h; done) | (cases h; grind) | grind
  | .app i e, ρ, u, ρ', h => by have i1 := evE_length e; simp only [evE] at h; (repeat' split at h) <;> first | (cases h; done) | (cases h; grind) | grind
  | .appP i path e, ρ, u, ρ', h => by
    have i1 := evE_length e
    simp only [evE] at h
    split at h
    · split at h
      · rename_i e1
        have := i1 _ _ _ e1
        rw [List.length_set] at this
        split at h
        · cases h; rw [List.length_set]; exact this
        · cases h
      · cases h
      · cases h
    · cases h
  | .pop i, ρ, u, ρ', h => by simp only [evE] at h; (repeat' split at h) <;> first | (cases h; done) | (cases h; grind) | grind
  | .popAt i e, ρ, u, ρ', h => by have i1 := evE_length e; simp only [evE] at h; (repeat' split at h) <;> first | (cases h; done) | (cases h; grind) | grind
  | .rem i e, ρ, u, ρ', h => by have i1 := evE_length e; simp only [evE] at h; (repeat' split at h) <;> first | (cases h; done) | (cases h; grind) | grind
  | .pix i e, ρ, u, ρ', h => by have i1 := evE_length e; simp only [evE] at h; (repeat' split at h) <;> first | (cases h; done) | (cases h; grind) | grind
  | .bad, ρ, u, ρ', h => by simp only [evE] at h; cases h
theorem evEs_length : ∀ (es : Es) (ρ : Env) (u : List U) (ρ' : Env), evEs cl P es ρ = .ok u ρ' → ρ'.length = ρ.length
  | .nil, ρ, u, ρ', h => by simp only [evEs] at h; cases h; rfl
  | .cons e es, ρ, u, ρ', h => by have i1 := evE_length e; have i2 := evEs_length es; simp only [evEs] at h; (repeat' split at h) <;> first | (cases h; done) | (cases h; grind) | grind
end

/-! ### as an expression -/
/-- the conditions of a clause -/
def condOk (cl : Str → List U → RC) (P : List Nat) (G : Gx) (X : Cx) : Es → List Expr → Prop
  | .nil, [] => True
  | .cons c .nil, [ec] => SE G WF cl P X c ec
  | _, _ => False
theorem cond_len {cond : Es} {ifs : List Expr} (h : condOk cl P G X cond ifs) : cond.len ≤ 1 := by
  match cond, ifs, h with
  | .nil, [], _ => simp [Es.len]
  | .cons c .nil, [ec], _ => simp [Es.len]
theorem cond_pts {cond : Es} {ifs : List Expr} (h : condOk cl P G X cond ifs) : PTs X ifs (TTs G cl P cond) := by
  match cond, ifs, h with
  | .nil, [], _ => exact pts_nil
  | .cons c .nil, [ec], h => exact pts_one h.pt
theorem te_comp {own : List (Str × Nat)} {tg : Tg} {k : ItK} {src : Es} {elt : E} {cond : Es} (hc : cond.len ≤ 1) (σ : L2.St) (H : Hp) (Q : VK) (h : TEr G W cl P (.comp own tg k src elt cond) σ H Q) :
    tLc (TIr G W cl P k src) (TGr G P tg) (TTs G cl P cond) (TEr G WF cl P elt) (own.map (·.2)) σ H Q := se_comp_key evE_length evEs_length hc h
/-- a comprehension's parts are right in its block -/
structure CompOk (G : Gx) (W : WX) (cl : Str → List U → RC) (P : List Nat) (X : Cx) (own : List (Str × Nat)) (tg : Tg) (k : ItK) (src : Es) (elt : E) (cond : Es) (elte tge iter : Expr) (ifs : List Expr) (scope : Scope) : Prop where
  calm : X.calm = true
  one : cond.len ≤ 1
  nd : X.N.Nodup
  src : SI G W cl P X tge k src iter
  blk : BlkOk X.N X.env.scope scope own
  tg : ∀ (s : Shared) (H : Hp) (C : Addr) (cl' : List (Str × Addr)) (fp : List Addr), ST G P (X.blk s H scope (compEnvC scope cl' C X.env) fp) tg tge
  cond : ∀ (s : Shared) (H : Hp) (C : Addr) (cl' : List (Str × Addr)) (fp : List Addr), condOk cl P G (X.blk s H scope (compEnvC scope cl' C X.env) fp) cond ifs
  elt : ∀ (s : Shared) (H : Hp) (C : Addr) (cl' : List (Str × Addr)) (fp : List Addr), SE G WF cl P (X.blk s H scope (compEnvC scope cl' C X.env) fp) elt elte
  fold : ∀ x, foldedSetIterable iter X.env x = pure x
theorem se_comp {own : List (Str × Nat)} {tg : Tg} {k : ItK} {src : Es} {elt : E} {cond : Es} {elte tge iter : Expr} {ifs : List Expr} {scope : Scope} {pos : Pos} (c : CompOk G W cl P X own tg k src elt cond elte tge iter ifs scope) :
    SE G W cl P X (.comp own tg k src elt cond) (.ListComp elte [⟨tge, iter, ifs, 0⟩] scope pos) := by
  have h : PE X (.ListComp elte [⟨tge, iter, ifs, 0⟩] scope pos) (TEr G W cl P (.comp own tg k src elt cond)) :=
    PE.imp (pe_lc c.calm c.nd c.src c.blk c.tg (fun s H C cl' fp => cond_pts (c.cond s H C cl' fp)) (fun s H C cl' fp => (c.elt s H C cl' fp).pe) c.fold) fun σ H Q h => te_comp c.one σ H Q h
  exact ⟨h, pt_val h⟩
end
end Pv

/-! Pv11: statements. -/
namespace Pv
open PySem PySem.Spec PyProof.Rows L2

section
variable (G : Gx) (W : WX) (P : List Nat)
def GN (K : L2.St → Hp → Prop) (ρ' : Env) (F H : Hp) (os : List Addr) (σ : L2.St) : Prop := ∀ F' H' os' σ', Inv2 G F' H' ρ' σ' os' → Step F H os F' H' os' → Keep P σ σ' → K σ' H'
def GR (K : VK) (u : U) (ρ' : Env) (F H : Hp) (os : List Addr) (σ : L2.St) : Prop := ∀ F' H' os' σ' v ps, Inv2 G F' H' ρ' σ' os' → RepU G F' H' u v ps → (ps ++ os').Nodup → Step F H os F' H' (ps ++ os') → Keep P σ σ' → K v H'
def GXS (c : Str) (dv : D) (ρ' : Env) (F H : Hp) (os : List Addr) (σ : L2.St) : Prop :=
  ∀ F' H' os' σ' C a v, Inv2 G F' H' ρ' σ' os' → G.mg c = some (.ref C) → F' a = some (.xd [(("value" : Str), v)]) → Rep G F' dv v → Step F H os F' H' os' → Keep P σ σ' → W (.ref C) (some a) σ' H'
def GS (r : RS) (F H : Hp) (os : List Addr) (σ : L2.St) (D : Ends) : Prop := match r with
  | .nx ρ' => GN G P D.nx ρ' F H os σ
  | .rt u ρ' => GR G P D.rt u ρ' F H os σ
  | .bk ρ' => GN G P D.bk ρ' F H os σ
  | .ct ρ' => GN G P D.ct ρ' F H os σ
  | .ex c v ρ' => GXS G W P c v ρ' F H os σ
  | .bad => False
def TSg (ev : Env → RS) : TS := fun D σ H => ∃ F ρ os, Inv2 G F H ρ σ os ∧ GS G W P (ev ρ) F H os σ D
end
section
variable {G : Gx} {W : WX} {cl : Str → List U → RC} {P : List Nat} {X : Cx}
theorem GN.trans {K : L2.St → Hp → Prop} {ρ : Env} {F H F1 H1 : Hp} {os os1 qs : List Addr} {σ σ1 : L2.St} (h : GN G P K ρ F H os σ) (s : Step F H os F1 H1 qs) (hs : ∀ a ∈ os1, a ∈ qs) (k : Keep P σ σ1) : GN G P K ρ F1 H1 os1 σ1 :=
  fun F' H' os' σ' I st kp => h F' H' os' σ' I (s.trans (st.weak hs fun a h => .inl h)) (k.trans kp)
theorem GR.trans {K : VK} {u : U} {ρ : Env} {F H F1 H1 : Hp} {os os1 qs : List Addr} {σ σ1 : L2.St} (h : GR G P K u ρ F H os σ) (s : Step F H os F1 H1 qs) (hs : ∀ a ∈ os1, a ∈ qs) (k : Keep P σ σ1) : GR G P K u ρ F1 H1 os1 σ1 :=
  fun F' H' os' σ' v ps I r nd st kp => h F' H' os' σ' v ps I r nd (s.trans (st.weak hs fun a h => .inl h)) (k.trans kp)
theorem GXS.trans {c : Str} {dv : D} {ρ : Env} {F H F1 H1 : Hp} {os os1 qs : List Addr} {σ σ1 : L2.St} (h : GXS G W P c dv ρ F H os σ) (s : Step F H os F1 H1 qs) (hs : ∀ a ∈ os1, a ∈ qs) (k : Keep P σ σ1) : GXS G W P c dv ρ F1 H1 os1 σ1 :=
  fun F' H' os' σ' C a v I hm ha hr st kp => h F' H' os' σ' C a v I hm ha hr (s.trans (st.weak hs fun a h => .inl h)) (k.trans kp)
theorem GS.trans {r : RS} {F H F1 H1 : Hp} {os os1 qs : List Addr} {σ σ1 : L2.St} {D : Ends} (h : GS G W P r F H os σ D) (s : Step F H os F1 H1 qs) (hs : ∀ a ∈ os1, a ∈ qs) (k : Keep P σ σ1) : GS G W P r F1 H1 os1 σ1 D := by
  cases r with
  | nx ρ' => exact GN.trans h s hs k
  | rt u ρ' => exact GR.trans h s hs k
  | bk ρ' => exact GN.trans h s hs k
  | ct ρ' => exact GN.trans h s hs k
  | ex c v ρ' => exact GXS.trans h s hs k
  | bad => exact h
theorem GX.toS {c : Str} {dv : D} {ρ : Env} {F H : Hp} {os : List Addr} {σ : L2.St} (h : GXS G W P c dv ρ F H os σ) : GX G W c dv ρ F H os σ :=
  fun F' H' os' C a v I hm ha hr st => h F' H' os' σ C a v I hm ha hr st Keep.refl
theorem PS.imp {X : Cx} {e : Stmt} {t t' : TS} (h : PS X e t) (k : ∀ D σ H, t' D σ H → t D σ H) : PS X e t' := ⟨fun pins s σ H D I q => h.run pins s σ H D I (k D σ H q)⟩
theorem PSs.imp {X : Cx} {e : List Stmt} {t t' : TS} (h : PSs X e t) (k : ∀ D σ H, t' D σ H → t D σ H) : PSs X e t' := ⟨fun pins s σ H D I q => h.run pins s σ H D I (k D σ H q)⟩
/-- a statement, a block: what is computed is what runs -/
def SS (G : Gx) (W : WX) (cl : Str → List U → RC) (X : Cx) (s : S) (st : Stmt) : Prop := ∀ P, PS X st (TSg G W P (evS cl s P))
def SSs (G : Gx) (W : WX) (cl : Str → List U → RC) (X : Cx) (ss : Ss) (sts : List Stmt) : Prop := ∀ P, PSs X sts (TSg G W P (evSs cl ss P))

theorem sss_nil : SSs G W cl X .nil [] := fun P => by
  refine PSs.imp pss_nil fun D σ H ⟨F, ρ, os, I, h⟩ => ?_
  simp only [evSs] at h
  exact h F H os σ I Step.refl Keep.refl
theorem sss_cons {s : S} {ss : Ss} {st : Stmt} {sts : List Stmt} (h1 : SS G W cl X s st) (h2 : SSs G W cl X ss sts) : SSs G W cl X (.cons s ss) (st :: sts) := fun P => by
  refine PSs.imp (pss_cons (h1 P) (h2 P)) fun D σ H ⟨F, ρ, os, I, h⟩ => ⟨F, ρ, os, I, ?_⟩
  simp only [evSs] at h
  cases e : evS cl s P ρ with
  | nx ρ1 =>
    rw [e] at h
    intro F1 H1 os1 σ1 i1 st1 k1
    exact ⟨F1, ρ1, os1, i1, GS.trans h st1 (fun a h => h) k1⟩
  | rt u ρ1 => rw [e] at h; exact h
  | bk ρ1 => rw [e] at h; exact h
  | ct ρ1 => rw [e] at h; exact h
  | ex c v ρ1 => rw [e] at h; exact h
  | bad => rw [e] at h; exact h
theorem ss_pass {pos : Pos} : SS G W cl X .pass (.Pass pos) := fun P => PS.imp ps_pass fun D σ H ⟨F, ρ, os, I, h⟩ => by
  simp only [evS] at h
  exact h F H os σ I Step.refl Keep.refl
theorem ss_brk {pos : Pos} : SS G W cl X .brk (.Break pos) := fun P => PS.imp ps_break fun D σ H ⟨F, ρ, os, I, h⟩ => by
  simp only [evS] at h
  exact h F H os σ I Step.refl Keep.refl
theorem ss_cont {pos : Pos} : SS G W cl X .cont (.Continue pos) := fun P => PS.imp ps_continue fun D σ H ⟨F, ρ, os, I, h⟩ => by
  simp only [evS] at h
  exact h F H os σ I Step.refl Keep.refl
theorem ss_bad {st : Stmt} : SS G W cl X .bad st := fun P => PS.imp ps_never fun D σ H ⟨F, ρ, os, I, h⟩ => by
  simp only [evS] at h
  exact h
/-- a docstring -/
theorem ss_doc {x : Str} {j : Nat} {pos pos' : Pos} : SS G W cl X .pass (.Expr (.Constant (.str x) j pos) pos') := fun P => PS.imp ps_doc fun D σ H ⟨F, ρ, os, I, h⟩ => by
  simp only [evS] at h
  exact h F H os σ I Step.refl Keep.refl
theorem ss_expr {e : E} {ex : Expr} {pos : Pos} (s : SE G W cl [] X e ex) (hs : swapsWith ex none pos.line X.env = pure false) : SS G W cl X (.expr e) (.Expr ex pos) := fun P => by
  refine PS.imp (ps_expr s.pe hs) fun D σ H ⟨F, ρ, os, I, h⟩ => ⟨F, ρ, os, I, ?_⟩
  simp only [evS] at h
  cases e1 : evE cl [] e ρ with
  | bad => rw [e1] at h; exact h
  | ex c v ρ1 => rw [e1] at h; exact GX.toS h
  | ok u ρ1 =>
    rw [e1] at h
    intro F1 H1 os1 v ps i1 r1 nd1 st1 lk
    exact h F1 H1 os1 σ i1 (st1.perm fun a ha => by simp [ha]) Keep.refl
theorem ss_ret {e : E} {ex : Expr} {pos : Pos} (s : SE G W cl [] X e ex) : SS G W cl X (.ret e) (.Return (some ex) pos) := fun P => by
  refine PS.imp (ps_ret s.pe) fun D σ H ⟨F, ρ, os, I, h⟩ => ⟨F, ρ, os, I, ?_⟩
  simp only [evS] at h
  cases e1 : evE cl [] e ρ with
  | bad => rw [e1] at h; exact h
  | ex c v ρ1 => rw [e1] at h; exact GX.toS h
  | ok u ρ1 =>
    rw [e1] at h
    intro F1 H1 os1 v ps i1 r1 nd1 st1 lk
    exact h F1 H1 os1 σ v ps i1 r1 nd1 st1 Keep.refl
theorem ss_ret0 {pos : Pos} : SS G W cl X (.ret (.cst .non)) (.Return none pos) := fun P => by
  refine PS.imp ps_retN fun D σ H ⟨F, ρ, os, I, h⟩ => ?_
  simp only [evS, evE] at h
  exact h F H os σ .non [] I (by simp [RepU, Rep]) (by simpa using I.nd) Step.refl Keep.refl
theorem te_set {tg : Tg} {e : E} {D : Ends} {σ : L2.St} {H : Hp} (h : TSg G W P (evS cl (.set tg e) P) D σ H) : tAsg (TEr G W cl [] e) (TGr G P tg) D σ H := by
  obtain ⟨F, ρ, os, I, h⟩ := h
  refine ⟨F, ρ, os, I, ?_⟩
  simp only [evS] at h
  cases e1 : evE cl [] e ρ with
  | bad => rw [e1] at h; exact h
  | ex c v ρ1 => rw [e1] at h; exact GX.toS h
  | ok u ρ1 =>
    rw [e1] at h
    intro F1 H1 os1 v ps i1 r1 nd1 st1 lk
    refine ⟨F1, ρ1, os1, u, ps, i1, r1, nd1, ?_⟩
    simp only at h
    cases e2 : setTg P tg u ρ1 with
    | none => rw [e2] at h; exact h
    | some ρ2 =>
      rw [e2] at h
      intro F2 os2 σ2 i2 st2 k2 _ _
      exact h F2 H1 os2 σ2 i2 (st1.trans st2) k2
theorem ss_set {tg : Tg} {e : E} {tge ex : Expr} {pos : Pos} (s : SE G W cl [] X e ex) (hg : ∀ P, ST G P X tg tge) (hs : swapsWithSole [tge] ex pos.line X.env = pure false) (hw : swappedStores [tge] ex X.env = pure none)
    (h1 : (assignEach [tge] X.env).map (·.2) = [assign tge X.env]) : SS G W cl X (.set tg e) (.Assign [tge] ex pos) := fun P =>
  PS.imp (ps_asg s.pe (hg P) hs hw h1) fun D σ H h => te_set h
/-- name = a comprehension, on one line -/
theorem ss_setLc {i : Nat} {y : Str} {py : Pos} {own : List (Str × Nat)} {tg : Tg} {k : ItK} {src : Es} {elt : E} {cond : Es} {elte tge iter : Expr} {ifs : List Expr} {scope : Scope} {pos spos : Pos} (c : CompOk G W cl [] X own tg k src elt cond elte tge iter ifs scope)
    (hy : X.N[i]? = some y) (hyl : X.env.scope.names.lookup y = some .local) (hsw : swapsWith (.ListComp elte [⟨tge, iter, ifs, 0⟩] scope pos) (some (.Name y py)) spos.line X.env = pure true) :
    SS G W cl X (.set (.name i) (.comp own tg k src elt cond)) (.Assign [.Name y py] (.ListComp elte [⟨tge, iter, ifs, 0⟩] scope pos) spos) := fun P => by
  refine PS.imp (ps_setLc c.calm c.nd hy hyl hsw c.src c.blk c.tg (fun s H C cl' fp => cond_pts (c.cond s H C cl' fp)) (fun s H C cl' fp => (c.elt s H C cl' fp).pe) c.fold) fun D σ H h => ?_
  refine te_comp c.one σ H _ (TEr.mono (te_set h) fun v H1 q => ?_)
  obtain ⟨F, ρ, os, u, ps, I, r, nd, h⟩ := q
  simp only [setTg] at h
  by_cases hp : P.contains i = true
  · rw [if_pos hp] at h; exact h.elim
  · rw [if_neg hp] at h
    by_cases hl : i < ρ.length
    · rw [if_pos hl] at h
      obtain ⟨os', I', hs⟩ := set_slot I r nd hl
      refine h F os' _ I' (Step.refl.weak (fun a h => h) fun a ha => .inr (hs a ha)) (Keep.set (by simpa using hp)) (fun j hj => ?_) (by simp)
      simp only [Tg.slots, List.mem_singleton] at hj
      rw [List.getElem?_set_ne (Ne.symm hj)]
    · rw [if_neg hl] at h; exact h.elim
theorem ss_ite {c : E} {a b : Ss} {ec : Expr} {ea eb : List Stmt} {pos : Pos} (sc : SE G W cl [] X c ec) (sa : SSs G W cl X a ea) (sb : SSs G W cl X b eb) : SS G W cl X (.ite c a b) (.If ec ea eb pos) := fun P => by
  refine PS.imp (ps_if sc.pt (sa P) (sb P)) fun D σ H ⟨F, ρ, os, I, h⟩ => ⟨F, ρ, os, I, ?_⟩
  simp only [evS] at h
  cases e1 : evE cl [] c ρ with
  | bad => rw [e1] at h; exact h
  | ex c v ρ1 => rw [e1] at h; exact GX.toS h
  | ok u ρ1 =>
    rw [e1] at h
    intro F1 H1 os1 v ps i1 r1 nd1 st1 lk
    cases u with
    | ul _ => exact h.elim
    | ut _ => exact h.elim
    | fz d =>
      cases d with
      | bl k =>
        simp only [RepU, Rep] at r1
        obtain ⟨rfl, rfl⟩ := r1
        refine ⟨k, rfl, ?_⟩
        cases k with
        | true =>
          simp only [if_true]
          exact ⟨F1, ρ1, os1, i1, GS.trans h st1 (fun a ha => by simpa using ha) Keep.refl⟩
        | false =>
          simp only [Bool.false_eq_true, if_false]
          exact ⟨F1, ρ1, os1, i1, GS.trans h st1 (fun a ha => by simpa using ha) Keep.refl⟩
      | _ => exact h.elim
theorem ss_while {c : E} {body : Ss} {ec : Expr} {eb : List Stmt} {pos : Pos} (hp : PassesOwn (model X.prog X.w) X.A X.env X.xe) (sc : SE G W cl [] X c ec) (sb : SSs G W cl X body eb) : SS G W cl X (.while_ c body) (.While ec eb [] pos) := fun P => by
  refine PS.imp (ps_while hp sc.pt (sb P)) fun D σ H ⟨F, ρ, os, I, h⟩ => ?_
  simp only [evS] at h
  refine ⟨fun m σ' H' => ∃ F ρ os, Inv2 G F H' ρ σ' os ∧ GS G W P (evWhile (fun ρ => evE cl [] c ρ) (fun ρ => evSs cl body P ρ) m ρ) F H' os σ' D, ⟨FUEL, F, ρ, os, I, h⟩, ?_⟩
  rintro m σ H ⟨F, ρ, os, I, h⟩
  refine ⟨F, ρ, os, I, ?_⟩
  cases m with
  | zero => simp only [evWhile] at h; exact h.elim
  | succ m =>
    simp only [evWhile] at h
    cases e1 : evE cl [] c ρ with
    | bad => rw [e1] at h; exact h
    | ex c v ρ1 => rw [e1] at h; exact GX.toS h
    | ok u ρ1 =>
      rw [e1] at h
      intro F1 H1 os1 v ps i1 r1 nd1 st1 lk
      cases u with
      | ul _ => exact h.elim
      | ut _ => exact h.elim
      | fz d =>
        cases d with
        | bl k =>
          simp only [RepU, Rep] at r1
          obtain ⟨rfl, rfl⟩ := r1
          refine ⟨k, rfl, ?_⟩
          have st1 : Step F H os F1 H1 os1 := by simpa using st1
          cases k with
          | false =>
            simp only [Bool.false_eq_true, if_false]
            exact h F1 H1 os1 σ i1 st1 Keep.refl
          | true =>
            simp only [if_true]
            refine ⟨fun σ' H' => ∃ F ρ os, Inv2 G F H' ρ σ' os ∧ GS G W P (evWhile (fun ρ => evE cl [] c ρ) (fun ρ => evSs cl body P ρ) m ρ) F H' os σ' D, fun σ' H' q => ⟨m, by omega, q⟩, F1, ρ1, os1, i1, ?_⟩
            simp only at h
            cases e2 : evSs cl body P ρ1 with
            | bad => rw [e2] at h; exact h.elim
            | nx ρ2 => rw [e2] at h; exact fun F2 H2 os2 σ2 i2 st2 k2 => ⟨F2, ρ2, os2, i2, GS.trans h (st1.trans st2) (fun a h => h) k2⟩
            | ct ρ2 => rw [e2] at h; exact fun F2 H2 os2 σ2 i2 st2 k2 => ⟨F2, ρ2, os2, i2, GS.trans h (st1.trans st2) (fun a h => h) k2⟩
            | bk ρ2 => rw [e2] at h; exact GN.trans h st1 (fun a h => h) Keep.refl
            | rt u ρ2 => rw [e2] at h; exact GR.trans h st1 (fun a h => h) Keep.refl
            | ex c v ρ2 => rw [e2] at h; exact GXS.trans h st1 (fun a h => h) Keep.refl
        | _ => exact h.elim
theorem ss_for {tg : Tg} {k : ItK} {src : Es} {body : Ss} {tge iter : Expr} {eb : List Stmt} {pos : Pos} (hp : PassesOwn (model X.prog X.w) X.A X.env X.xe) (hc : X.calm = true) (si : SI G W cl [] X tge k src iter) (hg : ∀ P, ST G P X tg tge) (sb : SSs G W cl X body eb)
    (hs : ∀ x, foldedSetIterable iter X.env x = pure x) : SS G W cl X (.for_ tg k src body) (.For tge iter eb [] pos) := fun P => by
  refine PS.imp (ps_for hp hc si (hg P) (sb P) hs) fun D σ0 H0 ⟨F0, ρ0, os0, I0, h⟩ => ⟨F0, ρ0, os0, I0, ?_⟩
  simp only [evS] at h
  cases e1 : evEs cl [] src ρ0 with
  | bad => rw [e1] at h; exact h
  | ex c v ρ1 => rw [e1] at h; exact GX.toS h
  | ok us ρ1 =>
    rw [e1] at h
    simp only at h ⊢
    cases e2 : itF k (Us.d us) with
    | none => rw [e2] at h; exact h.elim
    | some ds =>
      rw [e2] at h
      simp only at h ⊢
      intro F1 H1 os1 J i1 st1 wk
      refine ⟨fun i m σ' H' => m = ds.length - i ∧ i ≤ ds.length ∧ ∃ F2 ρ2 os2, Sub F1 F2 ∧ Inv2 G F2 H' ρ2 σ' os2 ∧ GS G W P (evFor P tg (fun ρ => evSs cl body P ρ) (ds.drop i) ρ2) F2 H' os2 σ' D, ⟨ds.length, by simp, Nat.zero_le _, F1, ρ1, os1, Sub.refl F1, i1, ?_⟩, ?_⟩
      · simp only [List.drop_zero]
        exact GS.trans h st1 (fun a h => h) Keep.refl
      · rintro i m σ H ⟨rfl, hi, F2, ρ2, os2, s2, i2, fin⟩
        by_cases hlt : i < ds.length
        · have ed : ds.drop i = ds[i] :: ds.drop (i + 1) := List.drop_eq_getElem_cons hlt
          rw [ed] at fin
          refine .inr ⟨wk.go i H (s2.trans i2.sub) hlt, fun σ' H' => i + 1 ≤ ds.length ∧ ∃ F2 ρ2 os2, Sub F1 F2 ∧ Inv2 G F2 H' ρ2 σ' os2 ∧ GS G W P (evFor P tg (fun ρ => evSs cl body P ρ) (ds.drop (i + 1)) ρ2) F2 H' os2 σ' D, fun σ' H' ⟨q1, q2⟩ => ⟨ds.length - (i + 1), by omega, rfl, q1, q2⟩, fun x H' y => ?_⟩
          obtain ⟨F3, rx, s3, st3⟩ := wk.yld i H x H' F2 ds[i] s2 i2.sub y (List.getElem?_eq_getElem hlt)
          have i3 : Inv2 G F3 H' ρ2 σ os2 := i2.step st3 s3 fun _ _ h => by simp at h
          have st3' : Step F2 H os2 F3 H' os2 := st3.weak (fun a h => by simp at h) fun a h => .inr h
          refine ⟨F3, ρ2, os2, .fz ds[i], [], i3, by simp only [RepU, true_and]; exact rx, by simpa using i3.nd, ?_⟩
          simp only [evFor] at fin
          cases e4 : setTg P tg (.fz ds[i]) ρ2 with
          | none => rw [e4] at fin; exact fin.elim
          | some ρt =>
            rw [e4] at fin
            intro F4 os4 σ4 i4 st4 kp4 off4 len4
            have st4' : Step F2 H os2 F4 H' os4 := st3'.trans (by simpa using st4)
            have sub4 : Sub F1 F4 := s2.trans st4'.f
            refine ⟨F4, ρt, os4, i4, ?_⟩
            simp only at fin
            cases e5 : evSs cl body P ρt with
            | bad => rw [e5] at fin; exact fin.elim
            | nx ρ5 => rw [e5] at fin; exact fun F5 H5 os5 σ5 i5 st5 k5 => ⟨hlt, F5, ρ5, os5, sub4.trans st5.f, i5, GS.trans fin (st4'.trans st5) (fun a h => h) (kp4.trans k5)⟩
            | ct ρ5 => rw [e5] at fin; exact fun F5 H5 os5 σ5 i5 st5 k5 => ⟨hlt, F5, ρ5, os5, sub4.trans st5.f, i5, GS.trans fin (st4'.trans st5) (fun a h => h) (kp4.trans k5)⟩
            | bk ρ5 => rw [e5] at fin; exact GN.trans fin st4' (fun a h => h) kp4
            | rt u ρ5 => rw [e5] at fin; exact GR.trans fin st4' (fun a h => h) kp4
            | ex c v ρ5 => rw [e5] at fin; exact GXS.trans fin st4' (fun a h => h) kp4
        · have ei : i = ds.length := by omega
          subst ei
          refine .inl ⟨wk.stop _ H (s2.trans i2.sub) (Nat.le_refl _), ?_⟩
          rw [List.drop_length] at fin
          simp only [evFor] at fin
          exact fin F2 H os2 σ i2 Step.refl Keep.refl
end
end Pv

/-! Pv12: parallel stores, items set, paths, lending blocks. -/
namespace Pv
open PySem PySem.Spec PyProof.Rows L2

section
variable {G : Gx} {W : WX} {cl : Str → List U → RC} {P : List Nat} {X : Cx}
/-! ### a, b = x, y -/
theorem tupU_mk (us : List U) : tupU (mkT us) = some us := by
  unfold mkT
  split
  · rename_i h
    simp only [tupU]
    rw [← all_fz h]
  · rfl
theorem te_par {is : List Nat} {es : Es} {D : Ends} {σ : L2.St} {H : Hp} (h : TSg G W P (evS cl (.set (.tup is) (.tup es)) P) D σ H) :
    TAr G W cl [] es σ H fun vs H1 => vs.length = is.length ∧ D.nx ((is.zip vs).foldl (fun σ p => σ.set p.1 (some p.2)) σ) H1 := by
  obtain ⟨F, ρ, os, I, h⟩ := h
  refine ⟨F, ρ, os, I, ?_⟩
  simp only [evS, evE] at h
  cases e1 : evEs cl [] es ρ with
  | bad => rw [e1] at h; exact h
  | ex c v ρ1 => rw [e1] at h; exact GX.toS h
  | ok us ρ1 =>
    rw [e1] at h
    simp only at h
    by_cases hz : us.length ≤ LIM
    · rw [if_pos hz] at h
      simp only [setTg, tupU_mk] at h
      intro F1 H1 os1 vs ps i1 r1 nd1 st1 lk
      by_cases hc : (decide (us.length = is.length) && is.all fun i => !P.contains i && decide (i < ρ1.length)) = true
      · rw [if_pos hc] at h
        simp only [Bool.and_eq_true, decide_eq_true_eq, List.all_eq_true, Bool.not_eq_true'] at hc
        obtain ⟨os', i2, s2, k2, _, _⟩ := set_many (P := P) i1 r1 nd1 hc.1.symm (fun i hi => ⟨(hc.2 i hi).2, (hc.2 i hi).1⟩)
        exact ⟨by rw [r1.length]; exact hc.1, h F1 H1 os' _ i2 (st1.perm s2) k2⟩
      · rw [if_neg hc] at h; exact h.elim
    · rw [if_neg hz] at h; exact h.elim
theorem ss_par2 {i j : Nat} {es : Es} {x y : Str} {a b : Expr} {px py pt pos : Pos} {kt k2 : Nat} {pt2 : Pos} (hc : X.calm = true) (hN : X.N.Nodup) (hi : X.N[i]? = some x) (hj : X.N[j]? = some y) (hij : i ≠ j)
    (hx : X.env.scope.names.lookup x = some .local) (hy : X.env.scope.names.lookup y = some .local) (sa : SA G W cl [] X es [a, b])
    (hw : swappedStores [.Tuple [.Name x px, .Name y py] kt pt] (.Tuple [a, b] k2 pt2) X.env = pure (some [x, y]))
    (hs : swapsWithSole [.Tuple [.Name x px, .Name y py] kt pt] (.Tuple [a, b] k2 pt2) pos.line X.env = pure false) :
    SS G W cl X (.set (.tup [i, j]) (.tup es)) (.Assign [.Tuple [.Name x px, .Name y py] kt pt] (.Tuple [a, b] k2 pt2) pos) := fun P => by
  refine PS.imp (ps_par hc hN hi hj hij hx hy sa hw hs) fun D σ H h => ?_
  obtain ⟨F, ρ, os, I, h⟩ := te_par h
  refine ⟨F, ρ, os, I, ?_⟩
  cases e : evEs cl [] es ρ with
  | bad => rw [e] at h; exact h
  | ex c v ρ1 => rw [e] at h; exact h
  | ok us ρ1 =>
    rw [e] at h
    intro F1 H1 os1 vs ps i1 r1 nd1 st1 lk
    obtain ⟨q1, q2⟩ := h F1 H1 os1 vs ps i1 r1 nd1 st1 lk
    match vs, q1, q2 with
    | [v, w], _, q2 => exact ⟨v, w, rfl, q2⟩
theorem ss_par3 {i j l : Nat} {es : Es} {x y z : Str} {a b c : Expr} {px py pz pt pos : Pos} {kt k2 : Nat} {pt2 : Pos} (hc : X.calm = true) (hN : X.N.Nodup) (hi : X.N[i]? = some x) (hj : X.N[j]? = some y) (hl : X.N[l]? = some z) (hij : i ≠ j) (hil : i ≠ l) (hjl : j ≠ l)
    (hx : X.env.scope.names.lookup x = some .local) (hy : X.env.scope.names.lookup y = some .local) (hz : X.env.scope.names.lookup z = some .local) (sa : SA G W cl [] X es [a, b, c])
    (hw : swappedStores [.Tuple [.Name x px, .Name y py, .Name z pz] kt pt] (.Tuple [a, b, c] k2 pt2) X.env = pure (some [x, y, z]))
    (hs : swapsWithSole [.Tuple [.Name x px, .Name y py, .Name z pz] kt pt] (.Tuple [a, b, c] k2 pt2) pos.line X.env = pure false) :
    SS G W cl X (.set (.tup [i, j, l]) (.tup es)) (.Assign [.Tuple [.Name x px, .Name y py, .Name z pz] kt pt] (.Tuple [a, b, c] k2 pt2) pos) := fun P => by
  refine PS.imp (ps_par3 hc hN hi hj hl hij hil hjl hx hy hz sa hw hs) fun D σ H h => ?_
  obtain ⟨F, ρ, os, I, h⟩ := te_par h
  refine ⟨F, ρ, os, I, ?_⟩
  cases e : evEs cl [] es ρ with
  | bad => rw [e] at h; exact h
  | ex c v ρ1 => rw [e] at h; exact h
  | ok us ρ1 =>
    rw [e] at h
    intro F1 H1 os1 vs ps i1 r1 nd1 st1 lk
    obtain ⟨q1, q2⟩ := h F1 H1 os1 vs ps i1 r1 nd1 st1 lk
    match vs, q1, q2 with
    | [v, w, u], _, q2 => exact ⟨v, w, u, rfl, q2⟩

/-! ### x[i] = v -/
theorem RepUs.setAt {F H : Hp} {u : U} {v : V} {ps : List Addr} (ru : RepU G F H u v ps) : ∀ {us : List U} {vs : List V} {qs : List Addr} {j : Nat}, RepUs G F H us vs qs → j < us.length →
    ∃ l q r, qs = l ++ (q ++ r) ∧ RepUs G F H (us.set j u) (vs.set j v) (l ++ (ps ++ r))
  | [], _, _, _, _, e => by simp at e
  | w :: us, _, _, 0, h, e => by
    simp only [RepUs] at h
    obtain ⟨v0, r, p, q, rfl, rfl, h1, h2⟩ := h
    refine ⟨[], p, q, by simp, ?_⟩
    simp only [List.set_cons_zero, List.nil_append, RepUs]
    exact ⟨_, _, _, _, rfl, rfl, ru, h2⟩
  | w :: us, _, _, j + 1, h, e => by
    simp only [RepUs] at h
    obtain ⟨v0, r, p, q, rfl, rfl, h1, h2⟩ := h
    obtain ⟨l, q2, r2, rfl, h3⟩ := RepUs.setAt ru (j := j) h2 (by simpa using e)
    refine ⟨p ++ l, q2, r2, by simp, ?_⟩
    simp only [List.set_cons_succ, RepUs]
    exact ⟨_, _, p, _, rfl, by simp, h1, h3⟩
theorem Step.drop {F H F' H' : Hp} {os os' : List Addr} {qs : List Addr} (s : Step F H os F' H' (qs ++ os')) : Step F H os F' H' os' := s.perm fun a ha => by simp [ha]
theorem ss_setIx {i : Nat} {ix e : E} {x : Str} {ee ei : Expr} {p tpos pos : Pos} (hK : X.K = G.K) (hN : X.N[i]? = some x) (hv : visB X.env.scope x = true) (hp : plainN x = true) (se : SE G W cl [] X e ee) (si : SE G W cl [] X ix ei)
    (hs : swapsWithSole [.Subscript (.Name x p) ei tpos] ee pos.line X.env = pure false) (hw : swappedStores [.Subscript (.Name x p) ei tpos] ee X.env = pure none)
    (h1 : (assignEach [.Subscript (.Name x p) ei tpos] X.env).map (·.2) = [assign (.Subscript (.Name x p) ei tpos) X.env])
    (ha : ∀ v, assign (.Subscript (.Name x p) ei tpos) X.env v = (do
      let ov ← holding [v] (eval (.Name x p) X.env)
      let iv ← holding [v, ov] (eval ei X.env)
      standAt tpos
      holding [v, ov, iv] (setItem ov iv v)
      release [v, ov, iv] [])) : SS G W cl X (.setIx i ix e) (.Assign [.Subscript (.Name x p) ei tpos] ee pos) := fun P => by
  simp only [plainN, Bool.and_eq_true, Bool.not_eq_true'] at hp
  refine PS.imp (ps_asg se.pe (pg_sub (pe_var hN (vis_of hv) hp.1.1 hp.1.2) si.pe set_list ha) hs hw h1) fun D σ H ⟨F, ρ, os, I, h⟩ => ⟨F, ρ, os, I, ?_⟩
  simp only [evS] at h
  cases e1 : evE cl [] e ρ with
  | bad => rw [e1] at h; exact h
  | ex c v ρ1 => rw [e1] at h; exact GX.toS h
  | ok u ρ1 =>
    rw [e1] at h
    intro F1 H1 os1 v ps i1 r1 nd1 st1 lk
    simp only at h
    by_cases ho : ownAt ρ1 i [] = true
    · rw [if_pos ho] at h
      obtain ⟨p0, vs0, s0, _⟩ := own0 i1 ho
      refine ⟨.ref p0, s0, F1, ρ1, os1, i1, ?_⟩
      cases e2 : evE cl [] ix ρ1 with
      | bad => rw [e2] at h; exact h
      | ex c v ρ2 => rw [e2] at h; exact (GX.toS h).trans st1 fun a ha => by simp [ha]
      | ok ui ρ2 =>
        rw [e2] at h
        intro F2 H2 os2 y qs i2 r2 nd2 st2 lk2
        cases ui with
        | ul us => exact h.elim
        | ut us => exact h.elim
        | fz d =>
          cases d with
          | int k =>
            simp only [RepU, Rep] at r2
            obtain ⟨rfl, rfl⟩ := r2
            simp only at h
            cases e3 : ρ2[i]? with
            | none => rw [e3] at h; exact h.elim
            | some o =>
              cases o with
              | none => rw [e3] at h; exact h.elim
              | some w =>
                cases w with
                | fz d => rw [e3] at h; exact h.elim
                | ut us => rw [e3] at h; exact h.elim
                | ul us =>
                  rw [e3] at h
                  simp only at h
                  obtain ⟨p1, vs, l, q, r, e4, rfl, e5, e6, e7, wr⟩ := write_slot i2 e3
                  rw [s0] at e4; cases e4
                  cases e8 : L2.ixN us.length k with
                  | none => rw [e8] at h; exact h.elim
                  | some j =>
                    rw [e8] at h
                    have st2' : Step F1 H1 os1 F2 H2 (l ++ ((p0 :: q) ++ r)) := by simpa using st2
                    have hj : j < us.length := (ixN_seq e8).2.1
                    have ru : RepU G F2 H2 u v ps := st2'.keepU r1 (disj_of nd1)
                    have nall : (ps ++ (l ++ ((p0 :: q) ++ r))).Nodup := nodup_step nd1 r1.owns st2' (by simpa using nd2)
                    obtain ⟨l2, q2, r2, rfl, rs⟩ := RepUs.setAt ru e7 hj
                    have nd3 : (l ++ ((p0 :: (l2 ++ (ps ++ r2))) ++ r)).Nodup := by
                      have h2 : (ps ++ (l ++ (p0 :: (l2 ++ (r2 ++ r))))).Nodup := by
                        refine nall.sublist (List.Sublist.append_left (List.Sublist.append_left ?_ l) ps)
                        rw [List.cons_append, List.append_assoc, List.append_assoc]
                        exact ((List.sublist_append_right q2 _).append_left l2).cons₂ p0
                      refine (List.Perm.nodup_iff ?_).mp h2
                      refine (List.perm_append_comm_assoc ps l _).trans (List.Perm.append_left l ?_)
                      rw [List.cons_append]
                      refine List.perm_middle.trans (List.Perm.cons _ ?_)
                      rw [List.append_assoc, List.append_assoc]
                      exact List.perm_append_comm_assoc ps l2 (r2 ++ r)
                    have i3 := wr (us.set j u) (vs.set j v) (l2 ++ (ps ++ r2)) rs nd3
                    refine ⟨p0, vs, k, j, rfl, rfl, e5, by rw [e7.length]; exact e8, ?_⟩
                    refine h F2 _ _ σ i3 ?_ Keep.refl
                    have st3 : Step F H os F2 H2 (ps ++ (l ++ ((p0 :: (l2 ++ (q2 ++ r2))) ++ r))) := st1.trans (st2'.frame ps)
                    refine st3.trans (step_write e5 (by simp) fun a ha => ?_)
                    simp only [List.cons_append, List.mem_append, List.mem_cons] at ha ⊢
                    rcases ha with h | h | ⟨h | h | h⟩ | h <;> simp [h]
          | _ => exact h.elim
    · rw [if_neg ho] at h; exact h.elim
end
end Pv

/-! Pv13: lending blocks; paths. -/
namespace Pv
open PySem PySem.Spec PyProof.Rows L2

section
variable {G : Gx} {W : WX} {cl : Str → List U → RC} {P : List Nat} {X : Cx}
def HdR (G : Gx) (F H : Hp) : Option U → Option V → List Addr → Prop
  | none, _, p => p = []
  | some u, x, p => ∃ v, x = some v ∧ RepU G F H u v p
/-- behind a block in which all was lent -/
theorem mix_env {F H F1 H1 : Hp} (hk : ∀ b o, H b = some o → H1 b = some o) : ∀ {f : Nat → Bool} {ρ ρ1 : Env} {σ σ1 : L2.St} {os os1 : List Addr}, RepE G F H ρ σ os → Owns F H os → RepE G F1 H1 ρ1 σ1 os1 → ρ1.length = ρ.length → (∀ j, f j = false → σ1[j]? = σ[j]?) →
    ∃ os2, RepE G F H1 (mixE f ρ ρ1) σ1 os2 ∧ List.Sublist os2 os
  | f, [], [], σ, σ1, os, os1, h, _, h1, _, _ => by
    simp only [RepE] at h h1
    obtain ⟨rfl, rfl⟩ := h
    obtain ⟨rfl, rfl⟩ := h1
    exact ⟨[], by simp [mixE, RepE], List.Sublist.refl _⟩
  | f, o :: ρ, o1 :: ρ1, σ, σ1, os, os1, h, ow, h1, hl, hs => by
    -- the heads and the rests
    have hd : ∃ x r p q, σ = x :: r ∧ os = p ++ q ∧ RepE G F H ρ r q ∧ HdR G F H o x p := by
      cases o with
      | none => simp only [RepE] at h; obtain ⟨x, r, rfl, h⟩ := h; exact ⟨x, r, [], os, rfl, rfl, h, rfl⟩
      | some u => simp only [RepE] at h; obtain ⟨v, r, p, q, rfl, rfl, h1, h2⟩ := h; exact ⟨some v, r, p, q, rfl, rfl, h2, v, rfl, h1⟩
    have hd1 : ∃ x r q, σ1 = x :: r ∧ RepE G F1 H1 ρ1 r q ∧ (∃ p, HdR G F1 H1 o1 x p) := by
      cases o1 with
      | none => simp only [RepE] at h1; obtain ⟨x, r, rfl, h⟩ := h1; exact ⟨x, r, os1, rfl, h, [], rfl⟩
      | some u => simp only [RepE] at h1; obtain ⟨v, r, p, q, rfl, rfl, h1, h2⟩ := h1; exact ⟨some v, r, q, rfl, h2, p, v, rfl, h1⟩
    obtain ⟨x, r, p, q, rfl, rfl, hr, hx⟩ := hd
    obtain ⟨x1, r1, q1, rfl, hr1, hx1⟩ := hd1
    obtain ⟨os2, h2, s2⟩ := mix_env hk (f := fun j => f (j + 1)) hr (fun a ha => ow a (by simp [ha])) hr1 (by simpa using hl) (fun j hj => by simpa using hs (j + 1) hj)
    unfold mixE
    by_cases hf : f 0 = true
    · rw [if_pos hf]
      unfold scalO
      split
      · rename_i d
        obtain ⟨p1, v, rfl, hv⟩ := hx1
        simp only [RepU] at hv
        by_cases hd : d.scalar = true
        · rw [if_pos hd]
          exact ⟨os2, by simp only [RepE]; exact ⟨v, r1, [], os2, rfl, rfl, by simp only [RepU, true_and]; exact hv.2.scalar hd, h2⟩, s2.trans (List.sublist_append_right _ _)⟩
        · rw [if_neg hd]
          exact ⟨os2, by simp only [RepE]; exact ⟨_, r1, rfl, h2⟩, s2.trans (List.sublist_append_right _ _)⟩
      · exact ⟨os2, by simp only [RepE]; exact ⟨_, r1, rfl, h2⟩, s2.trans (List.sublist_append_right _ _)⟩
    · rw [if_neg hf]
      have e0 : x1 = x := by simpa using hs 0 (by simpa using hf)
      rw [e0]
      cases o with
      | none =>
        have hx : p = [] := hx
        subst hx
        exact ⟨os2, by simp only [RepE]; exact ⟨_, r1, rfl, h2⟩, by simpa using s2⟩
      | some u =>
        obtain ⟨v, rfl, hv⟩ := hx
        refine ⟨p ++ os2, by simp only [RepE]; exact ⟨v, r1, p, os2, rfl, rfl, hv.mono (Sub.refl F) (fun a ha => ⟨(ow a (by simp [ha])).2, fun o q => hk a o q⟩), h2⟩, s2.append_left p⟩
theorem brw_out {P ws : List Nat} {n : Nat} {j : Nat} (h : ws.contains j = false) (hj : j < n) : j ∈ brwP P ws n := by
  unfold brwP
  rw [List.mem_append, List.mem_filter]
  exact .inr ⟨List.mem_range.mpr hj, by rw [h]; rfl⟩
theorem ss_brw {ws : List Nat} {s : S} {st : Stmt} (h : SS G W cl X s st) : SS G W cl X (.brw ws s) st := fun P => by
  refine ⟨fun pins sh σ H D I0 ⟨F, ρ, os, I, hq⟩ => (h (brwP P ws ρ.length)).run pins sh σ H D I0 ?_⟩
  have ow := I.env.owns
  have sf : Sub F (addF F H os) := addF_sub fun p hp => (ow p hp).2
  have shh : Sub (addF F H os) H := addF_le I.sub
  refine ⟨addF F H os, frzE ρ, [], ⟨shh, I.env.freeze sf fun p hp o e => by rw [addF_in hp]; exact e, List.nodup_nil⟩, ?_⟩
  simp only [evS] at hq
  -- what is so behind it
  have back : ∀ {F1 H1 : Hp} {os1 : List Addr} {σ1 : L2.St} {ρ1 : Env}, Inv2 G F1 H1 ρ1 σ1 os1 → (∀ b o, H b = some o → H1 b = some o) → Keep (brwP P ws ρ.length) σ σ1 → ρ1.length = ρ.length →
      ∃ os2, RepE G F H1 (mixE (fun j => ws.contains j) ρ ρ1) σ1 os2 ∧ List.Sublist os2 os := fun {F1 H1 os1 σ1 ρ1} i1 hk kp hl =>
    mix_env hk I.env ow i1.env hl fun j hj => by
      by_cases hb : j < ρ.length
      · exact kp j (brw_out hj hb)
      · have l1 := I.env.length
        have l2 := i1.env.length
        rw [List.getElem?_eq_none (by omega), List.getElem?_eq_none (by omega)]
  have kpP : ∀ {σ1 : L2.St}, Keep (brwP P ws ρ.length) σ σ1 → Keep P σ σ1 := fun kp i hi => kp i (by unfold brwP; simp [hi])
  cases hr : evS cl s (brwP P ws ρ.length) (frzE ρ) with
  | bad => rw [hr] at hq; exact hq
  | bk ρ1 => rw [hr] at hq; exact hq.elim
  | ct ρ1 => rw [hr] at hq; exact hq.elim
  | nx ρ1 =>
    rw [hr] at hq
    simp only at hq
    by_cases hl : ρ1.length = ρ.length
    · rw [if_pos hl] at hq
      intro F1 H1 os1 σ1 i1 st1 kp
      have hk : ∀ b o, H b = some o → H1 b = some o := fun b o e => st1.h b o e (by simp)
      obtain ⟨os2, h2, s2⟩ := back i1 hk kp hl
      exact hq F H1 os2 σ1 ⟨fun b o e => hk b o (I.sub b o e), h2, I.nd.sublist s2⟩ ⟨Sub.refl F, fun _ h => .inl h, fun b o e _ => hk b o e, st1.t, fun a ha => .inl (s2.subset ha)⟩ (kpP kp)
    · rw [if_neg hl] at hq; exact hq.elim
  | rt u ρ1 =>
    rw [hr] at hq
    simp only at hq
    by_cases hc : (u.clean && decide (ρ1.length = ρ.length)) = true
    · rw [if_pos hc] at hq
      rw [Bool.and_eq_true, decide_eq_true_eq] at hc
      intro F1 H1 os1 σ1 v ps i1 r1 nd1 st1 kp
      have hk : ∀ b o, H b = some o → H1 b = some o := fun b o e => st1.h b o e (by simp)
      have hps : ∀ p ∈ ps, H p = none := fun p hp => by
        rcases st1.o p (by simp [hp]) with z | z
        · simp at z
        · exact z
      have hpF : ∀ p ∈ ps, F p = none := fun p hp => I.sub.none (hps p hp)
      obtain ⟨os2, h2, s2⟩ := back i1 hk kp hc.2
      refine hq F H1 os2 σ1 v ps ⟨fun b o e => hk b o (I.sub b o e), h2, I.nd.sublist s2⟩ (r1.clean hpF hc.1) ?_ ⟨Sub.refl F, fun _ h => .inl h, fun b o e _ => hk b o e, st1.t, fun a ha => ?_⟩ (kpP kp)
      · rw [List.nodup_append]
        refine ⟨(List.nodup_append.mp nd1).1, I.nd.sublist s2, fun a ha b hb e => ?_⟩
        subst e
        obtain ⟨⟨vs, e1⟩, _⟩ := ow a (s2.subset hb)
        rw [hps a ha] at e1; cases e1
      · rcases List.mem_append.mp ha with ha | ha
        · exact .inr (hps a ha)
        · exact .inl (s2.subset ha)
    · rw [if_neg hc] at hq; exact False.elim hq
  | ex c v ρ1 =>
    rw [hr] at hq
    simp only at hq
    by_cases hc : (v.scalar && decide (ρ1.length = ρ.length)) = true
    · rw [if_pos hc] at hq
      rw [Bool.and_eq_true, decide_eq_true_eq] at hc
      intro F' H' os' σ1 C a w I' hm ha hrv st kp
      have hk : ∀ b o, H b = some o → H' b = some o := fun b o e => st.h b o e (by simp)
      obtain ⟨os2, h2, s2⟩ := back I' hk kp hc.2
      by_cases hFa : F a = some (.xd [(("value" : Str), w)])
      · exact hq F H' os2 σ1 C a w ⟨fun b o e => hk b o (I.sub b o e), h2, I.nd.sublist s2⟩ hm hFa (hrv.scalar hc.1) ⟨Sub.refl F, fun _ h => .inl h, fun b o e _ => hk b o e, st.t, fun x hx => .inl (s2.subset hx)⟩ (kpP kp)
      · have hn : a ∉ os := fun hp => by
          obtain ⟨⟨vs, e1⟩, _⟩ := ow a hp
          have := I'.sub a _ ha
          rw [hk a _ e1] at this; cases this
        have hHn : H a = none := by
          rcases st.n a (by rw [ha]; simp) with z | z | z
          · rw [addF_out hn] at z
            cases q : F a with
            | none => exact absurd q z
            | some o =>
              exfalso
              have e1 := hk a o (I.sub a o q)
              rw [I'.sub a _ ha] at e1
              cases e1
              exact hFa q
          · simp at z
          · exact z
        have hFn : F a = none := I.sub.none hHn
        refine hq (upd F a (.xd [(("value" : Str), w)])) H' os2 σ1 C a w ⟨fun b o e => ?_, h2.mono (Sub.upd hFn) fun p hp => ⟨?_, fun o e => e⟩, I.nd.sublist s2⟩ hm upd_same (hrv.scalar hc.1) ⟨Sub.upd hFn, fun b hb => ?_, fun b o e _ => hk b o e, st.t, fun x hx => .inl (s2.subset hx)⟩ (kpP kp)
        · by_cases eb : b = a
          · subst eb; rw [upd_same] at e; rw [← e]; exact I'.sub b _ ha
          · rw [upd_ne eb] at e; exact hk b o (I.sub b o e)
        · rw [upd_ne (fun e => hn (by rw [← e]; exact s2.subset hp))]; exact (ow p (s2.subset hp)).2
        · by_cases eb : b = a
          · exact .inr (.inr (by rw [eb]; exact hHn))
          · rw [upd_ne eb] at hb; exact .inl hb
    · rw [if_neg hc] at hq; exact False.elim hq

/-! ### paths -/
def WalkP (K : PySem.W.Frag) (H : Hp) : List Nat → V → V → Prop
  | [], v, w => v = w
  | n :: p, v, w => ∃ a vs x, v = .ref a ∧ (SqL K H a vs ∨ SqT K H a vs) ∧ vs[n]? = some x ∧ WalkP K H p x w
def tPath (K : PySem.W.Frag) (i : Nat) (p : List Nat) : TE := fun σ H Q => ∃ v w, σ[i]? = some (some v) ∧ WalkP K H p v w ∧ Q w H
theorem WalkP.split {K : PySem.W.Frag} {H : Hp} {n : Nat} : ∀ {p : List Nat} {v w : V}, WalkP K H (p ++ [n]) v w → ∃ u a vs, WalkP K H p v u ∧ u = .ref a ∧ (SqL K H a vs ∨ SqT K H a vs) ∧ vs[n]? = some w
  | [], v, w, h => by
    simp only [List.nil_append, WalkP] at h
    obtain ⟨a, vs, x, e1, e2, e3, rfl⟩ := h
    exact ⟨v, a, vs, rfl, e1, e2, e3⟩
  | m :: p, v, w, h => by
    simp only [List.cons_append, WalkP] at h ⊢
    obtain ⟨a, vs, x, e1, e2, e3, h⟩ := h
    obtain ⟨u, b, ws, h1, h2, h3, h4⟩ := WalkP.split h
    exact ⟨u, b, ws, ⟨a, vs, x, e1, e2, e3, h1⟩, h2, h3, h4⟩
theorem atI_nat {α : Type} {xs : List α} {n : Nat} {x : α} (h : xs[n]? = some x) : atI xs (n : Int) = some x := by
  have hl := (List.getElem?_eq_some_iff.mp h).1
  unfold atI L2.ixN
  rw [if_pos (by omega), if_pos (by omega)]
  simpa using h
theorem pe_path0 {i : Nat} {x : Str} {p : Pos} (hN : X.N[i]? = some x) (hv : visB X.env.scope x = true) (hp : plainN x = true) : PE X (.Name x p) (tPath X.K i []) := by
  simp only [plainN, Bool.and_eq_true, Bool.not_eq_true'] at hp
  refine PE.imp (pe_var hN (vis_of hv) hp.1.1 hp.1.2) fun σ H Q ⟨v, w, e1, e2, q⟩ => ?_
  simp only [WalkP] at e2
  subst e2
  exact ⟨v, e1, q⟩
theorem pe_path1 {i n : Nat} {path : List Nat} {e : Expr} {k : Nat} {p pos : Pos} (he : PE X e (tPath X.K i path)) : PE X (.Subscript e (.Constant (.int n) k p) pos) (tPath X.K i (path ++ [n])) := by
  refine PE.imp (pe_ix ix_seq he pe_int (plainIx_of rfl)) fun σ H Q ⟨v, w, e1, e2, q⟩ => ?_
  obtain ⟨u, a, vs, h1, rfl, h3, h4⟩ := e2.split
  refine ⟨v, .ref a, e1, h1, ?_⟩
  rcases h3 with h3 | h3
  · exact .inl ⟨a, vs, n, w, rfl, rfl, h3, atI_nat h4, q⟩
  · exact .inr (.inl ⟨a, vs, n, w, rfl, rfl, h3, atI_nat h4, q⟩)
/-- an own list at the end of a path -/
theorem mod_at {F H : Hp} (sub : Sub F H) : ∀ {path : List Nat} {w : U} {v : V} {ps : List Addr} {us : List U}, RepU G F H w v ps → getU path w = some (.ul us) →
    ∃ p0 vs l qs r, WalkP G.K H path v (.ref p0) ∧ ps = l ++ ((p0 :: qs) ++ r) ∧ H p0 = some (.lst vs) ∧ RepUs G F H us vs qs ∧
      ∀ {F' H' : Hp} {us' : List U} {vs' : List V} {qs' : List Addr} {w' : U}, Sub F F' → (∀ a ∈ l ++ r, F' a = none ∧ ∀ o, H a = some o → H' a = some o) → H' p0 = some (.lst vs') → F' p0 = none → RepUs G F' H' us' vs' qs' → modU (fun _ => some us') path w = some w' →
        RepU G F' H' w' v (l ++ ((p0 :: qs') ++ r))
  | [], w, v, ps, us, h, e => by
    simp only [getU] at e
    cases e
    simp only [RepU] at h
    obtain ⟨p, vs, qs, rfl, rfl, h1, h2, h3⟩ := h
    refine ⟨p, vs, [], qs, [], rfl, by simp, h1, h3, fun sf k e1 e2 e3 e4 => ?_⟩
    simp only [modU, Option.map_some] at e4
    cases e4
    simp only [RepU, List.nil_append, List.append_nil]
    exact ⟨p, _, _, rfl, rfl, e1, e2, e3⟩
  | n :: path, .fz d, v, ps, us, h, e => by simp [getU] at e
  | n :: path, .ul ws, v, ps, us, h, e => by
    simp only [getU] at e
    cases en : ws[n]? with
    | none => rw [en] at e; cases e
    | some u =>
      rw [en] at e
      simp only [RepU] at h
      obtain ⟨p, vs, qs, rfl, rfl, h1, h2, h3⟩ := h
      obtain ⟨x, l, q, r, g1, rfl, g2, _, g3⟩ := RepUs.at h3 en
      obtain ⟨p0, vs0, l0, qs0, r0, k1, rfl, k2, k3, k4⟩ := mod_at sub (path := path) g2 e
      refine ⟨p0, vs0, p :: (l ++ l0), qs0, r0 ++ r, ⟨p, vs, x, rfl, .inl (.inl (.inl h1)), g1, k1⟩, by simp, k2, k3, fun sf k e1 e2 e3 e4 => ?_⟩
      simp only [modU, en, Option.map_eq_some_iff] at e4
      obtain ⟨u', e5, rfl⟩ := e4
      have := k4 sf (fun a ha => k a (by rcases List.mem_append.mp ha with h | h <;> simp [h])) e1 e2 e3 e5
      have := g3 sf (fun a ha => k a (by rcases List.mem_append.mp ha with h | h <;> simp [h])) this
      simp only [RepU]
      refine ⟨p, vs, _, rfl, ?_, (k p (by simp)).2 _ h1, (k p (by simp)).1, this⟩
      simp
  | n :: path, .ut ws, v, ps, us, h, e => by
    simp only [getU] at e
    cases en : ws[n]? with
    | none => rw [en] at e; cases e
    | some u =>
      rw [en] at e
      simp only [RepU] at h
      obtain ⟨a, vs, rfl, h1, h3⟩ := h
      obtain ⟨x, l, q, r, g1, rfl, g2, _, g3⟩ := RepUs.at h3 en
      obtain ⟨p0, vs0, l0, qs0, r0, k1, rfl, k2, k3, k4⟩ := mod_at sub (path := path) g2 e
      refine ⟨p0, vs0, l ++ l0, qs0, r0 ++ r, ⟨a, vs, x, rfl, .inr (.inl (.inl (sub _ _ h1))), g1, k1⟩, by simp, k2, k3, fun sf k e1 e2 e3 e4 => ?_⟩
      simp only [modU, en, Option.map_eq_some_iff] at e4
      obtain ⟨u', e5, rfl⟩ := e4
      have := k4 sf (fun a ha => k a (by rcases List.mem_append.mp ha with h | h <;> simp [h])) e1 e2 e3 e5
      have := g3 sf (fun a ha => k a (by rcases List.mem_append.mp ha with h | h <;> simp [h])) this
      simp only [RepU]
      refine ⟨a, vs, rfl, sf _ _ h1, ?_⟩
      simpa using this
theorem modU_get {f : List U → Option (List U)} : ∀ {path : List Nat} {w w' : U}, modU f path w = some w' → ∃ us us', getU path w = some (.ul us) ∧ f us = some us' ∧ modU (fun _ => some us') path w = some w'
  | [], .ul us, w', h => by
    simp only [modU, Option.map_eq_some_iff] at h
    obtain ⟨us', h1, rfl⟩ := h
    exact ⟨us, us', rfl, h1, by simp [modU]⟩
  | [], .fz _, w', h => by simp [modU] at h
  | [], .ut _, w', h => by simp [modU] at h
  | n :: path, .fz _, w', h => by simp [modU] at h
  | n :: path, .ul ws, w', h => by
    simp only [modU, getU] at h ⊢
    cases en : ws[n]? with
    | none => rw [en] at h; cases h
    | some u =>
      rw [en] at h
      simp only [Option.map_eq_some_iff] at h
      obtain ⟨u', h1, rfl⟩ := h
      obtain ⟨us, us', k1, k2, k3⟩ := modU_get h1
      exact ⟨us, us', k1, k2, by simp [k3]⟩
  | n :: path, .ut ws, w', h => by
    simp only [modU, getU] at h ⊢
    cases en : ws[n]? with
    | none => rw [en] at h; cases h
    | some u =>
      rw [en] at h
      simp only [Option.map_eq_some_iff] at h
      obtain ⟨u', h1, rfl⟩ := h
      obtain ⟨us, us', k1, k2, k3⟩ := modU_get h1
      exact ⟨us, us', k1, k2, by simp [k3]⟩
theorem se_appP {i : Nat} {path : List Nat} {e : E} {re ee : Expr} {apos pos : Pos} (hK : X.K = G.K) (hr : PE X re (tPath X.K i path)) (hb : attributeBase re "append" X.env (eval re X.env) = eval re X.env) (se : SE G W cl P X e ee) (hn : notStar ee = true) (hl : (apos.endLine == pos.line) = true) :
    SE G W cl P X (.appP i path e) (.Call (.Attribute re "append" apos) [ee] [] pos) := by
  have h : PE X (.Call (.Attribute re "append" apos) [ee] [] pos) (TEr G W cl P (.appP i path e)) := by
    refine PE.imp (pe_bm PySem.F.plainAttrs_list PySem.F.slot_list_append PySem.F.type_list_append mt_append hr (pa_cons se.pe pa_nil (starEach_of hn)) hb (by rw [starEach_of hn]; rfl) hl (starEach_of hn) rfl) fun σ H Q ⟨F, ρ, os, I, h⟩ => ?_
    simp only [evE] at h
    cases e1 : ρ[i]? with
    | none => rw [e1] at h; exact h.elim
    | some o =>
      cases o with
      | none => rw [e1] at h; exact h.elim
      | some w =>
        rw [e1] at h
        simp only at h
        obtain ⟨v, l, p, r, s1, rfl, r1, h0, _⟩ := I.env.split e1
        have nd0 := nodup_mid I.nd
        have I0 : Inv2 G F H (ρ.set i none) σ (l ++ r) := ⟨I.sub, h0, (List.nodup_append.mp nd0).2.1⟩
        cases e2 : evE cl P e (ρ.set i none) with
        | bad => rw [e2] at h; exact h.elim
        | ex c v ρ1 => rw [e2] at h; exact h.elim
        | ok u ρ1 =>
          rw [e2] at h
          simp only at h
          cases e3 : modU (fun us => if us.length < LIM then some (us ++ [u]) else none) path w with
          | none => rw [e3] at h; exact h.elim
          | some w' =>
            rw [e3] at h
            obtain ⟨us, us', g1, g2, g3⟩ := modU_get e3
            by_cases hz : us.length < LIM
            · rw [if_pos hz] at g2
              cases g2
              obtain ⟨p0, vs, l0, qs, r0, k1, rfl, k2, k3, k4⟩ := mod_at I.sub r1 g1
              refine ⟨v, .ref p0, s1, by rw [hK]; exact k1, .inl ⟨rfl, vs, .inl (.inl k2)⟩, F, ρ.set i none, l ++ r, I0, ?_⟩
              rw [e2]
              intro F1 H1 os1 x ps i1 rx nd1 st1 lk
              cases e4 : ρ1[i]? with
              | none => rw [e4] at h; exact h.elim
              | some o =>
                cases o with
                | some _ => rw [e4] at h; exact h.elim
                | none =>
                  rw [e4] at h
                  have own : Owns F H (l0 ++ ((p0 :: qs) ++ r0)) := r1.owns
                  have dis := disj_of nd0
                  have nall : ((l0 ++ ((p0 :: qs) ++ r0)) ++ (ps ++ os1)).Nodup := nodup_step nd0 own st1 nd1
                  have hp0 : H1 p0 = some (.lst vs) := st1.h p0 _ k2 (dis p0 (by simp))
                  have keepF : ∀ a ∈ l0 ++ ((p0 :: qs) ++ r0), F1 a = none := fun a ha => by
                    cases q : F1 a with
                    | none => rfl
                    | some z =>
                      exfalso
                      obtain ⟨⟨ws, y1⟩, y2⟩ := own a ha
                      rcases st1.n a (by rw [q]; simp) with z | z | z
                      · exact z y2
                      · exact dis a ha z
                      · rw [y1] at z; cases z
                  have hrow : RepUs G F1 H1 us vs qs := st1.keepUs k3 fun a ha => dis a (by simp [ha])
                  refine ⟨p0, vs, x, rfl, rfl, hp0, by rw [k3.length]; exact lim_lt hz, ?_⟩
                  have ndp := (List.nodup_append.mp nall).1
                  have n0 : ∀ a ∈ l0 ++ (qs ++ r0), a ≠ p0 := fun a ha z => by
                    subst z
                    have := (List.Perm.nodup_iff (List.perm_middle (a := a) (l₁ := l0) (l₂ := qs ++ r0))).mp (by simpa using ndp)
                    exact (List.nodup_cons.mp this).1 ha
                  have n1 : ∀ a ∈ ps ++ os1, a ≠ p0 := fun a ha z => by
                    subst z
                    exact (List.nodup_append.mp nall).2.2 a (by simp) a ha rfl
                  have rw1 := k4 (F' := F1) (H' := upd H1 p0 (.lst (vs ++ [x]))) (us' := us ++ [u]) (vs' := vs ++ [x]) (qs' := qs ++ ps) (w' := w') st1.f (fun a ha => ⟨keepF a (by rcases List.mem_append.mp ha with h | h <;> simp [h]), fun o q => by
                      rw [upd_ne (n0 a (by rcases List.mem_append.mp ha with h | h <;> simp [h]))]
                      exact st1.h a o q (dis a (by rcases List.mem_append.mp ha with h | h <;> simp [h]))⟩) upd_same (keepF p0 (by simp))
                    ((hrow.mono (Sub.refl F1) fun a ha => ⟨(hrow.owns a ha).2, fun o q => by rw [upd_ne (n0 a (by simp [ha]))]; exact q⟩).append (RepUs.single (rx.mono (Sub.refl F1) fun a ha => ⟨(rx.owns a ha).2, fun o q => by rw [upd_ne (n1 a (by simp [ha]))]; exact q⟩))) g3
                  have env1 : RepE G F1 (upd H1 p0 (.lst (vs ++ [x]))) ρ1 σ os1 := i1.env.mono (Sub.refl F1) fun a ha => ⟨(i1.env.owns a ha).2, fun o q => by rw [upd_ne (n1 a (by simp [ha]))]; exact q⟩
                  obtain ⟨l2, r2, rfl, fl⟩ := env1.fill e4 rw1
                  rw [set_self s1] at fl
                  have pm : ((l0 ++ ((p0 :: qs) ++ r0)) ++ (ps ++ (l2 ++ r2))).Perm (l2 ++ ((l0 ++ ((p0 :: (qs ++ ps)) ++ r0)) ++ r2)) := by
                    refine List.perm_iff_count.mpr fun a => ?_
                    simp only [List.count_append, List.count_cons]
                    omega
                  have st2 : Step F H (l ++ ((l0 ++ ((p0 :: qs) ++ r0)) ++ r)) F1 H1 ((l0 ++ ((p0 :: qs) ++ r0)) ++ (ps ++ (l2 ++ r2))) := (st1.frame (l0 ++ ((p0 :: qs) ++ r0))).weak (fun a ha => (List.perm_append_comm_assoc _ _ _).mem_iff.mp ha) fun a ha => .inl ha
                  refine h F1 _ _ .non [] ⟨fun a o q => ?_, fl, (List.Perm.nodup_iff pm).mp nall⟩ (by simp [RepU, Rep]) (by simpa using (List.Perm.nodup_iff pm).mp nall) (st2.trans (step_write hp0 (by simp) fun a ha => pm.mem_iff.mpr (by simpa using ha))) (by simp [Lk])
                  by_cases ea : a = p0
                  · rw [ea, keepF p0 (by simp)] at q; cases q
                  · rw [upd_ne ea]; exact i1.sub a o q
            · rw [if_neg hz] at g2; cases g2
  exact ⟨h, pt_val h⟩
end
end Pv

/-! Pv14: calls. -/
namespace Pv
open PySem PySem.Spec PyProof.Rows L2

section
/-- a def's promise, as it computes -/
def SpF (G : Gx) (cf : Str → List U → RC) (f : Str) (np : Nat) : Sp := fun vs H Q E => ∃ F us ps, Sub F H ∧ RepUs G F H us vs ps ∧ ps.Nodup ∧ us.length = np ∧ match cf f us with
  | .ok u os => ∀ F' H' v pu qs, Sub F' H' → RepU G F' H' u v pu → RepE G F' H' os (vs.map some) qs → (pu ++ qs).Nodup → Step F H ps F' H' (pu ++ qs) → Q v H'
  | .ex c dv os => ∀ F' H' qs C a v, Sub F' H' → RepE G F' H' os (vs.map some) qs → qs.Nodup → G.mg c = some (.ref C) → F' a = some (.xd [(("value" : Str), v)]) → Rep G F' dv v → Step F H ps F' H' qs → E (.ref C) (some a) H'
  | .bad => False
variable {G : Gx} {W : WX} {cl : Str → List U → RC} {P : List Nat} {X : Cx}
theorem put_env {F H : Hp} : ∀ {es : Es} {os : List (Option U)} {vs : List V} {ρ ρ2 : Env} {σ : L2.St} {os1 qs : List Addr}, RepE G F H ρ σ os1 → RepE G F H os (vs.map some) qs → Lks es σ vs → putB es os ρ = some ρ2 →
    ∃ os2 q, RepE G F H ρ2 σ os2 ∧ List.Sublist q qs ∧ os2.Perm (os1 ++ q) := by
  intro es
  induction es using Es.rec (motive_1 := fun _ => True) with
  | nil =>
    intro os vs ρ ρ2 σ os1 qs h1 h2 lk e
    simp only [putB] at e
    cases e
    exact ⟨os1, [], h1, by simp, by simp⟩
  | cons e es _ ih =>
    intro os vs ρ ρ2 σ os1 qs h1 h2 lk e1
    cases os with
    | nil => cases e <;> simp [putB] at e1
    | cons o os =>
      -- the head
      cases vs with
      | nil =>
        have := h2.length
        simp at this
      | cons v vs =>
        have hd : ∃ p q, qs = p ++ q ∧ RepE G F H os (vs.map some) q ∧ HdR G F H o (some v) p := by
          cases o with
          | none => simp only [RepE, List.map_cons] at h2; obtain ⟨x, r, e, h⟩ := h2; cases e; exact ⟨[], qs, rfl, h, rfl⟩
          | some u => simp only [RepE, List.map_cons] at h2; obtain ⟨w, r, p, q, e, rfl, h3, h4⟩ := h2; cases e; exact ⟨p, q, rfl, h4, v, rfl, h3⟩
        obtain ⟨p, q, rfl, h3, h4⟩ := hd
        simp only [Lks] at lk
        have plain : putB es os ρ = some ρ2 → ∃ os2 q', RepE G F H ρ2 σ os2 ∧ List.Sublist q' (p ++ q) ∧ os2.Perm (os1 ++ q') := fun e2 => by
          obtain ⟨os2, q', g1, g2, g3⟩ := ih h1 h3 lk.2 e2
          exact ⟨os2, q', g1, g2.trans (List.sublist_append_right _ _), g3⟩
        cases e with
        | mv i =>
          cases o with
          | none => exact plain (by simpa only [putB] using e1)
          | some u =>
            obtain ⟨w, e3, h5⟩ := h4
            cases e3
            simp only [putB] at e1
            split at e1
            · rename_i e4
              obtain ⟨l, r, rfl, f⟩ := h1.fill e4 h5
              rw [set_self lk.1] at f
              obtain ⟨os2, q', g1, g2, g3⟩ := ih f h3 lk.2 e1
              refine ⟨os2, p ++ q', g1, g2.append_left p, g3.trans ?_⟩
              refine List.perm_iff_count.mpr fun a => ?_
              simp only [List.count_append]
              omega
            · cases e1
        | _ => exact plain (by simpa only [putB] using e1)
  | _ => trivial
theorem call_core {f : Str} {np : Nat} {es : Es} {e : E} {σ : L2.St} {Q : VK} {F0 H0 : Hp} {os0 : List Addr} {us : List U} {ρ1 : Env} (hn : ∀ us, cl f us ≠ .bad → us.length = np) (hlk : ∀ σ v, Lk e σ v)
    {F1 H1 : Hp} {os1 ps : List Addr} {vs : List V} (i1 : Inv2 G F1 H1 ρ1 σ os1) (r1 : RepUs G F1 H1 us vs ps) (nd1 : (ps ++ os1).Nodup) (st1 : Step F0 H0 os0 F1 H1 (ps ++ os1)) (lk : Lks es σ vs)
    (h : GE G W e (match cl f us with
        | .ok u os => (match putB es os ρ1 with
          | some ρ2 => R.ok u ρ2
          | none => .bad)
        | .ex c v os => (match putB es os ρ1 with
          | some ρ2 => .ex c v ρ2
          | none => .bad)
        | .bad => .bad) F0 H0 os0 σ Q) : SpF G cl f np vs H1 Q (WE W σ) := by
    have hnb : cl f us ≠ .bad := fun z => by rw [z] at h; exact h
    refine ⟨F1, us, ps, i1.sub, r1, (List.nodup_append.mp nd1).1, hn us hnb, ?_⟩
    have own1 : Owns F1 H1 os1 := i1.env.owns
    have dis := disj_of' nd1
    have ndc : (os1 ++ ps).Nodup := (List.Perm.nodup_iff List.perm_append_comm).mp nd1
    cases e2 : cl f us with
    | bad => exact absurd e2 hnb
    | ok u os' =>
      rw [e2] at h
      simp only at h
      cases e3 : putB es os' ρ1 with
      | none => rw [e3] at h; exact h.elim
      | some ρ2 =>
        rw [e3] at h
        intro F2 H2 v pu qs sub2 ru re nd2 st2
        have env1 : RepE G F2 H2 ρ1 σ os1 := st2.keepE i1.env dis
        obtain ⟨os2, q, g1, g2, g3⟩ := put_env env1 re lk e3
        have nall : (os1 ++ (pu ++ qs)).Nodup := nodup_step ndc own1 st2 nd2
        have nd3 : (os1 ++ (pu ++ q)).Nodup := nall.sublist ((g2.append_left pu).append_left os1)
        have pm : (os1 ++ (pu ++ q)).Perm (pu ++ os2) := (List.perm_append_comm_assoc _ _ _).trans (List.Perm.append_left pu g3.symm)
        have nd4 : (pu ++ os2).Nodup := (List.Perm.nodup_iff pm).mp nd3
        have st3 : Step F1 H1 (ps ++ os1) F2 H2 (os1 ++ (pu ++ qs)) := (st2.frame os1).weak (fun a ha => (List.perm_append_comm.mem_iff).mp ha) fun a ha => .inl ha
        refine h F2 H2 os2 v pu ⟨sub2, g1, (List.nodup_append.mp nd4).2.1⟩ ru nd4 ((st1.trans st3).perm fun a ha => ?_) (hlk _ _)
        exact ((g2.append_left pu).append_left os1).subset (pm.mem_iff.mpr ha)
    | ex c dv os' =>
      rw [e2] at h
      simp only at h
      cases e3 : putB es os' ρ1 with
      | none => rw [e3] at h; exact h.elim
      | some ρ2 =>
        rw [e3] at h
        intro F2 H2 qs C a v sub2 re nd2 hm ha hr st2
        have env1 : RepE G F2 H2 ρ1 σ os1 := st2.keepE i1.env dis
        obtain ⟨os2, q, g1, g2, g3⟩ := put_env env1 re lk e3
        have nall : (os1 ++ qs).Nodup := nodup_step ndc own1 st2 nd2
        have nd3 : os2.Nodup := (List.Perm.nodup_iff g3.symm).mp (nall.sublist (g2.append_left os1))
        have st3 : Step F1 H1 (ps ++ os1) F2 H2 (os1 ++ qs) := (st2.frame os1).weak (fun a ha => (List.perm_append_comm.mem_iff).mp ha) fun a ha => .inl ha
        exact h F2 H2 os2 C a v ⟨sub2, g1, nd3⟩ hm ha hr ((st1.trans st3).perm fun x hx => (g2.append_left os1).subset (g3.mem_iff.mp hx))
theorem te_call {f : Str} {np : Nat} {es : Es} {σ : L2.St} {H : Hp} {Q : VK} (hn : ∀ us, cl f us ≠ .bad → us.length = np) (h : TEr G W cl P (.call f es []) σ H Q) : tCallS (SpF G cl f np) (WE W) (TAr G W cl P es) σ H Q := by
  obtain ⟨F, ρ, os, I, h⟩ := h
  refine ⟨F, ρ, os, I, ?_⟩
  simp only [evE] at h
  cases e1 : evEs cl P es ρ with
  | bad => rw [e1] at h; exact h
  | ex c v ρ1 => rw [e1] at h; exact h
  | ok us ρ1 =>
    rw [e1] at h
    simp only at h
    intro F1 H1 os1 vs ps i1 r1 nd1 st1 lk
    exact call_core hn (fun _ _ => by simp [Lk]) i1 r1 nd1 st1 lk h
/-- the first argument is a name: what it holds is looked at behind the others -/
theorem te_callL {f : Str} {np i : Nat} {es : Es} {σ : L2.St} {H : Hp} {Q : VK} (hn : ∀ us, cl f us ≠ .bad → us.length = np) (h : TEr G W cl P (.callL f i es) σ H Q) : tCallS (SpF G cl f np) (WE W) (tCons (tVar i) (TAr G W cl P es)) σ H Q := by
  obtain ⟨F, ρ, os, I, h⟩ := h
  simp only [evE] at h
  by_cases hh : hasAt ρ i = true
  · rw [if_pos hh] at h
    obtain ⟨u00, e0⟩ : ∃ u, ρ[i]? = some (some u) := by
      unfold hasAt at hh
      split at hh
      · exact ⟨_, by assumption⟩
      · cases hh
    obtain ⟨v, _, _, _, ev, _⟩ := I.env.split e0
    refine ⟨v, ev, F, ρ, os, I, ?_⟩
    cases e1 : evEs cl P es ρ with
    | bad => rw [e1] at h; exact h
    | ex c v ρ1 => rw [e1] at h; exact h
    | ok us ρ1 =>
      rw [e1] at h
      simp only at h
      intro F1 H1 os1 vs ps i1 r1 nd1 st1 lk
      cases e2 : ρ1[i]? with
      | none => rw [e2] at h; exact h.elim
      | some o =>
        cases o with
        | none => rw [e2] at h; exact h.elim
        | some u0 =>
          rw [e2] at h
          simp only at h
          obtain ⟨v', l, p, r, ev', rfl, ru0, env', _⟩ := i1.env.split e2
          rw [ev] at ev'
          cases ev'
          have pm : (ps ++ (l ++ (p ++ r))).Perm ((p ++ ps) ++ (l ++ r)) := by
            refine List.perm_iff_count.mpr fun a => ?_
            simp only [List.count_append]
            omega
          have nd2 : ((p ++ ps) ++ (l ++ r)).Nodup := (List.Perm.nodup_iff pm).mp nd1
          refine call_core (es := .cons (.mv i) es) (us := u0 :: us) (vs := v :: vs) (ps := p ++ ps) hn (fun _ _ => by simp [Lk]) ⟨i1.sub, env', (List.nodup_append.mp nd2).2.1⟩ ?_ nd2 (st1.perm fun a ha => pm.mem_iff.mpr ha) ?_ h
          · simp only [RepUs]
            exact ⟨v, vs, p, ps, rfl, rfl, ru0, r1⟩
          · simp only [Lks, Lk]
            exact ⟨ev, lk⟩
  · rw [if_neg hh] at h; exact h.elim

/-! ### by name -/
def pick (perm : List Nat) {α : Type} (xs : List α) : List α := perm.filterMap fun i => xs[i]?
theorem pick_vals {vs : List V} {us : List Value} (h : Vals vs us) : ∀ perm : List Nat, Vals (pick perm vs) (pick perm us)
  | [] => .nil
  | i :: perm => by
    have ih := pick_vals h perm
    have hi : (vs[i]? = none ∧ us[i]? = none) ∨ ∃ v u, vs[i]? = some v ∧ us[i]? = some u ∧ RelV v u := by
      clear ih
      induction h generalizing i with
      | nil => exact .inl ⟨by simp, by simp⟩
      | cons a b ih =>
        cases i with
        | zero => exact .inr ⟨_, _, by simp, by simp, a⟩
        | succ i => simpa using ih i
    unfold pick
    rw [List.filterMap_cons, List.filterMap_cons]
    rcases hi with ⟨e1, e2⟩ | ⟨v, u, e1, e2, r⟩
    · rw [e1, e2]; exact ih
    · rw [e1, e2]; exact .cons r ih
theorem perm_pick {perm : List Nat} {us us2 : List U} (h : permU perm us = some us2) : us2 = pick perm us := by
  unfold permU at h
  induction perm generalizing us2 with
  | nil => simp at h; subst h; rfl
  | cons i perm ih =>
    simp only [List.mapM_cons, Option.pure_def, Option.bind_eq_bind, Option.bind_eq_some_iff] at h
    obtain ⟨a, e1, b, e2, e3⟩ := h
    cases e3
    unfold pick
    rw [List.filterMap_cons, e1]
    rw [ih e2]; rfl
theorem pick_reps {F : Hp} {ds : List D} {vs : List V} (h : Reps G F ds vs) : ∀ perm : List Nat, Reps G F (pick perm ds) (pick perm vs)
  | [] => Reps.nil
  | i :: perm => by
    have ih := pick_reps h perm
    unfold pick
    rw [List.filterMap_cons, List.filterMap_cons]
    cases e : ds[i]? with
    | some d =>
      obtain ⟨v, e1, r⟩ := h.get e
      rw [e1]
      exact Reps.cons r ih
    | none =>
      have : vs[i]? = none := by
        rw [List.getElem?_eq_none_iff] at e ⊢
        rw [h.length]; exact e
      rw [this]
      exact ih
theorem pick_map {α β : Type} (f : α → β) (perm : List Nat) (xs : List α) : pick perm (xs.map f) = (pick perm xs).map f := by
  unfold pick
  rw [List.map_filterMap]
  congr 1
  funext i
  rw [List.getElem?_map]
/-- f(k = v, ..), all by name -/
def tCallK0 (m : Nat) (sp : Sp) (perm : List Nat) (E : L2.St → XK) (tk : TA) : TE := fun σ H Q => tk σ H fun zs H2 => zs.length = m ∧ sp (pick perm zs) H2 Q (E σ)
section
variable {CX : CXT} {k : Nat} {f : Addr} {fd : FuncData} {ps ks : List Str} {sp : Sp} {E : L2.St → XK} {x : Str} {p pos : Pos} {kws : List Keyword} {tk : TA} {perm : List Nat}
theorem run_fnNS {pins : List (Addr × Obj)} {σ : L2.St} {H : Hp} {s : Shared} {Q : VK} {ws : List Value} {zs : List V} (F : FnOk X.prog X.w X.K X.mg X.base CX k f fd ps sp) (hr : Room k X.A) (hb : KBn X.K fd ps 0 ks (fun _ ws => pick perm ws) (fun _ zs => pick perm zs)) (hx : PassesAt CX X σ (E σ))
    (I : Inv X pins σ H s) (rz : Vals zs ws) (l2 : zs.length = ks.length) (h : sp (pick perm zs) H Q (E σ)) : wpAny (model X.prog X.w) X.A (call (.ref f) [] (ks.zip ws)) (EP X pins σ Q) X.xe s := by
  refine wpAny_call (codeAny_mono (F.run X.A X.stack s H ⟨[], ks.zip ws⟩ (pick perm ws) (pick perm zs) Q (E σ) hr I.env0 (hb.to s [] ws I.kIn rfl (rz.length.symm.trans l2)) (pick_vals rz perm) h) fun r s' hq => ?_)
  cases r with
  | error e => exact hx pins H s e s' I hq
  | ok fl =>
    cases fl with
    | ret u => exact I.after hq
    | next => exact False.elim hq
    | brk => exact False.elim hq
    | cont => exact False.elim hq
theorem pe_callN0 (F : FnOk X.prog X.w X.K X.mg X.base CX k f fd ps sp) (hr : Room k X.A) (hg : Gl X x) (hm : X.mg x = some (.ref f)) (hk : PySem.W.keepIn X.K (.ref f) = true) (hb : KBn X.K fd ps 0 ks (fun _ ws => pick perm ws) (fun _ zs => pick perm zs)) (hx : ∀ σ, PassesAt CX X σ (E σ))
    (hkw : PK X kws tk) (hall : (backToKw pos (keywordEach kws X.env)).all (·.1.isSome) = true) (hks : (backToKw pos (keywordEach kws X.env)).filterMap (·.1) = ks)
    (hdb : (x == ("__debug__" : Str)) = false) (hpl : ((backTo pos (starEach [] X.env)).any (·.1) || (backToKw pos (keywordEach kws X.env)).any (·.1.isNone)) = false) :
    PE X (.Call (.Name x p) [] kws pos) (tCallK0 ks.length sp perm E tk) := by
  refine ⟨fun pins s σ H Q I h => ?_⟩
  refine wpAny_Call_Name_kw (ld_glob I hg hm ?_ hdb)
  refine PySem.W.callWith_KW0 (h₀ := X.base) I.ok.mod.kin hk hall ?_ hpl
  refine thn (hkw.run pos pins s σ H _ I h) fun ws s2 ⟨zs, H2, I2, rz, l2, q2⟩ => ⟨I2.kIn, ?_⟩
  rw [hks]
  exact run_fnNS F hr hb (hx σ) I2 rz l2 q2
end
theorem te_callK {f : Str} {np m : Nat} {es : Es} {p : Nat} {perm : List Nat} {σ : L2.St} {H : Hp} {Q : VK} (hm : es.len = m) (hn : ∀ us, cl f us ≠ .bad → us.length = np)
    (h : TEr G W cl P (.call f es (p :: perm)) σ H Q) : tCallK0 m (SpF G cl f np) (p :: perm) (WE W) (TAr G W cl P es) σ H Q := by
  obtain ⟨F, ρ, os, I, h⟩ := h
  refine ⟨F, ρ, os, I, ?_⟩
  simp only [evE] at h
  cases e1 : evEs cl P es ρ with
  | bad => rw [e1] at h; exact h
  | ex c v ρ1 => rw [e1] at h; exact h
  | ok us ρ1 =>
    rw [e1] at h
    simp only at h
    intro F1 H1 os1 vs ps i1 r1 nd1 st1 lk
    refine ⟨by rw [r1.length, evEs_len es e1, hm], ?_⟩
    cases ea : es.anyMv with
    | true => rw [ea] at h; exact h.elim
    | false =>
      cases e2 : permU (p :: perm) (fzs (Us.d us)) with
      | none => rw [ea, e2] at h; exact h.elim
      | some us2 =>
        rw [ea, e2] at h
        simp only at h
        obtain ⟨i2, s2⟩ := share i1 r1.owns nd1
        have rs := pick_reps (share_reps r1) (p :: perm)
        have eu := perm_pick e2
        rw [fzs, pick_map] at eu
        have hnb : cl f us2 ≠ .bad := fun z => by rw [z] at h; exact h
        refine ⟨addF F1 H1 ps, us2, [], i2.sub, by rw [eu]; exact RepUs.fzs rs, List.nodup_nil, hn us2 hnb, ?_⟩
        cases e3 : cl f us2 with
        | bad => exact absurd e3 hnb
        | ex c dv os' =>
          rw [e3] at h
          intro F2 H2 qs C a v sub2 re nd2 hm ha hr st2
          have env1 : RepE G F2 H2 ρ1 σ os1 := st2.keepE i2.env fun _ _ h => by simp at h
          exact h F2 H2 os1 C a v ⟨sub2, env1, i1.nd⟩ hm ha hr ((st1.trans (s2.trans ((st2.frame os1).weak (fun a ha => by simpa using ha) fun a ha => .inl ha))).perm fun a ha => by simp [ha])
        | ok u os' =>
          rw [e3] at h
          intro F2 H2 v pu qs sub2 ru re nd2 st2
          have env1 : RepE G F2 H2 ρ1 σ os1 := st2.keepE i2.env fun _ _ h => by simp at h
          have nall : (os1 ++ (pu ++ qs)).Nodup := nodup_step (by simpa using i2.nd) i2.env.owns st2 nd2
          have nd3 : (pu ++ os1).Nodup := by
            refine (List.Perm.nodup_iff List.perm_append_comm).mp (nall.sublist ?_)
            exact (List.sublist_append_left pu qs).append_left os1
          refine h F2 H2 os1 v pu ⟨sub2, env1, i1.nd⟩ ru nd3 ((st1.trans (s2.trans ((st2.frame os1).weak (fun a ha => by simpa using ha) fun a ha => .inl ha))).perm fun a ha => ?_) (by simp [Lk])
          rcases List.mem_append.mp ha with h | h <;> simp [h]
end
end Pv

/-! Pv15: sum of lists, more operations. -/
namespace Pv
open PySem PySem.Spec PyProof.Rows L2

namespace SL
theorem args_sum2 (a b : Value) : argsOk "sum" ⟨[a, b], []⟩ := by unfold argsOk; kernel_rfl
theorem sub_list_str : isSubtype (.type "list") (.type "str") = pure false := by rw [isSubtype_type]; kernel_rfl
theorem sub_list_bytes : isSubtype (.type "list") (.type "bytes") = pure false := by rw [isSubtype_type]; kernel_rfl
theorem sub_list_bytearray : isSubtype (.type "list") (.type "bytearray") = pure false := by rw [isSubtype_type]; kernel_rfl
section
variable {prog : Program} {w : World} {A : Around} {E : Value → Shared → Prop} {s : Shared}
theorem concat {l b : Addr} {xs ys : List Value} {Q : Value → Shared → Prop} (hl : s.heap.IsList l xs.toArray) (hb : s.heap.IsList b ys.toArray) (hz : xs.length + ys.length ≤ sizeLine)
    (h : Q (.ref s.heap.objs.size) { s with heap := s.heap.push { cls := .type "list", data := .seq (xs ++ ys).toArray } }) : wpAny (model prog w) A (binaryOp .Add (.ref l) (.ref b)) Q E s := by
  obtain ⟨⟨cls, dd, data, sl⟩, ho, hc, n, hd⟩ := hl
  obtain ⟨⟨cls2, dd2, data2, sl2⟩, ho2, hc2, n2, hd2⟩ := hb
  simp only at hc hd hc2 hd2
  subst hc hd hc2 hd2
  refine concat_meets ⟨_, ho, rfl⟩ ⟨_, ho2, rfl⟩ noFill_list_add seq_list_add PySem.F.slot_list_add PySem.F.entry_list_add (PySem.F.args_list_add_2 _ _) (list_addW l b xs.toArray ys.toArray n n2 dd dd2 sl sl2 (by simp only [List.size_toArray]; omega)) ⟨ho, ho2, ?_⟩
  have ea : xs.toArray ++ ys.toArray = (xs ++ ys).toArray := by simp
  rw [ea]
  exact h
end
section
variable {prog : Program} {w : World} {A : Around} {R : Result → Shared → Prop} {I : Addr} {fp wr : List Addr} {n : Nat} {P : Nat → Value → Prop} {St : Nat → Heap → Prop}
theorem loop (W : Walks prog w A.in1 I fp wr n P St) (la : Nat → Addr) (L : Nat → List Value) (hval : ∀ i v, i < n → P i v → v = .ref (la i)) (h0 : Heap) (hl : ∀ i, i < n → h0.IsList (la i) (L i).toArray)
    (hz : (((List.range n).map L).flatten).length ≤ sizeLine) (S : Addr) (hSf : ∀ b ∈ fp, b < S) (hwr : ∀ b o, h0.get? b = some o → b ∉ wr) (hS0 : ∀ b o, h0.get? b = some o → b < S) :
    ∀ (k i : Nat) (s : Shared) (T : Addr) (c : Nat), n - i = k → i ≤ n → St i s.heap → (∀ b o, h0.get? b = some o → s.heap.get? b = some o) → s.heap.get? S = some { cls := .type "list", dict := none, data := .seq #[.ref T] c, slots := #[] } →
      s.heap.IsList T (((List.range i).map L).flatten).toArray → T ≠ S → T ∉ wr → (0 < i → S < T ∧ ∃ m, s.heap.get? T = some { cls := .type "list", data := .seq (((List.range i).map L).flatten).toArray m }) →
      (∀ h' tk T', (∀ b o, h0.get? b = some o → h'.get? b = some o) → h'.IsList T' (((List.range n).map L).flatten).toArray → (n = i → T' = T) → (0 < n → S < T' ∧ ∃ m, h'.get? T' = some { cls := .type "list", data := .seq (((List.range n).map L).flatten).toArray m }) → R (.ok (.ret (.ref T'))) { s with heap := h', toks := tk }) →
      codeAny (model prog w) A (.builtin "sum.loop" ⟨[.ref I, .ref S, rawInt 2, rawInt 0], []⟩) R s := by
  have hSw : S ∉ wr := fun h => Nat.lt_irrefl _ (hSf S (W.sub _ h))
  intro k
  induction k with
  | zero =>
    intro i s T c hk hi hst hk0 hS hT hTS hTw hTn hR
    have hin : i = n := by omega
    subst hin
    refine codeAny_builtin PySem.F.entry_sum_loop ?_
    rw [Around.under_plainId PySem.F.plain_sum_loop _]
    show wpAny _ A.in1 (seqItems? (.ref S) >>= _) _ _ s
    refine wpAny_bind (wpAny_seqItems hS rfl ?_)
    show wpAny _ A.in1 (tryCatch (pyNext (.ref I)) _ >>= _) _ _ s
    refine wpAny_bind (wpAny_tryCatch (W.done s _ _ hst fun h' tk hk' => ?_))
    obtain ⟨o, e1, e2⟩ := hT
    exact wpAny_pure (hR h' tk T (fun b o e => hk' b o (hwr b o e) (hk0 b o e)) ⟨o, hk' T o hTw e1, e2⟩ (fun _ => rfl) fun h => ⟨(hTn h).1, (hTn h).2.imp fun m e => hk' T _ hTw e⟩)
  | succ k ih =>
    intro i s T c hk hi hst hk0 hS hT hTS hTw hTn hR
    have hin : i < n := by omega
    refine codeAny_builtin PySem.F.entry_sum_loop ?_
    rw [Around.under_plainId PySem.F.plain_sum_loop _]
    show wpAny _ A.in1 (seqItems? (.ref S) >>= _) _ _ s
    refine wpAny_bind (wpAny_seqItems hS rfl ?_)
    show wpAny _ A.in1 (tryCatch (pyNext (.ref I)) _ >>= _) _ _ s
    refine wpAny_bind (wpAny_tryCatch (W.item i s _ _ hin hst fun v h' tk hP hst' hk' => ?_))
    have ev := hval i v hin hP
    subst ev
    have hS' := hk' S _ hSw hS
    obtain ⟨oT, eT, dT⟩ := hT
    have hT' : h'.IsList T (((List.range i).map L).flatten).toArray := ⟨oT, hk' T _ hTw eT, dT⟩
    have hk1 : ∀ b o, h0.get? b = some o → h'.get? b = some o := fun b o e => hk' b o (hwr b o e) (hk0 b o e)
    have hL' : h'.IsList (la i) (L i).toArray := by
      obtain ⟨o, e, d⟩ := hl i hin
      exact ⟨o, hk1 _ _ e, d⟩
    have eF : ∀ m, (((List.range (m + 1)).map L).flatten) = ((List.range m).map L).flatten ++ L m := fun m => by
      rw [List.range_succ, List.map_append, List.flatten_append]; simp
    have mono : ∀ m j, m ≤ j → (((List.range m).map L).flatten).length ≤ (((List.range j).map L).flatten).length := fun m j h => by
      induction j with
      | zero => have : m = 0 := by omega
                subst this; exact Nat.le_refl _
      | succ j ihj =>
        by_cases e : m = j + 1
        · subst e; exact Nat.le_refl _
        · rw [eF j, List.length_append]
          have := ihj (by omega)
          omega
    have hzi : (((List.range i).map L).flatten).length + (L i).length ≤ sizeLine := by
      have h1 := congrArg List.length (eF i)
      rw [List.length_append] at h1
      have h2 := mono (i + 1) n hin
      omega
    have hSs : S < h'.objs.size := Heap.lt_size hS'
    show wpAny _ A.in1 ((holding [Value.ref (la i)] (binaryOp .Add (.ref T) (.ref (la i)))).attempt >>= _) _ _ _
    refine wpAny_bind (wpAny_attempt (wpAny_holding (concat (s := { s with heap := h', toks := tk }) hT' hL' hzi ?_)))
    show wpAny _ A.in1 (updateSeq S (fun _ => #[.ref h'.objs.size]) >>= _) _ _ _
    have hS1 : (h'.push { cls := .type "list", data := .seq (((List.range i).map L).flatten ++ L i).toArray }).get? S = some { cls := .type "list", dict := none, data := .seq #[.ref T] c, slots := #[] } := Heap.get?_push_of_some _ hS'
    refine wpAny_bind (wpAny_updateSeq hS1 rfl ?_)
    have hS2 := Heap.get?_update_self (Obj.mapSeq fun _ => #[Value.ref h'.objs.size]) hS1 rfl
    refine wpAny_bind (wpAny_letGo ?_)
    have nS : ∀ b, b ≠ S → ∀ o, h'.get? b = some o → (((h'.push { cls := .type "list", data := .seq (((List.range i).map L).flatten ++ L i).toArray }).update S (Obj.mapSeq fun _ => #[Value.ref h'.objs.size])).update S (Obj.mapSeq fun _ => #[Value.ref h'.objs.size])).get? b = some o := fun b hb o e =>
      (Heap.get?_update_other _ _ (Ne.symm hb)).trans ((Heap.get?_update_other _ _ (Ne.symm hb)).trans (Heap.get?_push_of_some _ e))
    refine wpAny_bind (wpAny_updateSeq hS2 rfl (wpAny_pure ⟨plainId_quiet PySem.F.plain_sum_loop _, ih (i + 1) _ h'.objs.size _ (by omega) hin (W.frame (i + 1) _ _ hst' fun b hb o e => nS b (Nat.ne_of_lt (hSf b hb)) o e) (fun b o e => nS b (Nat.ne_of_lt (hS0 b o e)) o (hk1 b o e)) (Heap.get?_update_self _ hS2 rfl) ?_ (Nat.ne_of_gt hSs) (fun hm => ?_) (fun _ => ⟨hSs, ?_⟩) fun h'' tk'' T' q1 q2 q3 q4 => hR h'' tk'' T' q1 q2 (fun e => by omega) q4⟩))
    · rw [eF]
      refine ⟨_, (Heap.get?_update_other _ _ (Nat.ne_of_lt hSs)).trans ((Heap.get?_update_other _ _ (Nat.ne_of_lt hSs)).trans (Heap.get?_push_size _ rfl)), rfl, _, rfl⟩
    · exact Nat.lt_irrefl _ (Nat.lt_trans (hSf _ (W.sub _ hm)) hSs)
    · rw [eF]
      exact ⟨_, (Heap.get?_update_other _ _ (Nat.ne_of_lt hSs)).trans ((Heap.get?_update_other _ _ (Nat.ne_of_lt hSs)).trans (Heap.get?_push_size _ rfl))⟩
end
section
variable {prog : Program} {w : World} {A : Around} {E : Value → Shared → Prop} {s : Shared}
theorem sum_lists {l b : Addr} {its : List Value} {la : Nat → Addr} {L : Nat → List Value} {Q : Value → Shared → Prop} (hh : A.handled = none) (hl : s.heap.IsList l its.toArray) (hb : s.heap.IsList b #[]) (hi : ∀ i, i < its.length → its[i]? = some (.ref (la i)) ∧ s.heap.IsList (la i) (L i).toArray)
    (hz : (((List.range its.length).map L).flatten).length ≤ sizeLine)
    (h : ∀ h' tk T', (∀ b o, s.heap.get? b = some o → h'.get? b = some o) → h'.IsList T' (((List.range its.length).map L).flatten).toArray → (its.length = 0 → T' = b) → (0 < its.length → s.heap.objs.size ≤ T' ∧ ∃ m, h'.get? T' = some { cls := .type "list", data := .seq (((List.range its.length).map L).flatten).toArray m }) → Q (.ref T') { s with heap := h', toks := tk }) :
    wpAny (model prog w) A (call (.builtin "sum") [.ref l, .ref b]) Q E s := by
  refine call_function_tree PySem.F.kind_sum PySem.F.plain_sum PySem.F.entry_sum (args_sum2 _ _) ?_
  unfold Builtin.«sum»
  simp only [List.length_cons, List.length_nil]
  rw [if_neg (by decide)]
  refine wpAny_bind (wpAny_of_eq (show Builtin.Builtins.bindParams "sum" ["start"] 0 ⟨[.ref b], []⟩ = pure [some (.ref b)] from rfl) ?_)
  have hlt : l < s.heap.objs.size := by obtain ⟨_, e, _⟩ := hl; exact Heap.lt_size e
  refine wpAny_bind (wpAny_pyIter_list hl ?_)
  have tb : (({ s with heap := s.heap.push { cls := .type "list_iterator", data := .fields #[.ref l, .int 0 0] } } : Shared)).TypeIs (.ref b) "list" := by
    obtain ⟨o, e, c, _⟩ := hb
    exact ⟨o, Heap.get?_push_of_some _ e, c⟩
  refine wpAny_bind (wpAny_pure ?_)
  simp only [List.forIn_cons, List.forIn_nil]
  refine wpAny_bind (wpAny_bind (wpAny_bind (wpAny_isInstance (T := "list") (b := false) tb sub_list_str ?_)))
  simp only [Bool.false_eq_true, if_false]
  refine wpAny_pure (wpAny_bind (wpAny_bind (wpAny_isInstance (T := "list") (b := false) tb sub_list_bytes ?_)))
  simp only [Bool.false_eq_true, if_false]
  refine wpAny_pure (wpAny_bind (wpAny_bind (wpAny_isInstance (T := "list") (b := false) tb sub_list_bytearray ?_)))
  simp only [Bool.false_eq_true, if_false]
  refine wpAny_pure (wpAny_pure ?_)
  refine wpAny_bind (wpAny_newObj_type ?_)
  have sz1 : (s.heap.push { cls := .type "list_iterator", data := .fields #[.ref l, .int 0 0] }).objs.size = s.heap.objs.size + 1 := Heap.size_push ..
  have old : ∀ c o, s.heap.get? c = some o → ((s.heap.push { cls := .type "list_iterator", data := .fields #[.ref l, .int 0 0] }).push { cls := .type "list", data := .seq #[.ref b] }).get? c = some o := fun c o e => Heap.get?_push_of_some _ (Heap.get?_push_of_some _ e)
  have hb' : ∃ o, s.heap.get? b = some o ∧ o.cls = .type "list" ∧ ∃ m, o.data = .seq #[] m := hb
  have hbl : b < s.heap.objs.size := by obtain ⟨_, e, _⟩ := hb'; exact Heap.lt_size e
  have W := Walks.list (prog := prog) (w := w) (A := A.in1) hh s.heap.objs.size l (Nat.ne_of_lt hlt) its.toArray
  have hit : (s.heap.push { cls := .type "list_iterator", data := .fields #[.ref l, .int 0 0] }).get? s.heap.objs.size = some { cls := .type "list_iterator", data := .fields #[.ref l, .int 0 0] } := Heap.get?_push_size _ rfl
  generalize s.heap.push { cls := .type "list_iterator", data := .fields #[.ref l, .int 0 0] } = h2 at sz1 old hit tb ⊢
  have lt2 : ∀ c, c < s.heap.objs.size → c < h2.objs.size := fun c hc => by rw [sz1]; exact Nat.lt_succ_of_lt hc
  refine wpAny_pure ⟨plainId_quiet PySem.F.plain_sum_loop _, loop (n := its.length) (I := s.heap.objs.size) (fp := [s.heap.objs.size, l]) (wr := [s.heap.objs.size]) (P := fun i v => its.toArray[i]? = some v) (St := fun i h => h.IsListIter s.heap.objs.size l i ∧ h.IsList l its.toArray) (by simpa using W) la L (fun i v hi' hv => ?_) s.heap (fun i h => (hi i h).2) hz h2.objs.size (fun c hc => ?_) (fun c o e hm => ?_) (fun c o e => lt2 c (Heap.lt_size e)) its.length 0 _ b 0 rfl (Nat.zero_le _) ?_ old ?_ ?_ (Nat.ne_of_lt (lt2 b hbl)) ?_ (fun h => absurd h (Nat.lt_irrefl _)) fun h' tk T' q1 q2 q3 q4 => h h' tk T' q1 q2 q3 (fun h => ?_)⟩
  · have hv' : its[i]? = some v := by simpa using hv
    rw [(hi i hi').1] at hv'
    exact (Option.some.inj hv').symm
  · rcases List.mem_cons.mp hc with rfl | hc
    · rw [sz1]; exact Nat.lt_succ_self _
    · rcases List.mem_cons.mp hc with rfl | hc
      · exact lt2 _ hlt
      · simp at hc
  · rcases List.mem_cons.mp hm with rfl | hm
    · exact absurd (Heap.lt_size e) (Nat.lt_irrefl _)
    · simp at hm
  · refine ⟨⟨_, Heap.get?_push_of_some _ hit, rfl, rfl⟩, ?_⟩
    obtain ⟨o, e, d⟩ := hl
    exact ⟨o, old _ _ e, d⟩
  · exact Heap.get?_push_size _ rfl
  · obtain ⟨o, e, d⟩ := hb'
    exact ⟨o, old _ _ e, d⟩
  · simp only [List.mem_singleton]; exact Nat.ne_of_lt hbl
  · obtain ⟨g1, g2⟩ := q4 h
    rw [sz1] at g1
    exact ⟨Nat.le_of_lt (Nat.lt_trans (Nat.lt_succ_self _) g1), g2⟩
end
end SL
section
variable {G : Gx} {X : Cx}
/-- sum(xs, []) of a list of lists -/
def rSumLL (K : PySem.W.Frag) : List V → Hp → VK → Prop := fun vs H Q => ∃ (a b : Addr) (as : List Addr) (yss : List (List V)), vs = [.ref a, .ref b] ∧ SqL K H a (as.map V.ref) ∧ SqL K H b [] ∧ Paired (SqL K H) as yss ∧ yss.flatten.length ≤ sizeLine ∧
  (as = [] → Q (.ref b) H) ∧ (as ≠ [] → ∀ p, H p = none → Q (.ref p) (upd H p (.lst yss.flatten)))
theorem Paired.len {α β : Type} {R : α → β → Prop} : ∀ {as : List α} {bs : List β}, Paired R as bs → as.length = bs.length
  | _, _, .nil => rfl
  | _, _, .cons _ t => by simp [Paired.len t]
theorem vals_refs : ∀ {as : List Addr} {its : List Value}, Vals (as.map V.ref) its → its = as.map Value.ref
  | [], _, .nil => rfl
  | a :: as, _, .cons r t => by
    cases r
    rw [vals_refs t]; rfl
theorem sum_rows {pins : List (Addr × Obj)} {σ : L2.St} {H : Hp} {s : Shared} (I : Inv X pins σ H s) : ∀ {as : List Addr} {yss : List (List V)}, Paired (SqL X.K H) as yss → ∃ Ls : List (List Value), Ls.length = as.length ∧ (∀ i, i < as.length → s.heap.IsList (as.getD i 0) (Ls.getD i []).toArray) ∧ Vals yss.flatten Ls.flatten
  | _, _, .nil => ⟨[], rfl, fun i h => by simp at h, .nil⟩
  | a :: as, ys :: yss, .cons h t => by
    obtain ⟨Ls, h1, h2, h3⟩ := sum_rows I t
    obtain ⟨its, r, pl, _⟩ := I.list h
    refine ⟨its :: Ls, by simp [h1], fun i hi => ?_, ?_⟩
    · cases i with
      | zero => simpa using pl.isList
      | succ i => simpa using h2 i (by simpa using hi)
    · simp only [List.flatten_cons]
      exact r.append h3
theorem range_getD {α : Type} (d : α) : ∀ l : List α, (List.range l.length).map (fun i => l.getD i d) = l := fun l => by
  apply List.ext_getElem
  · simp
  · intro i h1 h2
    simp at h1
    simp [List.getD_eq_getElem?_getD, h1]
theorem cr_sumLL (hc : X.calm = true) : CallR X (.builtin "sum") (rSumLL X.K) := by
  intro pins s σ H vs us Q I r h
  obtain ⟨a, b, as, yss, rfl, hs, hb, hp, hz, q0, q1⟩ := h
  obtain ⟨u1, u2, rfl, r1, r2⟩ : ∃ u1 u2, us = [u1, u2] ∧ RelV (.ref a) u1 ∧ RelV (.ref b) u2 := by
    cases r with
    | cons p q =>
      cases q with
      | cons p' q' =>
        cases q'
        exact ⟨_, _, rfl, p, p'⟩
  cases r1
  cases r2
  obtain ⟨its, rv, pl, _⟩ := I.list hs
  obtain ⟨itb, rb, plb, _⟩ := I.list hb
  cases rb
  have ei := vals_refs rv
  subst ei
  obtain ⟨Ls, e1, e2, e3⟩ := sum_rows I hp
  have eL : (List.range (as.map Value.ref).length).map (fun i => Ls.getD i []) = Ls := by
    rw [List.length_map, ← e1]; exact range_getD [] Ls
  refine SL.sum_lists (la := fun i => as.getD i 0) (L := fun i => Ls.getD i []) (I.ok.hd hc) pl.isList plb.isList (fun i hi => ⟨?_, ?_⟩) ?_ fun h' tk T' k1 k2 k3 k4 => ?_
  · rw [List.length_map] at hi
    rw [List.getElem?_map, List.getElem?_eq_getElem hi]
    simp [List.getD_eq_getElem?_getD, hi]
  · exact e2 i (by simpa using hi)
  · rw [eL, ← e3.length]; exact hz
  · rw [eL] at k2
    by_cases hn : as = []
    · subst hn
      have e := k3 rfl
      subst e
      exact ⟨.ref T', H, I.kept k1, rfl, q0 rfl⟩
    · have hl : 0 < (as.map Value.ref).length := by
        rw [List.length_map]
        exact List.length_pos_iff.mpr hn
      obtain ⟨g1, m, g2⟩ := k4 hl
      rw [eL] at g2
      exact ⟨.ref T', _, I.laid (t' := tk) (o := .lst yss.flatten) k1 g1 ⟨hz, Ls.flatten, m, e3, g2⟩, rfl, q1 hn T' (I.hok.fresh g1)⟩
/-! ### as an operation -/
theorem OpOut.lstF {F H : Hp} {ds : List D} {vs : List V} {Q : VK} (h : OpOut G F H (.fz (.lst ds)) Q) (sub : Sub F H) (r : Reps G F ds vs) : ∀ p, H p = none → Q (.ref p) (upd H p (.lst vs)) := fun p hp =>
  h (upd F p (.lst vs)) (upd H p (.lst vs)) (.ref p) [] (upd_sub sub) (by
    simp only [RepU, Rep, true_and]
    exact ⟨p, vs, rfl, .inl (.inl upd_same), r.mono (Sub.upd (sub.none hp))⟩) (by simp) (Step.newF sub hp)
theorem lists_rep {F H : Hp} (sub : Sub F H) : ∀ {ds : List D} {vs : List V} {ls : List (List D)}, Reps G F ds vs → listsD ds = some ls → ∃ as yss, vs = as.map V.ref ∧ Paired (SqL G.K H) as yss ∧ Reps G F ls.flatten yss.flatten
  | [], _, _, r, e => by
    simp only [listsD] at e
    cases e
    cases r.nil_inv
    exact ⟨[], [], rfl, .nil, Reps.nil⟩
  | d :: ds, _, _, r, e => by
    obtain ⟨v, w, rfl, r1, r2⟩ := r.cons_inv
    cases d <;> simp only [listsD] at e <;> try (cases e; done)
    rename_i l
    cases e2 : listsD ds with
    | none => rw [e2] at e; cases e
    | some is =>
      rw [e2] at e
      cases e
      obtain ⟨as, yss, rfl, p, q⟩ := lists_rep sub r2 e2
      obtain ⟨a, ys, rfl, h1, h2⟩ := r1.lst_inv
      exact ⟨a :: as, ys :: yss, rfl, .cons (sub.sqL h1) p, by simp only [List.flatten_cons]; exact h2.append q⟩
theorem den_sum2 : DenC G .sum2 (rSumLL G.K) := fun F H vs ds u Q sub rs ho out => by
  match ds, ho with
  | [.lst es, .lst []], ho =>
    obtain ⟨x, y, rfl, r1, r2⟩ := rs.two
    simp only [opF, Option.bind_eq_some_iff] at ho
    obtain ⟨ls, e1, e2⟩ := ho
    split at e2
    · rename_i hz
      cases e2
      obtain ⟨p, ys, rfl, h1, h2⟩ := r1.lst_inv
      obtain ⟨q, zs, rfl, h3, h4⟩ := r2.lst_inv
      cases h4.nil_inv
      obtain ⟨as, yss, rfl, h5, h6⟩ := lists_rep sub h2 e1
      refine ⟨p, q, as, yss, rfl, sub.sqL h1, sub.sqL h3, h5, by rw [h6.length]; exact le_lim hz, fun e => ?_, fun _ => out.lstF sub h6⟩
      subst e
      cases h5
      have : ls.flatten = [] := List.eq_nil_of_length_eq_zero (by rw [← h6.length]; rfl)
      rw [this] at out
      exact out.scalar sub r2
    · cases e2
/-! ### sorted -/
def rSortD (K : PySem.W.Frag) : List V → Hp → VK → Prop := fun vs H Q => ∃ (a : Addr) (bs : List (V × D)), vs = [.ref a] ∧ SqL K H a (bs.map (·.1)) ∧ (∀ b ∈ bs, Dp K H b.1 (encD b.2)) ∧ PySem.W.AllAlike (bs.map fun b => encD b.2) ∧ PySem.W.Sortable (bs.map fun b => encD b.2) ∧ (∀ b ∈ bs, (encD b.2).depth ≤ 8) ∧ bs.length ≤ sizeLine ∧
  ∀ p, H p = none → Q (.ref p) (upd H p (.lst ((bs.mergeSort (PySem.W.dataLe false fun b => encD b.2)).map (·.1))))
theorem each_vals {R : Value → V × D → Prop} : ∀ {bs : List (V × D)} {us : List Value}, Vals (bs.map (·.1)) us → (∀ b ∈ bs, ∀ u, RelV b.1 u → R u b) → PySem.W.EachIs R us bs
  | [], _, .nil, _ => .nil
  | b :: bs, _, .cons r t, h => .cons (h b (by simp) _ r) (each_vals t fun c hc => h c (by simp [hc]))
theorem each_back : ∀ {us : List Value} {bs : List (V × D)}, PySem.W.EachIs (fun u (b : V × D) => RelV b.1 u) us bs → Vals (bs.map (·.1)) us
  | _, _, .nil => .nil
  | _, _, .cons r t => .cons r (each_back t)
theorem cr_sortedDt (hu : X.A.units + 64 < cLine) : CallR X (.builtin "sorted") (rSortD X.K) := by
  intro pins s σ H vs us Q I r h
  obtain ⟨a, bs, rfl, hs, hd, hal, hk, hdp, hz, q⟩ := h
  obtain ⟨its, rv, pl, _⟩ := I.list hs
  rw [Vals.ref1 r]
  refine PySem.W.sorted_data (R := fun u (b : V × D) => RelV b.1 u) (bs := bs) (enc := fun b => encD b.2) pl.isList (each_vals rv fun b _ u r => r) (each_vals rv fun b hb u r => Dp.reads I _ _ _ (hd b hb) r) hal hk hz (fun b hb => ?_) fun out hl he => ?_
  · have := hdp b hb
    omega
  · obtain ⟨ep, he'⟩ := PyProof.Rows.sortedAll_at s.heap its out.toArray
    have hv := each_back he
    have hlen : ((bs.mergeSort (PySem.W.dataLe false fun b => encD b.2)).map (·.1)).length ≤ sizeLine := by
      rw [List.length_map, List.length_mergeSort]; exact hz
    exact ⟨.ref _, upd H (s.heap.objs.size + 1) (.lst _), I.laid (t' := s.toks) (fun _ _ => PyProof.Rows.sortedAll_old) (Nat.le_succ _) ⟨hlen, out, ep, hv, he'⟩, rfl, q _ (I.hok.fresh (Nat.le_succ _))⟩
theorem reps_of {F : Hp} : ∀ {bs : List (V × D)}, (∀ b ∈ bs, Rep G F b.2 b.1) → Reps G F (bs.map (·.2)) (bs.map (·.1))
  | [], _ => Reps.nil
  | b :: bs, h => Reps.cons (h b (by simp)) (reps_of fun c hc => h c (by simp [hc]))
theorem zip_reps {F : Hp} : ∀ {ds : List D} {vs : List V}, Reps G F ds vs → (vs.zip ds).map (·.1) = vs ∧ (vs.zip ds).map (·.2) = ds ∧ ∀ b ∈ vs.zip ds, Rep G F b.2 b.1
  | [], _, h => by cases h.nil_inv; exact ⟨rfl, rfl, fun b hb => by simp at hb⟩
  | d :: ds, _, h => by
    obtain ⟨v, w, rfl, r1, r2⟩ := h.cons_inv
    obtain ⟨h1, h2, h3⟩ := zip_reps r2
    refine ⟨by simp [h1], by simp [h2], fun b hb => ?_⟩
    simp only [List.zip_cons_cons, List.mem_cons] at hb
    rcases hb with rfl | hb
    · exact r1
    · exact h3 b hb
theorem den_sorted : DenC G .sorted (rSortD G.K) := fun F H vs ds u Q sub rs ho out => by
  match ds, ho with
  | [.lst es], ho =>
    obtain ⟨x, rfl, r⟩ := rs.one
    simp only [opF] at ho
    split at ho
    · rename_i hz
      cases ho
      obtain ⟨p, ys, rfl, h1, h2⟩ := r.lst_inv
      obtain ⟨z1, z2, z3⟩ := zip_reps h2
      simp only [sortOk, Bool.and_eq_true, List.all_eq_true, decide_eq_true_eq] at hz
      obtain ⟨⟨⟨k1, k2⟩, k3⟩, k4⟩ := hz
      have em : (ys.zip es).map (fun b => encD b.2) = es.map encD := by
        conv => rhs; rw [← z2]
        rw [List.map_map]; rfl
      have mem2 : ∀ b ∈ ys.zip es, b.2 ∈ es := fun b hb => by
        have : b.2 ∈ (ys.zip es).map (·.2) := List.mem_map.mpr ⟨b, hb, rfl⟩
        rw [z2] at this
        exact this
      have e2 : ((ys.zip es).mergeSort (PySem.W.dataLe false fun b => encD b.2)).map (·.2) = es.mergeSort (PySem.W.dataLe false encD) := by
        rw [List.map_mergeSort (r := PySem.W.dataLe false fun (b : V × D) => encD b.2) (s := PySem.W.dataLe false encD) (f := (·.2)) (l := ys.zip es) (fun a _ b _ => rfl), z2]
      have rr : Reps G F (es.mergeSort (PySem.W.dataLe false encD)) (((ys.zip es).mergeSort (PySem.W.dataLe false fun b => encD b.2)).map (·.1)) := by
        rw [← e2]
        exact reps_of fun b hb => z3 b ((List.mergeSort_perm _ _).mem_iff.mp hb)
      refine ⟨p, ys.zip es, rfl, by rw [z1]; exact sub.sqL h1, fun b hb => ?_, ?_, ?_, fun b hb => (k1 _ (mem2 b hb)).2, ?_, out.list sub rr⟩
      · have hs := (k1 _ (mem2 b hb)).1
        obtain ⟨pd, e⟩ := Option.isSome_iff_exists.mp hs
        have : encD b.2 = pd := by unfold encD; rw [e]; rfl
        rw [this]
        exact dp_sub sub (Rep.dp rfl (z3 b hb) e)
      · rw [em]
        intro d hd d' hd'
        obtain ⟨b, hb, rfl⟩ := List.mem_map.mp hd
        obtain ⟨b', hb', rfl⟩ := List.mem_map.mp hd'
        exact k2 b hb b' hb'
      · rw [em]
        unfold sortableB at k3
        rw [Bool.or_eq_true, List.all_eq_true, List.all_eq_true] at k3
        rcases k3 with k3 | k3
        · refine .inl fun d hd => ?_
          have := k3 d hd
          split at this
          · exact ⟨_, _, rfl⟩
          · cases this
        · refine .inr fun d hd => ?_
          have := k3 d hd
          split at this
          · cases this
          · cases this
          · rename_i n1 n2
            exact ⟨fun e => n1 e, fun xs e => n2 xs e⟩
      · rw [List.length_zip, h2.length]
        have := le_lim k4
        omega
    · cases ho
end
end Pv

/-! Pv16: does a text's expression read as one of the small language? -/
namespace Pv
open PySem PySem.Spec PyProof.Rows L2

/-! ### values compared -/
mutual
def D.beq : D → D → Bool
  | .non, .non => true
  | .bl a, .bl b => a == b
  | .int a, .int b => a == b
  | .str a, .str b => a == b
  | .tup a, .tup b => Ds.beq a b
  | .lst a, .lst b => Ds.beq a b
  | .fn a, .fn b => a == b
  | .cls a, .cls b => a == b
  | _, _ => false
def Ds.beq : List D → List D → Bool
  | [], [] => true
  | a :: as, b :: bs => D.beq a b && Ds.beq as bs
  | _, _ => false
end
mutual
theorem D.beq_eq : ∀ {a b : D}, D.beq a b = true → a = b
  | .non, b, h => by cases b <;> simp [D.beq] at h; rfl
  | .bl a, b, h => by cases b <;> simp [D.beq] at h; rw [h]
  | .int a, b, h => by cases b <;> simp [D.beq] at h; rw [h]
  | .str a, b, h => by cases b <;> simp [D.beq] at h; rw [h]
  | .tup a, b, h => by
    cases b <;> simp only [D.beq] at h <;> try (cases h; done)
    rw [Ds.beq_eq h]
  | .lst a, b, h => by
    cases b <;> simp only [D.beq] at h <;> try (cases h; done)
    rw [Ds.beq_eq h]
  | .dic _ _, b, h => by cases b <;> simp [D.beq] at h
  | .fn a, b, h => by cases b <;> simp [D.beq] at h; rw [h]
  | .ty _, b, h => by cases b <;> simp [D.beq] at h
  | .cls a, b, h => by cases b <;> simp [D.beq] at h; rw [h]
  | .exc _ _, b, h => by cases b <;> simp [D.beq] at h
theorem Ds.beq_eq : ∀ {a b : List D}, Ds.beq a b = true → a = b
  | [], b, h => by cases b <;> simp [Ds.beq] at h; rfl
  | a :: as, b, h => by
    cases b with
    | nil => simp [Ds.beq] at h
    | cons c cs =>
      simp only [Ds.beq, Bool.and_eq_true] at h
      rw [D.beq_eq h.1, Ds.beq_eq h.2]
end

/-! ### what is known -/
structure Mo where
  fns : List (Str × Nat)
  free : List Str
  con : List (Str × D)
  kws : List (Str × List Str × List Nat)
structure Cc where
  N : List Str
  sc : Scope
  fn : Str → Bool
structure XOk (M : Mo) (G : Gx) (c : Cc) (X : Cx) (cl : Str → List U → RC) : Prop where
  N : X.N = c.N
  nd : X.N.Nodup
  sc : X.env.scope = c.sc
  K : X.K = G.K
  mg : X.mg = G.mg
  calm : X.calm = true
  fn : ∀ x, X.fn x = c.fn x
  units : X.A.units + 65 < cLine
  free : ∀ x ∈ M.free, G.mg x = none
  con : ∀ p ∈ M.con, ∃ v u, G.mg p.1 = some u ∧ RelV v u ∧ ∀ F, Rep G F p.2 v
  fns : ∀ p ∈ M.fns, ∃ k f fd ps, FnOk X.prog X.w X.K X.mg X.base (L2.CX X.prog X.w) k f fd ps (SpF G cl p.1 p.2) ∧ Room k X.A ∧ X.mg p.1 = some (.ref f) ∧ PySem.W.keepIn X.K (.ref f) = true ∧ Binds X.K fd ps [] ∧ (∀ us, cl p.1 us ≠ .bad → us.length = p.2) ∧
    ∀ q ∈ M.kws, q.1 = p.1 → KBn X.K fd ps 0 q.2.1 (fun _ ws => pick q.2.2 ws) (fun _ zs => pick q.2.2 zs)
def glB (c : Cc) (x : Str) : Bool := c.sc.names.lookup x == some .globalImplicit
def frB (M : Mo) (c : Cc) (x : Str) : Bool := glB c x && M.free.contains x && plainN x
section
variable {M : Mo} {G : Gx} {c : Cc} {X : Cx} {cl : Str → List U → RC} {W : WX} {P : List Nat}
theorem gl_of (h : XOk M G c X cl) {x : Str} (e : glB c x = true) : Gl X x := by
  unfold glB at e
  rw [beq_iff_eq] at e
  show X.env.scope.names.lookup x = _
  rw [h.sc]; exact e
theorem fr_of (h : XOk M G c X cl) {x : Str} (e : frB M c x = true) : Gl X x ∧ X.mg x = none ∧ plainN x = true := by
  simp only [frB, Bool.and_eq_true] at e
  exact ⟨gl_of h e.1.1, by rw [h.mg]; exact h.free x (List.contains_iff_mem.mp e.1.2), e.2⟩
def SEs (G : Gx) (W : WX) (cl : Str → List U → RC) (P : List Nat) (X : Cx) : Es → List Expr → Prop
  | .nil, [] => True
  | .cons e es, x :: xs => SE G W cl P X e x ∧ notStar x = true ∧ SEs G W cl P X es xs
  | _, _ => False
theorem SEs.sa : ∀ {es : Es} {xs : List Expr}, SEs G W cl P X es xs → SA G W cl P X es xs := by
  intro es
  induction es using Es.rec (motive_1 := fun _ => True) with
  | nil =>
    intro xs h
    cases xs with
    | nil => exact sa_nil
    | cons x xs => exact h.elim
  | cons e es _ ih =>
    intro xs h
    cases xs with
    | nil => exact h.elim
    | cons x xs => exact sa_cons h.1 (ih h.2.2) h.2.1
  | _ => trivial
theorem SEs.stars : ∀ {es : Es} {xs : List Expr}, SEs G W cl P X es xs → stars xs = true := by
  intro es
  induction es using Es.rec (motive_1 := fun _ => True) with
  | nil =>
    intro xs h
    cases xs with
    | nil => rfl
    | cons x xs => exact h.elim
  | cons e es _ ih =>
    intro xs h
    cases xs with
    | nil => exact h.elim
    | cons x xs => simp only [Pv.stars, Bool.and_eq_true]; exact ⟨h.2.1, ih h.2.2⟩
  | _ => trivial
theorem SEs.two {es : Es} {x y : Expr} (h : SEs G W cl P X es [x, y]) : ∃ a b, es = .cons a (.cons b .nil) ∧ SE G W cl P X a x ∧ SE G W cl P X b y ∧ notStar x = true ∧ notStar y = true := by
  match es, h with
  | .cons a (.cons b .nil), h => exact ⟨a, b, rfl, h.1, h.2.2.1, h.2.1, h.2.2.2.1⟩
theorem SEs.one {es : Es} {x : Expr} (h : SEs G W cl P X es [x]) : ∃ a, es = .cons a .nil ∧ SE G W cl P X a x ∧ notStar x = true := by
  match es, h with
  | .cons a .nil, h => exact ⟨a, rfl, h.1, h.2.1⟩

/-! ### the operations' shapes -/
def exBin (op : Operator) : Expr → Option (List Expr)
  | .BinOp a o b _ => if o = op then some [a, b] else none
  | _ => none
theorem exBin_ok {op : Operator} {ex : Expr} {xs : List Expr} (h : exBin op ex = some xs) : ∃ a b p, ex = .BinOp a op b p ∧ xs = [a, b] := by
  cases ex with
  | BinOp a o b p =>
    simp only [exBin] at h
    split at h
    · rename_i e; subst e; cases h; exact ⟨a, b, p, rfl, rfl⟩
    · cases h
  | _ => simp [exBin] at h
def exCmp (op : CmpOp) : Expr → Option (List Expr)
  | .Compare a [o] [b] _ => if o = op ∧ noSet b = true then some [a, b] else none
  | _ => none
theorem exCmp_ok {op : CmpOp} {ex : Expr} {xs : List Expr} (h : exCmp op ex = some xs) : ∃ a b p, ex = .Compare a [op] [b] p ∧ xs = [a, b] ∧ noSet b = true := by
  unfold exCmp at h
  split at h
  · split at h
    · rename_i e; obtain ⟨rfl, e⟩ := e; cases h; exact ⟨_, _, _, rfl, rfl, e⟩
    · cases h
  · cases h
def exNone (op : CmpOp) : Expr → Option (List Expr)
  | .Compare a [o] [.Constant .none _ _] _ => if o = op then some [a] else none
  | _ => none
theorem exNone_ok {op : CmpOp} {ex : Expr} {xs : List Expr} (h : exNone op ex = some xs) : ∃ a k p q, ex = .Compare a [op] [.Constant .none k p] q ∧ xs = [a] := by
  unfold exNone at h
  split at h
  · split at h
    · rename_i e; subst e; cases h; exact ⟨_, _, _, _, rfl, rfl⟩
    · cases h
  · cases h
def exCall (M : Mo) (c : Cc) (f : Str) (n : Nat) : Expr → Option (List Expr)
  | .Call (.Name x _) (a :: as) [] _ => if x = f ∧ frB M c x = true ∧ as.length + 1 = n then some (a :: as) else none
  | _ => none
theorem exCall_ok {f : Str} {n : Nat} {ex : Expr} {xs : List Expr} (h : exCall M c f n ex = some xs) : ∃ a as p q, ex = .Call (.Name f p) (a :: as) [] q ∧ xs = a :: as ∧ frB M c f = true ∧ as.length + 1 = n := by
  unfold exCall at h
  split at h
  · split at h
    · rename_i e; obtain ⟨rfl, e, e2⟩ := e; cases h; exact ⟨_, _, _, _, rfl, rfl, e, e2⟩
    · cases h
  · cases h
def tyB (M : Mo) (c : Cc) (t : String) (x : Str) : Bool := cls6.contains t && decide (x = Str.ofString t) && frB M c x
def exIsa (M : Mo) (c : Cc) : List String → Expr → Option (List Expr)
  | [t], .Call (.Name f _) [a, .Name x _] [] _ => if f = "isinstance" ∧ frB M c f = true ∧ tyB M c t x = true then some [a] else none
  | [t, u], .Call (.Name f _) [a, .Tuple [.Name x _, .Name y _] _ _] [] _ => if f = "isinstance" ∧ frB M c f = true ∧ tyB M c t x = true ∧ tyB M c u y = true then some [a] else none
  | _, _ => none
def exIdx : Expr → Option (List Expr)
  | .Subscript a b _ => if noSl b = true then some [a, b] else none
  | _ => none
def exRev : Expr → Option (List Expr)
  | .Subscript a (.Slice none none (some (.UnaryOp .USub (.Constant (.int i) _ _) _)) _) _ => if i = 1 then some [a] else none
  | _ => none
def exNeg : Expr → Option (List Expr)
  | .UnaryOp .USub a _ => some [a]
  | _ => none
def exRngl (M : Mo) (c : Cc) : Expr → Option (List Expr)
  | .Call (.Name f _) [.Call (.Name g _) [a] [] _] [] _ => if f = "list" ∧ g = "range" ∧ frB M c f = true ∧ frB M c g = true then some [a] else none
  | _ => none
/-- o is no bare super() -/
def bareB : Expr → Bool
  | .Call (.Name _ _) [] [] _ => false
  | _ => true
theorem bare_ok {o : Expr} {m : Str} {env : PySem.Env} {w : Sem Value} (h : bareB o = true) : attributeBase o m env w = w := by
  unfold attributeBase
  split
  · simp [bareB] at h
  · rfl
def exBits : Expr → Option (List Expr)
  | .Call (.Attribute a m ap) [] [] p => if m = "bit_length" ∧ bareB a = true ∧ (ap.endLine == p.line) = true then some [a] else none
  | _ => none
def opEx (M : Mo) (c : Cc) (o : O) (ex : Expr) : Option (List Expr) := match o with
  | .add => exBin .Add ex | .sub => exBin .Sub ex | .mul => exBin .Mult ex | .fdiv => exBin .FloorDiv ex | .mod => exBin .Mod ex | .pow => exBin .Pow ex
  | .neg => exNeg ex
  | .eq => exCmp .Eq ex | .ne => exCmp .NotEq ex | .lt => exCmp .Lt ex | .le => exCmp .LtE ex | .gt => exCmp .Gt ex | .ge => exCmp .GtE ex
  | .isin => exCmp .In ex | .notin => exCmp .NotIn ex
  | .isN => exNone .Is ex | .notN => exNone .IsNot ex
  | .len => exCall M c "len" 1 ex | .int1 => exCall M c "int" 1 ex | .list1 => exCall M c "list" 1 ex | .tup1 => exCall M c "tuple" 1 ex
  | .sum1 => exCall M c "sum" 1 ex | .sum2 => exCall M c "sum" 2 ex | .max1 => exCall M c "max" 1 ex | .max2 => exCall M c "max" 2 ex | .min2 => exCall M c "min" 2 ex
  | .all1 => exCall M c "all" 1 ex | .any1 => exCall M c "any" 1 ex
  | .isa ts => exIsa M c ts ex
  | .idx => exIdx ex | .rev => exRev ex | .bitlen => exBits ex
  | .index => none
  | .rngl => exRngl M c ex
  | .sorted => exCall M c "sorted" 1 ex
theorem ty_of (h : XOk M G c X cl) {t : String} {x : Str} (e : tyB M c t x = true) : t ∈ cls6 ∧ isTyName X x t := by
  simp only [tyB, Bool.and_eq_true, decide_eq_true_eq] at e
  obtain ⟨⟨e1, rfl⟩, e3⟩ := e
  obtain ⟨g1, g2, g3⟩ := fr_of h e3
  have hc := List.contains_iff_mem.mp e1
  refine ⟨hc, g1, g2, ?_, g3⟩
  simp only [cls6, List.mem_cons, List.not_mem_nil, or_false] at hc
  rcases hc with rfl | rfl | rfl | rfl | rfl | rfl <;> decide +kernel
theorem callB_ok (h : XOk M G c X cl) {o : O} {id : String} {f : Str} {n : Nat} {r : List V → Hp → VK → Prop} {ex : Expr} {xs : List Expr} {es : Es} (e : exCall M c f n ex = some xs) (s : SEs G W cl P X es xs) (hc : CallR X (.builtin id) r) (hv : bootBuiltins f = some (.builtin id)) (den : DenC G o r) :
    SE G W cl P X (.op o es) ex := by
  obtain ⟨a, as, p, q, rfl, rfl, e1, _⟩ := exCall_ok e
  obtain ⟨g1, g2, g3⟩ := fr_of h e1
  exact se_callB hc g1 g2 hv g3 s.sa s.stars den
theorem callT_ok (h : XOk M G c X cl) {o : O} {T : String} {f : Str} {n : Nat} {r : List V → Hp → VK → Prop} {ex : Expr} {xs : List Expr} {es : Es} (e : exCall M c f n ex = some xs) (s : SEs G W cl P X es xs) (hc : CallR X (.type T) r) (hv : bootBuiltins f = some (.type T)) (den : DenC G o r) :
    SE G W cl P X (.op o es) ex := by
  obtain ⟨a, as, p, q, rfl, rfl, e1, _⟩ := exCall_ok e
  obtain ⟨g1, g2, g3⟩ := fr_of h e1
  exact se_callTy hc g1 g2 hv g3 s.sa s.stars den
theorem opEx_ok (h : XOk M G c X cl) {o : O} {ex : Expr} {xs : List Expr} {es : Es} (e : opEx M c o ex = some xs) (s : SEs G W cl P X es xs) : SE G W cl P X (.op o es) ex := by
  have u64 : X.A.units + 64 < cLine := by have := h.units; omega
  cases o <;> simp only [opEx] at e
  case add => obtain ⟨a, b, p, rfl, rfl⟩ := exBin_ok e; obtain ⟨x, y, rfl, h1, h2, _⟩ := s.two; exact se_add h.K h1 h2
  case sub => obtain ⟨a, b, p, rfl, rfl⟩ := exBin_ok e; obtain ⟨x, y, rfl, h1, h2, _⟩ := s.two; exact se_sub h1 h2
  case mul => obtain ⟨a, b, p, rfl, rfl⟩ := exBin_ok e; obtain ⟨x, y, rfl, h1, h2, _⟩ := s.two; exact se_mul h1 h2
  case fdiv => obtain ⟨a, b, p, rfl, rfl⟩ := exBin_ok e; obtain ⟨x, y, rfl, h1, h2, _⟩ := s.two; exact se_fdiv h1 h2
  case mod => obtain ⟨a, b, p, rfl, rfl⟩ := exBin_ok e; obtain ⟨x, y, rfl, h1, h2, _⟩ := s.two; exact se_mod h1 h2
  case pow => obtain ⟨a, b, p, rfl, rfl⟩ := exBin_ok e; obtain ⟨x, y, rfl, h1, h2, _⟩ := s.two; exact se_pow h1 h2
  case neg =>
    unfold exNeg at e
    split at e
    · cases e; obtain ⟨x, rfl, h1, _⟩ := s.one; exact se_neg h1
    · cases e
  case eq => obtain ⟨a, b, p, rfl, rfl, hn⟩ := exCmp_ok e; obtain ⟨x, y, rfl, h1, h2, _⟩ := s.two; exact se_eq h.K u64 h1 h2 hn
  case ne => obtain ⟨a, b, p, rfl, rfl, hn⟩ := exCmp_ok e; obtain ⟨x, y, rfl, h1, h2, _⟩ := s.two; exact se_ne h.K u64 h1 h2 hn
  case lt => obtain ⟨a, b, p, rfl, rfl, hn⟩ := exCmp_ok e; obtain ⟨x, y, rfl, h1, h2, _⟩ := s.two; exact se_lt h1 h2 hn
  case le => obtain ⟨a, b, p, rfl, rfl, hn⟩ := exCmp_ok e; obtain ⟨x, y, rfl, h1, h2, _⟩ := s.two; exact se_le h1 h2 hn
  case gt => obtain ⟨a, b, p, rfl, rfl, hn⟩ := exCmp_ok e; obtain ⟨x, y, rfl, h1, h2, _⟩ := s.two; exact se_gt h1 h2 hn
  case ge => obtain ⟨a, b, p, rfl, rfl, hn⟩ := exCmp_ok e; obtain ⟨x, y, rfl, h1, h2, _⟩ := s.two; exact se_ge h1 h2 hn
  case isin => obtain ⟨a, b, p, rfl, rfl, hn⟩ := exCmp_ok e; obtain ⟨x, y, rfl, h1, h2, _⟩ := s.two; exact se_in h.K h.units h1 h2 hn
  case notin => obtain ⟨a, b, p, rfl, rfl, hn⟩ := exCmp_ok e; obtain ⟨x, y, rfl, h1, h2, _⟩ := s.two; exact se_notin h.K h.units h1 h2 hn
  case isN => obtain ⟨a, k, p, q, rfl, rfl⟩ := exNone_ok e; obtain ⟨x, rfl, h1, _⟩ := s.one; exact se_isN h1
  case notN => obtain ⟨a, k, p, q, rfl, rfl⟩ := exNone_ok e; obtain ⟨x, rfl, h1, _⟩ := s.one; exact se_notN h1
  case len => exact callB_ok h e s c_len boot_len (by rw [h.K]; exact den_len)
  case int1 => exact callT_ok h e s call_int1 PyProof.Rows.boot_int den_int1
  case list1 => exact callT_ok h e s call_list_of PyProof.Rows.boot_list (by rw [h.K]; exact den_list1)
  case tup1 => exact callT_ok h e s call_tuple_of PyProof.Rows.boot_tuple (by rw [h.K]; exact den_tup1)
  case sum1 => exact callB_ok h e s (cr_sum h.calm) PyProof.Rows.boot_sum (by rw [h.K]; exact den_sum1)
  case sum2 => exact callB_ok h e s (cr_sumLL h.calm) PyProof.Rows.boot_sum (by rw [h.K]; exact den_sum2)
  case max1 => exact callB_ok h e s (cr_max h.calm) PyProof.Rows.boot_max (by rw [h.K]; exact den_max1)
  case max2 => exact callB_ok h e s (call_max2 h.calm) PyProof.Rows.boot_max den_max2
  case min2 => exact callB_ok h e s (call_min2 h.calm) PyProof.Rows.boot_min den_min2
  case all1 => exact callB_ok h e s (cr_all h.calm) PyProof.Rows.boot_all (by rw [h.K]; exact den_all1)
  case any1 => exact callB_ok h e s (cr_any h.calm) PyProof.Rows.boot_any (by rw [h.K]; exact den_any1)
  case sorted => exact callB_ok h e s (cr_sortedDt u64) PyProof.Rows.boot_sorted (by rw [h.K]; exact den_sorted)
  case isa ts =>
    unfold exIsa at e
    split at e
    · split at e
      · rename_i e1
        obtain ⟨rfl, e2, e3⟩ := e1
        cases e
        obtain ⟨x, rfl, h1, hn⟩ := s.one
        obtain ⟨g1, g2, _⟩ := fr_of h e2
        obtain ⟨t1, t2⟩ := ty_of h e3
        exact se_isa1 h.K g1 g2 h1 hn t1 t2
      · cases e
    · split at e
      · rename_i e1
        obtain ⟨rfl, e2, e3, e4⟩ := e1
        cases e
        obtain ⟨x, rfl, h1, hn⟩ := s.one
        obtain ⟨g1, g2, _⟩ := fr_of h e2
        obtain ⟨t1, t2⟩ := ty_of h e3
        obtain ⟨t3, t4⟩ := ty_of h e4
        exact se_isa2 h.K g1 g2 h1 hn t1 t3 t2 t4
      · cases e
    · cases e
  case idx =>
    unfold exIdx at e
    split at e
    · split at e
      · rename_i hn
        cases e
        obtain ⟨x, y, rfl, h1, h2, _⟩ := s.two
        exact se_idx h.K h1 h2 hn
      · cases e
    · cases e
  case rev =>
    unfold exRev at e
    split at e
    · split at e
      · rename_i e1
        subst e1
        cases e
        obtain ⟨x, rfl, h1, hn⟩ := s.one
        exact se_rev h.K h1
      · cases e
    · cases e
  case bitlen =>
    unfold exBits at e
    split at e
    · split at e
      · rename_i e1
        obtain ⟨rfl, e2, e3⟩ := e1
        cases e
        obtain ⟨x, rfl, h1, hn⟩ := s.one
        exact se_bits h1 (bare_ok e2) e3
      · cases e
    · cases e
  case index => cases e
  case rngl =>
    unfold exRngl at e
    split at e
    · split at e
      · rename_i e1
        obtain ⟨rfl, rfl, e2, e3⟩ := e1
        cases e
        obtain ⟨x, rfl, h1, hn⟩ := s.one
        obtain ⟨g1, g2, _⟩ := fr_of h e2
        obtain ⟨g3, g4, _⟩ := fr_of h e3
        exact se_rngl1 h.calm g1 g2 g3 g4 h1 hn
      · cases e
    · cases e
end
end Pv

/-! Pv17: the reader of expressions. -/
namespace Pv
open PySem PySem.Spec PyProof.Rows L2

def slotB (c : Cc) (i : Nat) (x : Str) : Bool := (c.N[i]? == some x) && visB c.sc x && plainN x
def nameB (c : Cc) (i : Nat) : Expr → Bool
  | .Name x _ => slotB c i x
  | _ => false
def cstB : D → Expr → Bool
  | .int i, .Constant (.int j) _ _ => i == j
  | .bl i, .Constant (.bool j) _ _ => i == j
  | .non, .Constant .none _ _ => true
  | .str i, .Constant (.str j) _ _ => i == j
  | _, _ => false
def globB (M : Mo) (c : Cc) (x : Str) (d : D) : Expr → Bool
  | .Name y _ => x == y && glB c x && plainN x && (M.con.any fun p => p.1 == x && D.beq p.2 d)
  | _ => false
def locC (c : Cc) (x : Str) : Bool := c.sc.names.lookup x == some .local || (c.sc.names.lookup x == some .cell && c.fn x)
def namesB (c : Cc) : List Nat → List Expr → Bool
  | [], [] => true
  | i :: is, .Name x _ :: es => (c.N[i]? == some x) && locC c x && namesB c is es
  | _, _ => false
def tgB (c : Cc) : Tg → Expr → Bool
  | .name i, .Name x _ => (c.N[i]? == some x) && locC c x
  | .tup is, .Tuple es _ _ => namesB c is es
  | _, _ => false
def itEx (M : Mo) (c : Cc) (tge : Expr) : ItK → Expr → Option (List Expr)
  | .many, e => some [e]
  | .rng1, .Call (.Name f _) [a] [] _ => if f = "range" ∧ frB M c f = true then some [a] else none
  | .rng2, .Call (.Name f _) [a, b] [] _ => if f = "range" ∧ frB M c f = true then some [a, b] else none
  | .enum, .Call (.Name f _) [a] [] _ => match tge with
    | .Tuple _ _ _ => if f = "enumerate" ∧ frB M c f = true then some [a] else none
    | _ => none
  | .zip, .Call (.Name f _) [a, b] [] _ => match tge with
    | .Tuple _ _ _ => if f = "zip" ∧ frB M c f = true then some [a, b] else none
    | _ => none
  | _, _ => none
def blkB (c : Cc) (own : List (Str × Nat)) (scope : Scope) : Bool :=
  (scope.kind == .function) && (scope.names.all fun y => scope.names.lookup y.1 == some y.2) && (own.all fun p => c.N[p.2]? == some p.1) &&
  (scope.names.all fun y => !(y.2 == .free) || (c.sc.names.lookup y.1 == some .cell || c.sc.names.lookup y.1 == some .free)) &&
  (scope.names.all fun y => !(y.2 == .local || y.2 == .cell) || (own.map (·.1)).contains y.1 || !c.N.contains y.1)
def inC (c : Cc) (scope : Scope) : Cc := ⟨c.N, relS scope c.sc, fun x => scope.names.lookup x == some .cell⟩
def pathB (c : Cc) (i : Nat) : List Nat → Expr → Bool
  | [], .Name x _ => slotB c i x
  | n :: p, .Subscript e (.Constant (.int k) _ _) _ => k == Int.ofNat n && pathB c i p e
  | _, _ => false
def cmpI : O → Option CmpOp
  | .lt => some .Lt | .le => some .LtE | .gt => some .Gt | .ge => some .GtE
  | _ => none
def kwNames (kws : List Keyword) : List Str := kws.filterMap (·.arg)
def kwVals (kws : List Keyword) : List Expr := kws.map (·.value)
/-- o.m(e) on one line: the receiver, the method, the arguments -/
def methEx : Expr → Option (Expr × Str × List Expr)
  | .Call (.Attribute o m ap) as [] p => if (ap.endLine == p.line) = true then some (o, m, as) else none
  | _ => none
theorem methEx_ok {ex o : Expr} {m : Str} {as : List Expr} (h : methEx ex = some (o, m, as)) : ∃ ap p, ex = .Call (.Attribute o m ap) as [] p ∧ (ap.endLine == p.line) = true := by
  unfold methEx at h
  split at h
  · split at h
    · rename_i e; cases h; exact ⟨_, _, rfl, e⟩
    · cases h
  · cases h
def noSetI : Expr → Bool
  | .Set .. => false
  | _ => true
theorem foldI {e : Expr} {env : PySem.Env} (h : noSetI e = true) : ∀ x, foldedSetIterable e env x = pure x := by
  intro x
  cases e <;> first | rfl | (simp [noSetI] at h)

mutual
def mE (M : Mo) : E → Cc → BoolOp → List Expr → Expr → Bool
  | .and_ a b, c, op, rest, ex => match rest with
    | y :: r => decide (op = .And) && mE M a c .And [] ex && mE M b c .And r y
    | [] => match ex with
      | .BoolOp .And (x :: y :: r) _ => mE M a c .And [] x && mE M b c .And r y
      | _ => false
  | .or_ a b, c, op, rest, ex => match rest with
    | y :: r => decide (op = .Or) && mE M a c .Or [] ex && mE M b c .Or r y
    | [] => match ex with
      | .BoolOp .Or (x :: y :: r) _ => mE M a c .Or [] x && mE M b c .Or r y
      | _ => false
  | .brw e, c, op, rest, ex => mE M e c op rest ex
  | .bad, _, _, _, _ => true
  | .var i, c, _, rest, ex => rest.isEmpty && nameB c i ex
  | .mv i, c, _, rest, ex => rest.isEmpty && nameB c i ex
  | .cst d, _, _, rest, ex => rest.isEmpty && cstB d ex
  | .glob x d, c, _, rest, ex => rest.isEmpty && globB M c x d ex
  | .op o es, c, _, rest, ex => rest.isEmpty && match opEx M c o ex with
    | some xs => mEs M es c xs
    | none => false
  | .tup es, c, _, rest, ex => rest.isEmpty && match ex with
    | .Tuple xs _ _ => mEs M es c xs
    | _ => false
  | .lst es, c, _, rest, ex => rest.isEmpty && match ex with
    | .List xs _ => mEs M es c xs
    | _ => false
  | .call f es perm, c, _, rest, ex => rest.isEmpty && match ex with
    | .Call (.Name x _) args kws _ => decide (x = f) && glB c f && plainN f && (M.fns.any fun p => p.1 == f) && (match perm with
      | [] => kws.isEmpty && mEs M es c args
      | q :: qs => args.isEmpty && (kws.all fun k => k.arg.isSome) && M.kws.contains (f, kwNames kws, q :: qs) && mEs M es c (kwVals kws))
    | _ => false
  | .callL f i es, c, _, rest, ex => rest.isEmpty && match ex with
    | .Call (.Name x _) (y :: args) [] _ => decide (x = f) && glB c f && plainN f && (M.fns.any fun p => p.1 == f) && nameB c i y && mEs M es c args
    | _ => false
  | .not_ a, c, _, rest, ex => rest.isEmpty && match ex with
    | .UnaryOp .Not x _ => mE M a c .And [] x
    | _ => false
  | .ite t a b, c, _, rest, ex => rest.isEmpty && match ex with
    | .IfExp et ea eb _ => mE M t c .And [] et && mE M a c .And [] ea && mE M b c .And [] eb
    | _ => false
  | .chain o o' a b d, c, _, rest, ex => rest.isEmpty && match ex with
    | .Compare ea [op, op'] [eb, ed] _ => (cmpI o == some op) && (cmpI o' == some op') && noSet ed && mE M a c .And [] ea && mE M b c .And [] eb && mE M d c .And [] ed
    | _ => false
  | .sl a lo hi, c, _, rest, ex => rest.isEmpty && match ex with
    | .Subscript ea (.Slice el eh none _) _ => mE M a c .And [] ea && mEs M lo c el.toList && mEs M hi c eh.toList
    | _ => false
  | .meth o T a es, c, _, rest, ex => rest.isEmpty && match methEx ex with
    | some (r, m, xs) => decide (o = .index) && decide (T = "list") && decide (m = "index") && bareB r && decide (xs.length = 1) && mE M a c .And [] r && mEs M es c xs
    | none => false
  | .comp own tg k src elt cond, c, _, rest, ex => rest.isEmpty && match ex with
    | .ListComp elte [⟨tge, iter, ifs, z⟩] scope _ => decide (z = 0) && blkB c own scope && tgB (inC c scope) tg tge && noSetI iter && decide (ifs.length ≤ 1) && (match itEx M c tge k iter with
      | some xs => mEs M src c xs
      | none => false) && mE M elt (inC c scope) .And [] elte && mEs M cond (inC c scope) ifs
    | _ => false
  | .app i e, c, _, rest, ex => rest.isEmpty && match methEx ex with
    | some (.Name x _, m, [y]) => decide (m = "append") && slotB c i x && notStar y && mE M e c .And [] y
    | _ => false
  | .appP i path e, c, _, rest, ex => rest.isEmpty && match methEx ex with
    | some (r, m, [y]) => decide (m = "append") && bareB r && pathB c i path.reverse r && notStar y && mE M e c .And [] y
    | _ => false
  | .pop i, c, _, rest, ex => rest.isEmpty && match methEx ex with
    | some (.Name x _, m, []) => decide (m = "pop") && slotB c i x
    | _ => false
  | .popAt i e, c, _, rest, ex => rest.isEmpty && match methEx ex with
    | some (.Name x _, m, [y]) => decide (m = "pop") && slotB c i x && notStar y && mE M e c .And [] y
    | _ => false
  | .rem i e, c, _, rest, ex => rest.isEmpty && match methEx ex with
    | some (.Name x _, m, [y]) => decide (m = "remove") && slotB c i x && notStar y && mE M e c .And [] y
    | _ => false
  | .pix i e, c, _, rest, ex => rest.isEmpty && match ex with
    | .Subscript (.Name x _) y _ => slotB c i x && noSl y && mE M e c .And [] y
    | _ => false
def mEs (M : Mo) : Es → Cc → List Expr → Bool
  | .nil, _, xs => xs.isEmpty
  | .cons e es, c, xs => match xs with
    | x :: xs => notStar x && mE M e c .And [] x && mEs M es c xs
    | [] => false
end
end Pv

/-! Pv18: what the reader takes is right. -/
namespace Pv
open PySem PySem.Spec PyProof.Rows L2

section
variable {M : Mo} {G : Gx} {cl : Str → List U → RC} {P : List Nat}
abbrev Both (G : Gx) (W : WX) (cl : Str → List U → RC) (P : List Nat) (X : Cx) (e : E) (op : BoolOp) (rest : List Expr) (ex : Expr) : Prop := (∀ pos, SW G W cl P X e (.BoolOp op (ex :: rest) pos)) ∧ (rest = [] → SE G W cl P X e ex)
theorem both {W : WX} {X : Cx} {e : E} {op : BoolOp} {rest : List Expr} {ex : Expr} (h : rest.isEmpty = true) (s : SE G W cl P X e ex) : Both G W cl P X e op rest ex := by
  cases rest with
  | nil => exact ⟨fun pos => se_one s, fun _ => s⟩
  | cons y r => simp at h
theorem te_bad {W : WX} {σ : L2.St} {H : Hp} {Q : VK} (h : TEr G W cl P .bad σ H Q) : False := by
  obtain ⟨F, ρ, os, I, h⟩ := h
  simp only [evE] at h
  exact h
theorem se_bad {W : WX} {X : Cx} {ex : Expr} : SE G W cl P X .bad ex := ⟨⟨fun _ _ _ _ _ _ h => (te_bad h).elim⟩, ⟨fun _ _ _ _ _ _ h => (te_bad h).elim⟩⟩
theorem sw_bad {W : WX} {X : Cx} {ex : Expr} : SW G W cl P X .bad ex := ⟨⟨fun _ _ _ _ _ _ h => (te_bad h).elim⟩, ⟨fun _ _ _ _ _ _ _ h => (te_bad h).elim⟩⟩
theorem sw_brw {W : WX} {X : Cx} {e : E} {ex : Expr} (s : SW G W cl P X e ex) : SW G W cl P X (.brw e) ex :=
  ⟨PE.imp s.pe fun σ H Q h => te_brw h, PW.imp s.pw fun σ H Q h => te_brw h⟩
section
variable {W : WX} {X : Cx} {c : Cc}
theorem slot_of (h : XOk M G c X cl) {i : Nat} {x : Str} (e : slotB c i x = true) : X.N[i]? = some x ∧ visB X.env.scope x = true ∧ plainN x = true := by
  simp only [slotB, Bool.and_eq_true, beq_iff_eq] at e
  rw [h.N, h.sc]
  exact ⟨e.1.1, e.1.2, e.2⟩
theorem loc_c (h : XOk M G c X cl) {x : Str} (e : locC c x = true) : locB X x = true := by
  unfold locC at e
  unfold locB
  rw [h.sc, h.fn]
  exact e
theorem names_of (h : XOk M G c X cl) : ∀ {is : List Nat} {es : List Expr}, namesB c is es = true → namesAre X is es
  | [], [], _ => rfl
  | [], _ :: _, e => by simp [namesB] at e
  | i :: is, [], e => by simp [namesB] at e
  | i :: is, y :: es, e => by
    cases y <;> simp only [namesB] at e <;> try (cases e; done)
    rename_i x p
    simp only [Bool.and_eq_true, beq_iff_eq] at e
    exact ⟨x, p, es, rfl, by rw [h.N]; exact e.1.1, loc_c h e.1.2, names_of h e.2⟩
theorem tg_of (h : XOk M G c X cl) {tg : Tg} {tge : Expr} (e : tgB c tg tge = true) (P : List Nat) : ST G P X tg tge := by
  unfold tgB at e
  split at e
  · simp only [Bool.and_eq_true, beq_iff_eq] at e
    exact st_name h.nd (by rw [h.N]; exact e.1) (loc_c h e.2)
  · exact st_tup h.K h.calm h.nd (names_of h e)
  · cases e
theorem it_of (h : XOk M G c X cl) {tge iter : Expr} {k : ItK} {xs : List Expr} {src : Es} (e : itEx M c tge k iter = some xs) (s : SEs G W cl P X src xs) : SI G W cl P X tge k src iter := by
  unfold itEx at e
  split at e
  · cases e
    obtain ⟨a, rfl, h1, _⟩ := s.one
    exact si_many h.K h1
  · split at e
    · rename_i e1
      obtain ⟨rfl, e1⟩ := e1
      cases e
      obtain ⟨a, rfl, h1, hn⟩ := s.one
      obtain ⟨g1, g2, _⟩ := fr_of h e1
      exact si_rng1 g1 g2 h1 hn
    · cases e
  · split at e
    · rename_i e1
      obtain ⟨rfl, e1⟩ := e1
      cases e
      obtain ⟨a, b, rfl, h1, h2, hn, hn'⟩ := s.two
      obtain ⟨g1, g2, _⟩ := fr_of h e1
      exact si_rng2 g1 g2 h1 h2 hn hn'
    · cases e
  · split at e
    · split at e
      · rename_i e1
        obtain ⟨rfl, e1⟩ := e1
        cases e
        obtain ⟨a, rfl, h1, hn⟩ := s.one
        obtain ⟨g1, g2, _⟩ := fr_of h e1
        exact si_enum h.K g1 g2 h1 hn
      · cases e
    · cases e
  · split at e
    · split at e
      · rename_i e1
        obtain ⟨rfl, e1⟩ := e1
        cases e
        obtain ⟨a, b, rfl, h1, h2, hn, hn'⟩ := s.two
        obtain ⟨g1, g2, _⟩ := fr_of h e1
        exact si_zip h.K g1 g2 h1 h2 hn hn'
      · cases e
    · cases e
  · cases e
theorem blk_of (h : XOk M G c X cl) {own : List (Str × Nat)} {scope : Scope} (e : blkB c own scope = true) : BlkOk X.N X.env.scope scope own := by
  simp only [blkB, Bool.and_eq_true, beq_iff_eq, List.all_eq_true, Bool.or_eq_true, Bool.not_eq_true'] at e
  obtain ⟨⟨⟨⟨e1, e2⟩, e3⟩, e4⟩, e5⟩ := e
  refine ⟨e1, e2, fun p hp => by rw [h.N]; exact e3 p hp, fun y hy hf => ?_, fun y hy hl => ?_⟩
  · rw [h.sc]
    rcases e4 y hy with q | q
    · rw [hf] at q; cases q
    · exact q
  · rcases e5 y hy with (q | q) | q
    · rcases hl with hl | hl <;> rw [hl] at q <;> simp at q
    · exact .inl (by simpa using q)
    · exact .inr (by rw [h.N]; simpa using q)
/-- within a comprehension's block -/
theorem XOk.blk (h : XOk M G c X cl) (s : Shared) (H : Hp) (scope : Scope) (C : Addr) (cl' : List (Str × Addr)) (fp : List Addr) : XOk M G (inC c scope) (X.blk s H scope (compEnvC scope cl' C X.env) fp) cl where
  N := h.N
  nd := h.nd
  sc := by
    show relS scope X.env.scope = relS scope c.sc
    rw [h.sc]
  K := h.K
  mg := h.mg
  calm := h.calm
  fn := fun x => rfl
  units := h.units
  free := h.free
  con := h.con
  fns := h.fns
theorem takes_wf {X : Cx} : Takes X WF := fun u s' x => by
  obtain ⟨a, B, sI, pins, σ, H, cls, d, _, _, _, _, _, _, _, _, w⟩ := x
  exact w.elim
theorem conds {cond : Es} {ifs : List Expr} (s : SEs G WF cl P X cond ifs) (hl : ifs.length ≤ 1) : condOk cl P G X cond ifs := by
  cases ifs with
  | nil =>
    cases cond with
    | nil => trivial
    | cons _ _ => exact s.elim
  | cons x xs =>
    cases xs with
    | nil =>
      obtain ⟨a, rfl, h1, _⟩ := SEs.one s
      exact h1
    | cons y ys => simp at hl
theorem SEs.len : ∀ {es : Es} {xs : List Expr}, SEs G W cl P X es xs → es.len = xs.length := by
  intro es
  induction es using Es.rec (motive_1 := fun _ => True) with
  | nil =>
    intro xs h
    cases xs with
    | nil => rfl
    | cons x xs => exact h.elim
  | cons e es _ ih =>
    intro xs h
    cases xs with
    | nil => exact h.elim
    | cons x xs => simp only [Es.len, List.length_cons]; rw [ih h.2.2]
  | _ => trivial
theorem path_of (h : XOk M G c X cl) {i : Nat} : ∀ {p : List Nat} {e : Expr}, pathB c i p e = true → PE X e (tPath X.K i p.reverse)
  | [], e, q => by
    cases e <;> simp only [pathB] at q <;> try (cases q; done)
    obtain ⟨h1, h2, h3⟩ := slot_of h q
    exact pe_path0 h1 h2 h3
  | n :: p, e, q => by
    unfold pathB at q
    split at q
    · contradiction
    · rename_i n' p' e' k _ _ _ hh
      cases hh
      simp only [Bool.and_eq_true, beq_iff_eq] at q
      obtain ⟨rfl, q⟩ := q
      rw [List.reverse_cons]
      exact pe_path1 (path_of h q)
    · cases q
/-- calls -/
theorem call_of (h : XOk M G c X cl) (tk : Takes X W) {f : Str} {es : Es} {args : List Expr} {p pos : Pos} (hg : glB c f = true) (hp : plainN f = true) (hf : (M.fns.any fun p => p.1 == f) = true) (s : SEs G W cl P X es args) :
    SE G W cl P X (.call f es []) (.Call (.Name f p) args [] pos) := by
  obtain ⟨q, hq, e⟩ := List.any_eq_true.mp hf
  rw [beq_iff_eq] at e
  subst e
  obtain ⟨k, a, fd, ps, F, hr, hm, hk, hb, hn, _⟩ := h.fns q hq
  simp only [plainN, Bool.and_eq_true, Bool.not_eq_true'] at hp
  have hx : ∀ σ, PassesAt (L2.CX X.prog X.w) X σ (WE W σ) := passAt tk
  have key : ∀ σ H Q, TEr G W cl P (.call q.1 es []) σ H Q → tCallS (SpF G cl q.1 q.2) (WE W) (TAr G W cl P es) σ H Q := fun σ H Q => te_call hn
  have hP : PE X (.Call (.Name q.1 p) args [] pos) (TEr G W cl P (.call q.1 es [])) := by
    cases args with
    | nil =>
      refine ⟨fun pins s' σ H Q I hh => ?_⟩
      refine wpAny_Call_Name_kw (ld_glob I (gl_of h hg) hm ?_ hp.1.1)
      have h2 := key σ H Q hh
      have hne : es = .nil := by
        cases es with
        | nil => rfl
        | cons _ _ => exact s.elim
      subst hne
      obtain ⟨F0, ρ, os, I0, h3⟩ := h2
      simp only [evEs, GA] at h3
      have h4 := h3 F0 H os [] [] I0 (by simp [RepUs]) (by simpa using I0.nd) Step.refl (by simp [Lks])
      exact PySem.W.callWith_K0 I.kIn hk (run_fnS (us := []) F hr hb (hx σ) I .nil h4)
    | cons a as => exact PE.imp (pe_callS F hr (gl_of h hg) hm hk hb hx s.sa hp.1.1 (starEach_of (by have := s.stars; simp only [stars, Bool.and_eq_true] at this; exact this.1)) (stars_ok (by have := s.stars; simp only [stars, Bool.and_eq_true] at this; exact this.2))) key
  exact ⟨hP, pt_val hP⟩
theorem callL_of (h : XOk M G c X cl) (tk : Takes X W) {f : Str} {i : Nat} {es : Es} {y : Expr} {args : List Expr} {p pos : Pos} (hg : glB c f = true) (hp : plainN f = true) (hf : (M.fns.any fun p => p.1 == f) = true) (hy : nameB c i y = true) (s : SEs G W cl P X es args) :
    SE G W cl P X (.callL f i es) (.Call (.Name f p) (y :: args) [] pos) := by
  obtain ⟨q, hq, e⟩ := List.any_eq_true.mp hf
  rw [beq_iff_eq] at e
  subst e
  obtain ⟨k, a, fd, ps, F, hr, hm, hk, hb, hn, _⟩ := h.fns q hq
  simp only [plainN, Bool.and_eq_true, Bool.not_eq_true'] at hp
  have hx : ∀ σ, PassesAt (L2.CX X.prog X.w) X σ (WE W σ) := passAt tk
  unfold nameB at hy
  split at hy
  · rename_i x py
    obtain ⟨h1, h2, h3⟩ := slot_of h hy
    simp only [plainN, Bool.and_eq_true, Bool.not_eq_true'] at h3
    have hv : PE X (.Name x py) (tVar i) := pe_var h1 (vis_of h2) h3.1.1 h3.1.2
    have hP : PE X (.Call (.Name q.1 p) (.Name x py :: args) [] pos) (TEr G W cl P (.callL q.1 i es)) :=
      PE.imp (pe_callS F hr (gl_of h hg) hm hk hb hx (pa_cons hv s.sa (starEach_of rfl)) hp.1.1 (starEach_of rfl) (stars_ok s.stars)) fun σ H Q => te_callL hn
    exact ⟨hP, pt_val hP⟩
  · cases hy
/-- the keywords' values -/
theorem pk_of : ∀ {kws : List Keyword} {es : Es}, (kws.all fun k => k.arg.isSome) = true → SEs G W cl P X es (kws.map (·.value)) → PK X kws (TAr G W cl P es)
  | [], es, _, s => by
    match es, s with
    | .nil, _ =>
      refine ⟨fun pos pins st σ H Q I hh => pk_nil.run pos pins st σ H Q I ?_⟩
      obtain ⟨F0, ρ, os, I0, h3⟩ := hh
      simp only [evEs, GA] at h3
      exact h3 F0 H os [] [] I0 (by simp [RepUs]) (by simpa using I0.nd) Step.refl (by simp [Lks])
  | ⟨nm, v, kp⟩ :: kws, es, ha, s => by
    match es, s with
    | .cons e es, s =>
      simp only [List.all_cons, Bool.and_eq_true] at ha
      have ih := pk_of (kws := kws) ha.2 s.2.2
      refine ⟨fun pos pins st σ H Q I hh => (pk_cons (nm := nm) (kpos := kp) s.1.pe ih).run pos pins st σ H Q I (tcons hh)⟩
theorem kw_names {env : PySem.Env} {pos : Pos} : ∀ {kws : List Keyword}, (kws.all fun k => k.arg.isSome) = true → (backToKw pos (keywordEach kws env)).all (·.1.isSome) = true ∧ (backToKw pos (keywordEach kws env)).filterMap (·.1) = kwNames kws ∧ (backToKw pos (keywordEach kws env)).any (·.1.isNone) = false
  | [], _ => ⟨rfl, rfl, rfl⟩
  | ⟨nm, v, kp⟩ :: kws, h => by
    simp only [List.all_cons, Bool.and_eq_true] at h
    obtain ⟨h1, h2, h3⟩ := kw_names (env := env) (pos := pos) h.2
    obtain ⟨n, rfl⟩ := Option.isSome_iff_exists.mp h.1
    refine ⟨?_, ?_, ?_⟩
    · show (true && (backToKw pos (keywordEach kws env)).all (·.1.isSome)) = true
      rw [h1]; rfl
    · show n :: (backToKw pos (keywordEach kws env)).filterMap (·.1) = _
      rw [h2]; rfl
    · show (false || (backToKw pos (keywordEach kws env)).any (·.1.isNone)) = false
      rw [h3]; rfl
theorem callK_of (h : XOk M G c X cl) (tk : Takes X W) {f : Str} {es : Es} {kws : List Keyword} {q0 : Nat} {qs : List Nat} {p pos : Pos} (hg : glB c f = true) (hp : plainN f = true) (hf : (M.fns.any fun p => p.1 == f) = true) (ha : (kws.all fun k => k.arg.isSome) = true)
    (hc : M.kws.contains (f, kwNames kws, q0 :: qs) = true) (s : SEs G W cl P X es (kwVals kws)) : SE G W cl P X (.call f es (q0 :: qs)) (.Call (.Name f p) [] kws pos) := by
  obtain ⟨q, hq, e⟩ := List.any_eq_true.mp hf
  rw [beq_iff_eq] at e
  subst e
  obtain ⟨k, a, fd, ps, F, hr, hm, hk, hb, hn, hkw⟩ := h.fns q hq
  simp only [plainN, Bool.and_eq_true, Bool.not_eq_true'] at hp
  have hx : ∀ σ, PassesAt (L2.CX X.prog X.w) X σ (WE W σ) := passAt tk
  obtain ⟨n1, n2, n3⟩ := kw_names (env := X.env) (pos := pos) ha
  have hB := hkw _ (List.contains_iff_mem.mp hc) rfl
  have el : es.len = (kwNames kws).length := by
    rw [s.len]
    unfold kwVals kwNames
    rw [List.length_map]
    clear s hc hB n1 n2 n3
    induction kws with
    | nil => rfl
    | cons a l ih =>
      simp only [List.all_cons, Bool.and_eq_true] at ha
      obtain ⟨n, en⟩ := Option.isSome_iff_exists.mp ha.1
      rw [List.length_cons, List.filterMap_cons, en]
      simp only [List.length_cons]
      rw [ih ha.2]
  have hP : PE X (.Call (.Name q.1 p) [] kws pos) (TEr G W cl P (.call q.1 es (q0 :: qs))) :=
    PE.imp (pe_callN0 (ks := kwNames kws) (perm := q0 :: qs) F hr (gl_of h hg) hm hk hB hx (pk_of ha s) n1 n2 hp.1.1 (by rw [n3]; rfl)) fun σ H Q hh => te_callK el hn hh
  exact ⟨hP, pt_val hP⟩
def rI (o : O) : Option (Int → Int → Bool) := match o with
  | .lt => some fun i j => decide (i < j)
  | .le => some fun i j => decide (i ≤ j)
  | .gt => some fun i j => decide (j < i)
  | .ge => some fun i j => decide (j ≤ i)
  | _ => none
theorem cmpI_ok {o : O} {op : CmpOp} (h : cmpI o = some op) : ∃ g : Int → Int → Bool, OpR X (compareOp op) (rI0 fun i j => .bl (g i j)) ∧ Den G o (rI0 fun i j => .bl (g i j)) := by
  cases o <;> simp only [cmpI] at h <;> cases h
  · exact ⟨_, op_lt, den_int fun _ _ => rfl⟩
  · exact ⟨_, op_le, den_int fun _ _ => rfl⟩
  · exact ⟨_, op_gt, den_int fun _ _ => rfl⟩
  · exact ⟨_, op_ge, den_int fun _ _ => rfl⟩
end
end
end Pv

/-! Pv19: the reader's words about expressions are right. -/
namespace Pv
open PySem PySem.Spec PyProof.Rows L2

section
variable {M : Mo} {G : Gx} {cl : Str → List U → RC} {P : List Nat}
theorem and2 {a b : Bool} (h : (a && b) = true) : a = true ∧ b = true := by simpa using h
mutual
theorem mE_ok : ∀ (e : E) {c : Cc} {op : BoolOp} {rest : List Expr} {ex : Expr}, mE M e c op rest ex = true → ∀ {W : WX} {X : Cx}, XOk M G c X cl → Takes X W → Both G W cl P X e op rest ex
  | .and_ a b, c, op, rest, ex, h, W, X, hX, tk => by
    simp only [mE] at h
    cases rest with
    | cons y r =>
      simp only [Bool.and_eq_true, decide_eq_true_eq] at h
      obtain ⟨⟨rfl, h1⟩, h2⟩ := h
      have s1 := (mE_ok a h1 hX tk).2 rfl
      have s2 := (mE_ok b h2 hX tk).1
      exact ⟨fun pos => se_and s1 (s2 pos), fun e => by cases e⟩
    | nil =>
      simp only at h
      split at h
      · rename_i pp
        obtain ⟨h1, h2⟩ := and2 h
        have s1 := (mE_ok a h1 hX tk).2 rfl
        have s2 := (mE_ok b h2 hX tk).1
        exact both rfl (se_and s1 (s2 pp)).se
      · cases h
  | .or_ a b, c, op, rest, ex, h, W, X, hX, tk => by
    simp only [mE] at h
    cases rest with
    | cons y r =>
      simp only [Bool.and_eq_true, decide_eq_true_eq] at h
      obtain ⟨⟨rfl, h1⟩, h2⟩ := h
      have s1 := (mE_ok a h1 hX tk).2 rfl
      have s2 := (mE_ok b h2 hX tk).1
      exact ⟨fun pos => se_or s1 (s2 pos), fun e => by cases e⟩
    | nil =>
      simp only at h
      split at h
      · rename_i pp
        obtain ⟨h1, h2⟩ := and2 h
        have s1 := (mE_ok a h1 hX tk).2 rfl
        have s2 := (mE_ok b h2 hX tk).1
        exact both rfl (se_or s1 (s2 pp)).se
      · cases h
  | .brw e, c, op, rest, ex, h, W, X, hX, tk => by
    simp only [mE] at h
    have s := mE_ok e h hX tk
    exact ⟨fun pos => sw_brw (s.1 pos), fun hr => se_brw (s.2 hr)⟩
  | .bad, c, op, rest, ex, h, W, X, hX, tk => ⟨fun _ => sw_bad, fun _ => se_bad⟩
  | .var i, c, op, rest, ex, h, W, X, hX, tk => by
    simp only [mE] at h
    obtain ⟨hr, h⟩ := and2 h
    refine both hr ?_
    cases ex <;> simp only [nameB] at h <;> try (cases h; done)
    obtain ⟨h1, h2, h3⟩ := slot_of hX h
    exact se_var h1 h2 h3
  | .mv i, c, op, rest, ex, h, W, X, hX, tk => by
    simp only [mE] at h
    obtain ⟨hr, h⟩ := and2 h
    refine both hr ?_
    cases ex <;> simp only [nameB] at h <;> try (cases h; done)
    obtain ⟨h1, h2, h3⟩ := slot_of hX h
    exact se_mv h1 h2 h3
  | .cst d, c, op, rest, ex, h, W, X, hX, tk => by
    simp only [mE] at h
    obtain ⟨hr, h⟩ := and2 h
    refine both hr ?_
    unfold cstB at h
    split at h
    · rw [beq_iff_eq] at h; subst h; exact se_int
    · rw [beq_iff_eq] at h; subst h; exact se_bl
    · exact se_non
    · rw [beq_iff_eq] at h; subst h; exact se_str
    · cases h
  | .glob x d, c, op, rest, ex, h, W, X, hX, tk => by
    simp only [mE] at h
    obtain ⟨hr, h⟩ := and2 h
    refine both hr ?_
    cases ex <;> simp only [globB] at h <;> try (cases h; done)
    simp only [Bool.and_eq_true, beq_iff_eq, List.any_eq_true] at h
    obtain ⟨⟨⟨rfl, h2⟩, h3⟩, p, hp, e1, e2⟩ := h
    obtain ⟨v, u, g1, g2, g3⟩ := hX.con p hp
    rw [D.beq_eq e2] at g3
    rw [e1] at g1
    exact se_glob (gl_of hX h2) (by rw [hX.mg]; exact g1) g2 g3 h3
  | .op o es, c, op, rest, ex, h, W, X, hX, tk => by
    simp only [mE] at h
    obtain ⟨hr, h⟩ := and2 h
    refine both hr ?_
    cases e : opEx M c o ex with
    | none => rw [e] at h; cases h
    | some xs =>
      rw [e] at h
      exact opEx_ok hX e (mEs_ok es h hX tk)
  | .tup es, c, op, rest, ex, h, W, X, hX, tk => by
    simp only [mE] at h
    obtain ⟨hr, h⟩ := and2 h
    refine both hr ?_
    split at h
    · exact se_tup (mEs_ok es h hX tk).sa
    · cases h
  | .lst es, c, op, rest, ex, h, W, X, hX, tk => by
    simp only [mE] at h
    obtain ⟨hr, h⟩ := and2 h
    refine both hr ?_
    split at h
    · exact se_lst (mEs_ok es h hX tk).sa
    · cases h
  | .call f es perm, c, op, rest, ex, h, W, X, hX, tk => by
    simp only [mE] at h
    obtain ⟨hr, h⟩ := and2 h
    refine both hr ?_
    split at h
    · obtain ⟨h, h5⟩ := and2 h
      obtain ⟨h, h4⟩ := and2 h
      obtain ⟨h, h3⟩ := and2 h
      obtain ⟨h1, h2⟩ := and2 h
      have h1 := of_decide_eq_true h1
      subst h1
      cases perm with
      | nil =>
        obtain ⟨hk, h5⟩ := and2 h5
        have hk := List.isEmpty_iff.mp hk
        subst hk
        exact call_of hX tk h2 h3 h4 (mEs_ok es h5 hX tk)
      | cons q0 qs =>
        obtain ⟨h5, h8⟩ := and2 h5
        obtain ⟨h5, h7⟩ := and2 h5
        obtain ⟨h5, h6⟩ := and2 h5
        have h5 := List.isEmpty_iff.mp h5
        subst h5
        exact callK_of hX tk h2 h3 h4 h6 h7 (mEs_ok es h8 hX tk)
    · cases h
  | .callL f i es, c, op, rest, ex, h, W, X, hX, tk => by
    simp only [mE] at h
    obtain ⟨hr, h⟩ := and2 h
    refine both hr ?_
    split at h
    · obtain ⟨h, h6⟩ := and2 h
      obtain ⟨h, h5⟩ := and2 h
      obtain ⟨h, h4⟩ := and2 h
      obtain ⟨h, h3⟩ := and2 h
      obtain ⟨h1, h2⟩ := and2 h
      have h1 := of_decide_eq_true h1
      subst h1
      exact callL_of hX tk h2 h3 h4 h5 (mEs_ok es h6 hX tk)
    · cases h
  | .not_ a, c, op, rest, ex, h, W, X, hX, tk => by
    simp only [mE] at h
    obtain ⟨hr, h⟩ := and2 h
    refine both hr ?_
    split at h
    · exact se_not ((mE_ok a h hX tk).2 rfl)
    · cases h
  | .ite t a b, c, op, rest, ex, h, W, X, hX, tk => by
    simp only [mE] at h
    obtain ⟨hr, h⟩ := and2 h
    refine both hr ?_
    split at h
    · obtain ⟨h, h3⟩ := and2 h
      obtain ⟨h1, h2⟩ := and2 h
      exact se_ite ((mE_ok t h1 hX tk).2 rfl) ((mE_ok a h2 hX tk).2 rfl) ((mE_ok b h3 hX tk).2 rfl)
    · cases h
  | .chain o o' a b d, c, op, rest, ex, h, W, X, hX, tk => by
    simp only [mE] at h
    obtain ⟨hr, h⟩ := and2 h
    refine both hr ?_
    split at h
    · obtain ⟨h, h6⟩ := and2 h
      obtain ⟨h, h5⟩ := and2 h
      obtain ⟨h, h4⟩ := and2 h
      obtain ⟨h, h3⟩ := and2 h
      obtain ⟨h1, h2⟩ := and2 h
      rw [beq_iff_eq] at h1 h2
      obtain ⟨g, k1, k2⟩ := cmpI_ok (X := X) (G := G) h1
      obtain ⟨g', k3, k4⟩ := cmpI_ok (X := X) (G := G) h2
      exact se_chain k1 k3 k2 k4 ((mE_ok a h4 hX tk).2 rfl) ((mE_ok b h5 hX tk).2 rfl) ((mE_ok d h6 hX tk).2 rfl) (marks_of h3)
    · cases h
  | .sl a lo hi, c, op, rest, ex, h, W, X, hX, tk => by
    simp only [mE] at h
    obtain ⟨hr, h⟩ := and2 h
    refine both hr ?_
    split at h
    · rename_i ea el eh _ _
      obtain ⟨h, h3⟩ := and2 h
      obtain ⟨h1, h2⟩ := and2 h
      have part : ∀ {lo : Es} {el : Option Expr}, SEs G W cl P X lo el.toList → SP G W cl P X lo el := fun {lo el} s => by
        cases el with
        | none =>
          cases lo with
          | nil => exact sp_none
          | cons _ _ => exact s.elim
        | some x =>
          obtain ⟨b, rfl, h1, _⟩ := SEs.one s
          exact sp_some h1
      exact se_sl hX.K ((mE_ok a h1 hX tk).2 rfl) (part (mEs_ok lo h2 hX tk)) (part (mEs_ok hi h3 hX tk))
    · cases h
  | .meth o T a es, c, op, rest, ex, h, W, X, hX, tk => by
    simp only [mE] at h
    obtain ⟨hr, h⟩ := and2 h
    refine both hr ?_
    cases e : methEx ex with
    | none => rw [e] at h; cases h
    | some q =>
      obtain ⟨r, m, xs⟩ := q
      rw [e] at h
      simp only at h
      obtain ⟨h, h7⟩ := and2 h
      obtain ⟨h, h6⟩ := and2 h
      obtain ⟨h, h5⟩ := and2 h
      obtain ⟨h, h4⟩ := and2 h
      obtain ⟨h, h3⟩ := and2 h
      obtain ⟨h1, h2⟩ := and2 h
      have h1 := of_decide_eq_true h1
      have h2 := of_decide_eq_true h2
      have h3 := of_decide_eq_true h3
      have h5 := of_decide_eq_true h5
      subst h1 h2 h3
      obtain ⟨ap, p, rfl, hl⟩ := methEx_ok e
      match xs, h5 with
      | [x], _ =>
        have s := mEs_ok es h7 hX tk
        exact se_meth hX.K (.inl rfl) PySem.F.plainAttrs_list PySem.F.slot_list_index PySem.F.type_list_index (mt_indexD hX.units) (by rw [hX.K]; exact den_index) ((mE_ok a h6 hX tk).2 rfl) s.sa (bare_ok h4) hl s.stars (by simp)
  | .comp own tg k src elt cond, c, op, rest, ex, h, W, X, hX, tk => by
    simp only [mE] at h
    obtain ⟨hr, h⟩ := and2 h
    refine both hr ?_
    split at h
    · rename_i elte tge iter ifs z scope _ _
      obtain ⟨h, h8⟩ := and2 h
      obtain ⟨h, h7⟩ := and2 h
      obtain ⟨h, h6⟩ := and2 h
      obtain ⟨h, h5⟩ := and2 h
      obtain ⟨h, h4⟩ := and2 h
      obtain ⟨h, h3⟩ := and2 h
      obtain ⟨h1, h2⟩ := and2 h
      have h1 := of_decide_eq_true h1
      have h5 := of_decide_eq_true h5
      subst h1
      cases e : itEx M c tge k iter with
      | none => rw [e] at h6; cases h6
      | some xs =>
        rw [e] at h6
        exact se_comp { calm := hX.calm, one := by
                          have hb : cond.len = ifs.length := (mEs_ok cond h8 (hX.blk X.s_0 X.H_0 scope 0 [] []) takes_wf).len
                          omega
                        nd := hX.nd, src := it_of hX e (mEs_ok src h6 hX tk), blk := blk_of hX h2, tg := fun s H C cl' fp => tg_of (hX.blk s H scope C cl' fp) h3 P,
                        cond := fun s H C cl' fp => conds (mEs_ok cond h8 (hX.blk s H scope C cl' fp) takes_wf) h5, elt := fun s H C cl' fp => (mE_ok elt h7 (hX.blk s H scope C cl' fp) takes_wf).2 rfl, fold := foldI h4 }
    · cases h
  | .app i e, c, op, rest, ex, h, W, X, hX, tk => by
    simp only [mE] at h
    obtain ⟨hr, h⟩ := and2 h
    refine both hr ?_
    split at h
    · rename_i x p m y e1
      obtain ⟨h, h4⟩ := and2 h
      obtain ⟨h, h3⟩ := and2 h
      obtain ⟨h1, h2⟩ := and2 h
      have h1 := of_decide_eq_true h1
      subst h1
      obtain ⟨ap, q, rfl, hl⟩ := methEx_ok e1
      obtain ⟨g1, g2, g3⟩ := slot_of hX h2
      exact se_app hX.K g1 g2 g3 ((mE_ok e h4 hX tk).2 rfl) h3 hl
    · cases h
  | .appP i path e, c, op, rest, ex, h, W, X, hX, tk => by
    simp only [mE] at h
    obtain ⟨hr, h⟩ := and2 h
    refine both hr ?_
    split at h
    · rename_i r m y e1
      obtain ⟨h, h5⟩ := and2 h
      obtain ⟨h, h4⟩ := and2 h
      obtain ⟨h, h3⟩ := and2 h
      obtain ⟨h1, h2⟩ := and2 h
      have h1 := of_decide_eq_true h1
      subst h1
      obtain ⟨ap, q, rfl, hl⟩ := methEx_ok e1
      have hp := path_of hX h3
      rw [List.reverse_reverse] at hp
      exact se_appP hX.K hp (bare_ok h2) ((mE_ok e h5 hX tk).2 rfl) h4 hl
    · cases h
  | .pop i, c, op, rest, ex, h, W, X, hX, tk => by
    simp only [mE] at h
    obtain ⟨hr, h⟩ := and2 h
    refine both hr ?_
    split at h
    · rename_i x p m e1
      obtain ⟨h1, h2⟩ := and2 h
      have h1 := of_decide_eq_true h1
      subst h1
      obtain ⟨ap, q, rfl, hl⟩ := methEx_ok e1
      obtain ⟨g1, g2, g3⟩ := slot_of hX h2
      exact se_pop hX.K g1 g2 g3 hl
    · cases h
  | .popAt i e, c, op, rest, ex, h, W, X, hX, tk => by
    simp only [mE] at h
    obtain ⟨hr, h⟩ := and2 h
    refine both hr ?_
    split at h
    · rename_i x p m y e1
      obtain ⟨h, h4⟩ := and2 h
      obtain ⟨h, h3⟩ := and2 h
      obtain ⟨h1, h2⟩ := and2 h
      have h1 := of_decide_eq_true h1
      subst h1
      obtain ⟨ap, q, rfl, hl⟩ := methEx_ok e1
      obtain ⟨g1, g2, g3⟩ := slot_of hX h2
      exact se_popAt hX.K g1 g2 g3 ((mE_ok e h4 hX tk).2 rfl) h3 hl
    · cases h
  | .rem i e, c, op, rest, ex, h, W, X, hX, tk => by
    simp only [mE] at h
    obtain ⟨hr, h⟩ := and2 h
    refine both hr ?_
    split at h
    · rename_i x p m y e1
      obtain ⟨h, h4⟩ := and2 h
      obtain ⟨h, h3⟩ := and2 h
      obtain ⟨h1, h2⟩ := and2 h
      have h1 := of_decide_eq_true h1
      subst h1
      obtain ⟨ap, q, rfl, hl⟩ := methEx_ok e1
      obtain ⟨g1, g2, g3⟩ := slot_of hX h2
      exact se_rem hX.K g1 g2 g3 ((mE_ok e h4 hX tk).2 rfl) h3 hl
    · cases h
  | .pix i e, c, op, rest, ex, h, W, X, hX, tk => by
    simp only [mE] at h
    obtain ⟨hr, h⟩ := and2 h
    refine both hr ?_
    split at h
    · obtain ⟨h, h3⟩ := and2 h
      obtain ⟨h1, h2⟩ := and2 h
      obtain ⟨g1, g2, g3⟩ := slot_of hX h1
      exact se_pix hX.K g1 g2 g3 ((mE_ok e h3 hX tk).2 rfl) h2
    · cases h
theorem mEs_ok : ∀ (es : Es) {c : Cc} {xs : List Expr}, mEs M es c xs = true → ∀ {W : WX} {X : Cx}, XOk M G c X cl → Takes X W → SEs G W cl P X es xs
  | .nil, c, xs, h, W, X, hX, tk => by
    simp only [mEs] at h
    have h := List.isEmpty_iff.mp h
    subst h
    trivial
  | .cons e es, c, xs, h, W, X, hX, tk => by
    simp only [mEs] at h
    cases xs with
    | nil => cases h
    | cons x xs =>
      obtain ⟨h, h3⟩ := and2 h
      obtain ⟨h1, h2⟩ := and2 h
      exact ⟨(mE_ok e h2 hX tk).2 rfl, h1, mEs_ok es h3 hX tk⟩
end
end
end Pv

/-! Pv20: the reader of statements. -/
namespace Pv
open PySem PySem.Spec PyProof.Rows L2

/-- the store of a comprehension in a name on its line is a step of its own -/
def swB (c : Cc) (ex tge : Expr) : Bool := match ex with
  | .ListComp _ _ sc p => (match tge with
    | .Name t q => c.sc.names.lookup t == some .local && q.line == p.line && !(sc.names.any fun (n, k) => n == t && (k == .local || k == .cell))
    | _ => false)
  | _ => false
def notSD : Expr → Bool
  | .SetComp .. => false
  | .DictComp .. => false
  | _ => true
def notComp : Expr → Bool
  | .ListComp .. => false
  | .SetComp .. => false
  | .DictComp .. => false
  | _ => true
theorem sw_ok {c : Cc} {ex tge : Expr} {l : Nat} {env : PySem.Env} (hk : env.scope.kind = .function) (hs : env.scope = c.sc) (h : notSD ex = true) : swapsWith ex (some tge) l env = pure (swB c ex tge) := by
  have hb : env.blockKind = .function := by unfold Env.blockKind; rw [hk]; rfl
  cases ex <;> try rfl
  case SetComp => simp [notSD] at h
  case DictComp => simp [notSD] at h
  case ListComp elt gs sc p =>
    cases tge <;> try rfl
    case Name t q =>
      have ky : env.kindOf t = c.sc.names.lookup t := by show env.scope.names.lookup t = _; rw [hs]
      unfold swapsWith swB
      simp only [hb, ky, Expr.pos]
      simp
theorem sw_none {ex : Expr} {l : Nat} {env : PySem.Env} (h : notComp ex = true) : swapsWith ex none l env = pure false := by
  cases ex <;> first | rfl | (simp [notComp] at h)
/-- the stores from the right -/
def starB : Expr → Bool
  | .Starred .. => true
  | _ => false
def nmB (f : Str → Option NameKind) (line : Nat) : Expr → Option Str
  | .Name id pos => if f id == some .local && pos.line == line then some id else none
  | _ => none
def swN (f : Str → Option NameKind) (ts vs : List Expr) : Option (Option (List Str)) :=
  if (!(ts.length == 2 || ts.length == 3) || vs.length != ts.length) = true then some none
  else if (vs.any starB) = true then some none
  else if ((ts.filterMap (nmB f ((ts.head?.map (·.pos.line)).getD 0))).length != ts.length || (ts.filterMap (nmB f ((ts.head?.map (·.pos.line)).getD 0))).eraseDups.length != (ts.filterMap (nmB f ((ts.head?.map (·.pos.line)).getD 0))).length) = true then some none
  else if (vs.all (foldedForSure 8)) = true then some none
  else if (vs.all (constantsAlone 8)) = true then none
  else some (some (ts.filterMap (nmB f ((ts.head?.map (·.pos.line)).getD 0))))
def swS (c : Cc) (tge ex : Expr) : Option (Option (List Str)) := match tge, ex with
  | .Tuple ts _ _, .Tuple vs _ _ => swN (fun t => c.sc.names.lookup t) ts vs
  | .List _ _, _ => none
  | _, _ => some none
theorem swN_ok {ts vs : List Expr} {k k' : Nat} {p p' : Pos} {env : PySem.Env} {r : Option (List Str)} (hk : env.scope.kind = .function) (h : swN env.kindOf ts vs = some r) : swappedStores [.Tuple ts k p] (.Tuple vs k' p') env = pure r := by
  have hb : env.blockKind = .function := by unfold Env.blockKind; rw [hk]; rfl
  have e : swappedStores [.Tuple ts k p] (.Tuple vs k' p') env = (if (!(ts.length == 2 || ts.length == 3) || vs.length != ts.length || env.blockKind != .function) = true then pure none
    else if (vs.any starB) = true then pure none
    else if ((ts.filterMap (nmB env.kindOf ((ts.head?.map (·.pos.line)).getD 0))).length != ts.length || (ts.filterMap (nmB env.kindOf ((ts.head?.map (·.pos.line)).getD 0))).eraseDups.length != (ts.filterMap (nmB env.kindOf ((ts.head?.map (·.pos.line)).getD 0))).length) = true then pure none
    else if (vs.all (foldedForSure 8)) = true then pure none
    else if (vs.all (constantsAlone 8)) = true then unsupported "assign.tuple-of-constant-expressions:order-of-the-stores"
    else pure (some (ts.filterMap (nmB env.kindOf ((ts.head?.map (·.pos.line)).getD 0))))) := by
    unfold swappedStores
    simp only [pure_bind]
    first
      | rfl
      | (split <;> first
        | rfl
        | (split <;> first
          | rfl
          | (split <;> first
            | rfl
            | (split <;> first
              | rfl
              | (split <;> rfl)))))
  rw [e, hb]
  unfold swN at h
  by_cases c1 : (!(ts.length == 2 || ts.length == 3) || vs.length != ts.length) = true
  · rw [if_pos c1] at h
    cases h
    rw [if_pos (by rw [c1]; rfl)]
  · rw [if_neg c1] at h
    rw [if_neg (by
      rw [Bool.not_eq_true] at c1
      rw [c1]; simp)]
    by_cases c2 : (vs.any starB) = true
    · rw [if_pos c2] at h
      cases h
      rw [if_pos c2]
    · rw [if_neg c2] at h
      rw [if_neg c2]
      split at h
      · rename_i c3
        cases h
        rw [if_pos c3]
      · rename_i c3
        rw [if_neg c3]
        split at h
        · rename_i c4
          cases h
          rw [if_pos c4]
        · rename_i c4
          rw [if_neg c4]
          split at h
          · cases h
          · rename_i c5
            rw [if_neg c5]
            cases h
            rfl
theorem swS_ok {c : Cc} {tge ex : Expr} {env : PySem.Env} {r : Option (List Str)} (hk : env.scope.kind = .function) (hs : env.scope = c.sc) (h : swS c tge ex = some r) : swappedStores [tge] ex env = pure r := by
  unfold swS at h
  split at h
  · have : (fun t => c.sc.names.lookup t) = env.kindOf := by
      funext t
      show _ = env.scope.names.lookup t
      rw [hs]
    rw [this] at h
    exact swN_ok hk h
  · cases h
  · rename_i n1 n2
    cases h
    cases tge <;> try rfl
    · exact (n1 _ _ rfl).elim
    · cases ex <;> try rfl
      exact (n2 _ _ _ _ _ _ rfl rfl).elim
/-- a name, an item of a name -/
def unE : E → E
  | .brw e => unE e
  | e => e
def compE : E → Bool
  | .comp .. => true
  | _ => false
def parB (c : Cc) : List Nat → List Expr → Bool
  | [], [] => true
  | i :: is, .Name x _ :: es => (c.N[i]? == some x) && (c.sc.names.lookup x == some .local) && !is.contains i && parB c is es
  | _, _ => false
mutual
def mS (M : Mo) : S → Cc → Stmt → Bool
  | .set tg e, c, st => match st with
    | .Assign [tge] ex pos => (match swS c tge ex with
      | some none => notSD ex && tgB c tg tge && (if swB c ex tge then compE (unE e) && mE M e c .And [] ex else mE M e c .And [] ex)
      | some (some ns) => (match tg, e, tge, ex with
        | .tup is, .tup es, .Tuple ts _ _, .Tuple vs _ _ => decide (ns = ts.filterMap nameOf) && (decide (ts.length = 2) || decide (ts.length = 3)) && parB c is ts && mEs M es c vs
        | _, _, _, _ => false)
      | none => false)
    | _ => false
  | .setIx i ix e, c, st => match st with
    | .Assign [.Subscript (.Name x _) ei _] ex _ => slotB c i x && noSl ei && notSD ex && mE M e c .And [] ex && mE M ix c .And [] ei
    | _ => false
  | .expr e, c, st => match st with
    | .Expr ex _ => notComp ex && mE M e c .And [] ex
    | _ => false
  | .ret e, c, st => match st with
    | .Return (some ex) _ => mE M e c .And [] ex
    | .Return none _ => (match e with
      | .cst .non => true
      | _ => false)
    | _ => false
  | .ite t a b, c, st => match st with
    | .If et ea eb _ => mE M t c .And [] et && mSs M a c ea && mSs M b c eb
    | _ => false
  | .for_ tg k src body, c, st => match st with
    | .For tge iter eb [] _ => noSetI iter && tgB c tg tge && (match itEx M c tge k iter with
      | some xs => mEs M src c xs
      | none => false) && mSs M body c eb
    | _ => false
  | .while_ t body, c, st => match st with
    | .While et eb [] _ => mE M t c .And [] et && mSs M body c eb
    | _ => false
  | .brk, _, st => match st with
    | .Break _ => true
    | _ => false
  | .cont, _, st => match st with
    | .Continue _ => true
    | _ => false
  | .pass, _, st => match st with
    | .Pass _ => true
    | .Expr (.Constant (.str _) _ _) _ => true
    | _ => false
  | .raise _ _, _, _ => true
  | .brw _ s, c, st => mS M s c st
  | .bad, _, _ => true
def mSs (M : Mo) : Ss → Cc → List Stmt → Bool
  | .nil, _, l => l.isEmpty
  | .cons s ss, c, l => match l with
    | st :: sts => mS M s c st && mSs M ss c sts
    | [] => false
end
end Pv

/-! Pv21: the reader's words about statements are right. -/
namespace Pv
open PySem PySem.Spec PyProof.Rows L2

section
variable {M : Mo} {G : Gx} {cl : Str → List U → RC} {W : WX} {X : Cx} {c : Cc}
theorem comp_parts {P : List Nat} {own : List (Str × Nat)} {tg : Tg} {k : ItK} {src : Es} {elt : E} {cond : Es} {op : BoolOp} {rest : List Expr} {ex : Expr} (h : mE M (.comp own tg k src elt cond) c op rest ex = true) (hX : XOk M G c X cl) (tk : Takes X W) :
    ∃ elte tge iter ifs scope pos, ex = .ListComp elte [⟨tge, iter, ifs, 0⟩] scope pos ∧ CompOk G W cl P X own tg k src elt cond elte tge iter ifs scope := by
  simp only [mE] at h
  obtain ⟨hr, h⟩ := and2 h
  split at h
  · rename_i elte tge iter ifs z scope pos _
    obtain ⟨h, h8⟩ := and2 h
    obtain ⟨h, h7⟩ := and2 h
    obtain ⟨h, h6⟩ := and2 h
    obtain ⟨h, h5⟩ := and2 h
    obtain ⟨h, h4⟩ := and2 h
    obtain ⟨h, h3⟩ := and2 h
    obtain ⟨h1, h2⟩ := and2 h
    have h1 := of_decide_eq_true h1
    have h5 := of_decide_eq_true h5
    subst h1
    cases e : itEx M c tge k iter with
    | none => rw [e] at h6; cases h6
    | some xs =>
      rw [e] at h6
      exact ⟨elte, tge, iter, ifs, scope, pos, rfl,
        { calm := hX.calm, one := by
            have hb : cond.len = ifs.length := (mEs_ok (P := P) cond h8 (hX.blk X.s_0 X.H_0 scope 0 [] []) takes_wf).len
            omega
          nd := hX.nd, src := it_of hX e (mEs_ok src h6 hX tk), blk := blk_of hX h2, tg := fun s H C cl' fp => tg_of (hX.blk s H scope C cl' fp) h3 P,
          cond := fun s H C cl' fp => conds (mEs_ok cond h8 (hX.blk s H scope C cl' fp) takes_wf) h5, elt := fun s H C cl' fp => (mE_ok elt h7 (hX.blk s H scope C cl' fp) takes_wf).2 rfl, fold := foldI h4 }⟩
  · cases h
theorem un_mE : ∀ {e : E} {c : Cc} {op : BoolOp} {rest : List Expr} {ex : Expr}, mE M e c op rest ex = true → mE M (unE e) c op rest ex = true
  | .brw e, c, op, rest, ex, h => by
    simp only [mE] at h
    unfold unE
    exact un_mE h
  | .var _, _, _, _, _, h | .mv _, _, _, _, _, h | .cst _, _, _, _, _, h | .glob _ _, _, _, _, _, h | .op _ _, _, _, _, _, h | .tup _, _, _, _, _, h | .lst _, _, _, _, _, h | .call _ _ _, _, _, _, _, h | .callL _ _ _, _, _, _, _, h
  | .and_ _ _, _, _, _, _, h | .or_ _ _, _, _, _, _, h | .not_ _, _, _, _, _, h | .ite _ _ _, _, _, _, _, h | .chain _ _ _ _ _, _, _, _, _, h | .sl _ _ _, _, _, _, _, h | .meth _ _ _ _, _, _, _, _, h
  | .comp _ _ _ _ _ _, _, _, _, _, h | .app _ _, _, _, _, _, h | .appP _ _ _, _, _, _, _, h | .pop _, _, _, _, _, h | .popAt _ _, _, _, _, _, h | .rem _ _, _, _, _, _, h | .pix _ _, _, _, _, _, h | .bad, _, _, _, _, h => h
theorem un_te {P : List Nat} : ∀ {e : E} {σ : L2.St} {H : Hp} {Q : VK}, TEr G W cl P e σ H Q → TEr G W cl P (unE e) σ H Q
  | .brw e, σ, H, Q, h => by
    unfold unE
    exact un_te (te_brw h)
  | .var _, _, _, _, h | .mv _, _, _, _, h | .cst _, _, _, _, h | .glob _ _, _, _, _, h | .op _ _, _, _, _, h | .tup _, _, _, _, h | .lst _, _, _, _, h | .call _ _ _, _, _, _, h | .callL _ _ _, _, _, _, h
  | .and_ _ _, _, _, _, h | .or_ _ _, _, _, _, h | .not_ _, _, _, _, h | .ite _ _ _, _, _, _, h | .chain _ _ _ _ _, _, _, _, h | .sl _ _ _, _, _, _, h | .meth _ _ _ _, _, _, _, h
  | .comp _ _ _ _ _ _, _, _, _, h | .app _ _, _, _, _, h | .appP _ _ _, _, _, _, h | .pop _, _, _, _, h | .popAt _ _, _, _, _, h | .rem _ _, _, _, _, h | .pix _ _, _, _, _, h | .bad, _, _, _, h => h
theorem ss_setLcB {i : Nat} {y : Str} {py : Pos} {e : E} {own : List (Str × Nat)} {tg : Tg} {k : ItK} {src : Es} {elt : E} {cond : Es} {elte tge iter : Expr} {ifs : List Expr} {scope : Scope} {pos spos : Pos} (c : CompOk G W cl [] X own tg k src elt cond elte tge iter ifs scope)
    (hb : unE e = .comp own tg k src elt cond) (hy : X.N[i]? = some y) (hyl : X.env.scope.names.lookup y = some .local) (hsw : swapsWith (.ListComp elte [⟨tge, iter, ifs, 0⟩] scope pos) (some (.Name y py)) spos.line X.env = pure true) :
    SS G W cl X (.set (.name i) e) (.Assign [.Name y py] (.ListComp elte [⟨tge, iter, ifs, 0⟩] scope pos) spos) := fun P => by
  refine PS.imp (ps_setLc c.calm c.nd hy hyl hsw c.src c.blk c.tg (fun s H C cl' fp => cond_pts (c.cond s H C cl' fp)) (fun s H C cl' fp => (c.elt s H C cl' fp).pe) c.fold) fun D σ H h => ?_
  refine te_comp c.one σ H _ (hb ▸ un_te (TEr.mono (te_set h) fun v H1 q => ?_))
  obtain ⟨F, ρ, os, u, ps, I, r, nd, h⟩ := q
  simp only [setTg] at h
  by_cases hp : P.contains i = true
  · rw [if_pos hp] at h; exact h.elim
  · rw [if_neg hp] at h
    by_cases hl : i < ρ.length
    · rw [if_pos hl] at h
      obtain ⟨os', I', hs⟩ := set_slot I r nd hl
      refine h F os' _ I' (Step.refl.weak (fun a h => h) fun a ha => .inr (hs a ha)) (Keep.set (by simpa using hp)) (fun j hj => ?_) (by simp)
      simp only [Tg.slots, List.mem_singleton] at hj
      rw [List.getElem?_set_ne (Ne.symm hj)]
    · rw [if_neg hl] at h; exact h.elim
theorem ss_raise {n : Str} {e : E} {st : Stmt} : SS G W cl X (.raise n e) st := fun P => PS.imp ps_never fun D σ H ⟨F, ρ, os, I, h⟩ => by
  simp only [evS] at h
  exact h
theorem parB_cons {is : List Nat} {t : Expr} {ts : List Expr} (h : parB c is (t :: ts) = true) : ∃ i is' x p, is = i :: is' ∧ t = .Name x p ∧ c.N[i]? = some x ∧ c.sc.names.lookup x = some .local ∧ i ∉ is' ∧ parB c is' ts = true := by
  cases is with
  | nil => simp [parB] at h
  | cons i is' =>
    cases t <;> simp only [parB] at h <;> try (cases h; done)
    rename_i x p
    simp only [Bool.and_eq_true, beq_iff_eq, Bool.not_eq_true'] at h
    exact ⟨i, is', x, p, rfl, rfl, h.1.1.1, h.1.1.2, fun m => by rw [List.contains_iff_mem.mpr m] at h; simp at h, h.2⟩
theorem parB_nil {is : List Nat} (h : parB c is [] = true) : is = [] := by
  cases is with
  | nil => rfl
  | cons i is' => simp [parB] at h
theorem set_ok (hk : c.sc.kind = .function) (hX : XOk M G c X cl) (tk : Takes X W) {tg : Tg} {e : E} {st : Stmt} (h : mS M (.set tg e) c st = true) : SS G W cl X (.set tg e) st := by
  have hkx : X.env.scope.kind = .function := by rw [hX.sc]; exact hk
  simp only [mS] at h
  split at h
  · rename_i tge ex pos
    split at h
    · rename_i e1
      obtain ⟨h, h3⟩ := and2 h
      obtain ⟨h1, h2⟩ := and2 h
      have hw := swS_ok hkx hX.sc e1
      have hs : swapsWithSole [tge] ex pos.line X.env = pure (swB c ex tge) := sw_ok hkx hX.sc h1
      by_cases hb : swB c ex tge = true
      · rw [if_pos hb] at h3
        obtain ⟨h3, h4⟩ := and2 h3
        have h5 := un_mE h4
        cases hu : unE e <;> rw [hu] at h3 <;> simp only [compE] at h3 <;> try (cases h3; done)
        rw [hu] at h5
        obtain ⟨elte, tge', iter, ifs, scope, p, rfl, hc⟩ := comp_parts (P := []) h5 hX tk
        have hb' := hb
        unfold swB at hb'
        simp only at hb'
        split at hb'
        · rename_i y py
          obtain ⟨hb', _⟩ := and2 hb'
          obtain ⟨hb1, _⟩ := and2 hb'
          rw [beq_iff_eq] at hb1
          cases tg with
          | tup is => simp [tgB] at h2
          | name i =>
            simp only [tgB, Bool.and_eq_true, beq_iff_eq] at h2
            rw [hb] at hs
            exact ss_setLcB hc hu (by rw [hX.N]; exact h2.1) (by rw [hX.sc]; exact hb1) hs
        · cases hb'
      · rw [if_neg hb] at h3
        rw [Bool.not_eq_true] at hb
        rw [hb] at hs
        exact ss_set ((mE_ok e h3 hX tk).2 rfl) (tg_of hX h2) hs hw (by cases tge <;> first | rfl | (cases tg <;> simp [tgB] at h2))
    · rename_i ns e1
      have hw := swS_ok hkx hX.sc e1
      split at h
      · rename_i is es ts k1 p1 vs k2 p2
        obtain ⟨h, h4⟩ := and2 h
        obtain ⟨h, h3⟩ := and2 h
        obtain ⟨h1, h2⟩ := and2 h
        have h1 := of_decide_eq_true h1
        subst h1
        have sv := mEs_ok (P := []) es h4 hX tk
        rw [Bool.or_eq_true, decide_eq_true_eq, decide_eq_true_eq] at h2
        have vl : vs.length = ts.length := by
          have e3 := e1
          simp only [swS] at e3
          unfold swN at e3
          split at e3
          · cases e3
          · rename_i c1
            simp only [Bool.or_eq_true, not_or, bne_iff_ne, ne_eq, Decidable.not_not] at c1
            exact c1.2
        rcases h2 with h2 | h2
        · match ts, vs, h2, vl with
          | [t1, t2], [a, b], _, _ =>
            obtain ⟨i, is', x, px, rfl, rfl, g1, g2, g3, h3⟩ := parB_cons h3
            obtain ⟨j, is'', y, py, rfl, rfl, g4, g5, _, h3⟩ := parB_cons h3
            cases parB_nil h3
            have hij : i ≠ j := fun z => g3 (by simp [z])
            exact ss_par2 hX.calm hX.nd (by rw [hX.N]; exact g1) (by rw [hX.N]; exact g4) hij (by rw [hX.sc]; exact g2) (by rw [hX.sc]; exact g5) sv.sa hw rfl
        · match ts, vs, h2, vl with
          | [t1, t2, t3], [a, b, d], _, _ =>
            obtain ⟨i, is', x, px, rfl, rfl, g1, g2, g3, h3⟩ := parB_cons h3
            obtain ⟨j, is'', y, py, rfl, rfl, g4, g5, g6, h3⟩ := parB_cons h3
            obtain ⟨l, is3, z, pz, rfl, rfl, g7, g8, _, h3⟩ := parB_cons h3
            cases parB_nil h3
            have hij : i ≠ j := fun z => g3 (by simp [z])
            have hil : i ≠ l := fun z => g3 (by simp [z])
            have hjl : j ≠ l := fun z => g6 (by simp [z])
            exact ss_par3 hX.calm hX.nd (by rw [hX.N]; exact g1) (by rw [hX.N]; exact g4) (by rw [hX.N]; exact g7) hij hil hjl (by rw [hX.sc]; exact g2) (by rw [hX.sc]; exact g5) (by rw [hX.sc]; exact g8) sv.sa hw rfl
      · cases h
    · cases h
  · cases h
mutual
theorem mS_ok : ∀ (s : S) {c : Cc} {st : Stmt}, mS M s c st = true → c.sc.kind = .function → ∀ {W : WX} {X : Cx}, XOk M G c X cl → Takes X W → PassesOwn (model X.prog X.w) X.A X.env X.xe → SS G W cl X s st
  | .set tg e, c, st, h, hk, W, X, hX, tk, hp => set_ok hk hX tk h
  | .setIx i ix e, c, st, h, hk, W, X, hX, tk, hp => by
    simp only [mS] at h
    split at h
    · rename_i x p ei tpos ex pos
      obtain ⟨h, h5⟩ := and2 h
      obtain ⟨h, h4⟩ := and2 h
      obtain ⟨h, h3⟩ := and2 h
      obtain ⟨h1, h2⟩ := and2 h
      obtain ⟨g1, g2, g3⟩ := slot_of hX h1
      refine ss_setIx hX.K g1 g2 g3 ((mE_ok e h4 hX tk).2 rfl) ((mE_ok ix h5 hX tk).2 rfl) ?_ ?_ ?_ ?_
      · cases ex <;> first | rfl | (simp [notSD] at h3)
      · cases ex <;> rfl
      · rfl
      · intro v
        cases ei <;> first | rfl | (simp [noSl] at h2)
    · cases h
  | .expr e, c, st, h, hk, W, X, hX, tk, hp => by
    simp only [mS] at h
    split at h
    · obtain ⟨h1, h2⟩ := and2 h
      exact ss_expr ((mE_ok e h2 hX tk).2 rfl) (sw_none h1)
    · cases h
  | .ret e, c, st, h, hk, W, X, hX, tk, hp => by
    simp only [mS] at h
    split at h
    · exact ss_ret ((mE_ok e h hX tk).2 rfl)
    · split at h
      · exact ss_ret0
      · cases h
    · cases h
  | .ite t a b, c, st, h, hk, W, X, hX, tk, hp => by
    simp only [mS] at h
    split at h
    · obtain ⟨h, h3⟩ := and2 h
      obtain ⟨h1, h2⟩ := and2 h
      exact ss_ite ((mE_ok t h1 hX tk).2 rfl) (mSs_ok a h2 hk hX tk hp) (mSs_ok b h3 hk hX tk hp)
    · cases h
  | .for_ tg k src body, c, st, h, hk, W, X, hX, tk, hp => by
    simp only [mS] at h
    split at h
    · rename_i tge iter eb pos
      obtain ⟨h, h4⟩ := and2 h
      obtain ⟨h, h3⟩ := and2 h
      obtain ⟨h1, h2⟩ := and2 h
      cases e : itEx M c tge k iter with
      | none => rw [e] at h3; cases h3
      | some xs =>
        rw [e] at h3
        exact ss_for hp hX.calm (it_of hX e (mEs_ok src h3 hX tk)) (tg_of hX h2) (mSs_ok body h4 hk hX tk hp) (foldI h1)
    · cases h
  | .while_ t body, c, st, h, hk, W, X, hX, tk, hp => by
    simp only [mS] at h
    split at h
    · obtain ⟨h1, h2⟩ := and2 h
      exact ss_while hp ((mE_ok t h1 hX tk).2 rfl) (mSs_ok body h2 hk hX tk hp)
    · cases h
  | .brk, c, st, h, hk, W, X, hX, tk, hp => by
    simp only [mS] at h
    split at h
    · exact ss_brk
    · cases h
  | .cont, c, st, h, hk, W, X, hX, tk, hp => by
    simp only [mS] at h
    split at h
    · exact ss_cont
    · cases h
  | .pass, c, st, h, hk, W, X, hX, tk, hp => by
    simp only [mS] at h
    split at h
    · exact ss_pass
    · exact ss_doc
    · cases h
  | .raise n e, c, st, h, hk, W, X, hX, tk, hp => ss_raise
  | .brw ws s, c, st, h, hk, W, X, hX, tk, hp => by
    simp only [mS] at h
    exact ss_brw (mS_ok s h hk hX tk hp)
  | .bad, c, st, h, hk, W, X, hX, tk, hp => ss_bad
theorem mSs_ok : ∀ (ss : Ss) {c : Cc} {sts : List Stmt}, mSs M ss c sts = true → c.sc.kind = .function → ∀ {W : WX} {X : Cx}, XOk M G c X cl → Takes X W → PassesOwn (model X.prog X.w) X.A X.env X.xe → SSs G W cl X ss sts
  | .nil, c, sts, h, hk, W, X, hX, tk, hp => by
    simp only [mSs] at h
    have h := List.isEmpty_iff.mp h
    subst h
    exact sss_nil
  | .cons s ss, c, sts, h, hk, W, X, hX, tk, hp => by
    simp only [mSs] at h
    cases sts with
    | nil => cases h
    | cons st sts =>
      obtain ⟨h1, h2⟩ := and2 h
      exact sss_cons (mS_ok s h1 hk hX tk hp) (mSs_ok ss h2 hk hX tk hp)
end
end
end Pv

/-! Pv22: each def keeps its promise. -/
namespace Pv
open PySem PySem.Spec PyProof.Rows L2

section
variable {G : Gx}
theorem start_env {F H : Hp} : ∀ {us : List U} {vs : List V} {ps : List Addr} (k : Nat), RepUs G F H us vs ps → RepE G F H (us.map some ++ List.replicate k none) (vs.map some ++ List.replicate k none) ps
  | [], _, _, 0, h => by
    simp only [RepUs] at h
    obtain ⟨rfl, rfl⟩ := h
    simp [RepE]
  | [], _, _, k + 1, h => by
    have ih := start_env k h
    simp only [RepUs] at h
    obtain ⟨rfl, rfl⟩ := h
    simp only [List.map_nil, List.nil_append, List.replicate_succ, RepE] at ih ⊢
    exact ⟨none, _, rfl, ih⟩
  | u :: us, _, _, k, h => by
    simp only [RepUs] at h
    obtain ⟨v, r, p, q, rfl, rfl, h1, h2⟩ := h
    simp only [List.map_cons, List.cons_append, RepE]
    exact ⟨v, _, p, q, rfl, rfl, h1, start_env k h2⟩
theorem outs_rep {F H : Hp} : ∀ {f : Nat → Bool} {vs : List V} {ρ : Env} {σ : L2.St} {os : List Addr}, RepE G F H ρ σ os → (∀ k v, vs[k]? = some v → f k = true → σ[k]? = some (some v)) →
    ∃ qs, RepE G F H (outsF f vs.length ρ) (vs.map some) qs ∧ List.Sublist qs os
  | f, [], ρ, σ, os, h, _ => ⟨[], by simp [outsF, RepE], List.nil_sublist _⟩
  | f, v :: vs, [], σ, os, h, hv => by
    obtain ⟨qs, h1, h2⟩ := outs_rep (f := fun j => f (j + 1)) (vs := vs) h fun k w e hf => by
      have := hv (k + 1) w (by simpa using e) hf
      simp only [RepE] at h
      obtain ⟨rfl, _⟩ := h
      simp at this
    refine ⟨qs, ?_, h2⟩
    simp only [List.length_cons, outsF, List.map_cons, RepE]
    exact ⟨_, _, rfl, h1⟩
  | f, v :: vs, none :: ρ, σ, os, h, hv => by
    simp only [RepE] at h
    obtain ⟨x, r, rfl, h⟩ := h
    obtain ⟨qs, h1, h2⟩ := outs_rep (f := fun j => f (j + 1)) (vs := vs) h fun k w e hf => by simpa using hv (k + 1) w (by simpa using e) hf
    refine ⟨qs, ?_, h2⟩
    simp only [List.length_cons, outsF, List.map_cons]
    split <;> (simp only [RepE]; exact ⟨_, _, rfl, h1⟩)
  | f, v :: vs, some u :: ρ, σ, os, h, hv => by
    simp only [RepE] at h
    obtain ⟨x, r, p, q, rfl, rfl, h0, h⟩ := h
    obtain ⟨qs, h1, h2⟩ := outs_rep (f := fun j => f (j + 1)) (vs := vs) h fun k w e hf => by simpa using hv (k + 1) w (by simpa using e) hf
    simp only [List.length_cons, outsF, List.map_cons]
    by_cases hf : f 0 = true
    · rw [if_pos hf]
      have e := hv 0 v (by simp) hf
      simp at e
      subst e
      exact ⟨p ++ qs, by simp only [RepE]; exact ⟨_, _, p, qs, rfl, rfl, h0, h1⟩, h2.append_left p⟩
    · rw [if_neg hf]
      exact ⟨qs, by simp only [RepE]; exact ⟨_, _, rfl, h1⟩, h2.trans (List.sublist_append_right _ _)⟩
theorem start_get {N : List Str} {vs : List V} {k : Nat} {v : V} (h : vs[k]? = some v) : (L2.start N vs)[k]? = some (some v) := by
  unfold L2.start
  have hl := (List.getElem?_eq_some_iff.mp h).1
  rw [List.getElem?_append_left (by simpa using hl), List.getElem?_map, h]
  rfl
theorem find_of {defs : List Fd} : (defs.map (·.name)).Nodup → ∀ {fd : Fd}, fd ∈ defs → defs.find? (fun d => d.name == fd.name) = some fd := by
  induction defs with
  | nil => intro _ fd h; simp at h
  | cons a l ih =>
    intro nd fd h
    rw [List.map_cons, List.nodup_cons] at nd
    rw [List.find?_cons]
    rcases List.mem_cons.mp h with rfl | h
    · simp
    · have : (a.name == fd.name) = false := by
        rw [beq_eq_false_iff_ne]
        intro e
        exact nd.1 (by rw [e]; exact List.mem_map.mpr ⟨fd, h, rfl⟩)
      rw [this]
      exact ih nd.2 h
theorem callF_np {defs : List Fd} (nd : (defs.map (·.name)).Nodup) {fd : Fd} (hm : fd ∈ defs) : ∀ (n : Nat) (us : List U), callF defs n fd.name us ≠ .bad → us.length = fd.np
  | 0, us, h => absurd rfl h
  | n + 1, us, h => by
    unfold callF at h
    rw [find_of nd hm] at h
    simp only at h
    by_cases e : us.length = fd.np
    · exact e
    · rw [if_neg e] at h; exact absurd rfl h
/-- the written arguments are bound in order, whatever the heap -/
def BindsAll (fd : FuncData) (ps : List Str) : Prop := ∀ (s : Shared) (us : List Value), us.length = ps.length → BindsTo s fd ⟨us, []⟩ (ps.zip us)
theorem BindsAll.b {K : PySem.W.Frag} {fd : FuncData} {ps : List Str} (h : BindsAll fd ps) : Binds K fd ps [] := fun s us _ hl => by
  rw [List.append_nil] at hl ⊢
  exact h s us hl
/-- a def of the module and its function object -/
def DefOk (M : Mo) (K : PySem.W.Frag) (mg : Str → Option Value) (fd : Fd) : Prop :=
  ∃ f fdata args body scope, FunD K fd.name fd.name args body scope [] [] f fdata ∧ mg fd.name = some (.ref f) ∧ FnScope fd.N (fd.N.take fd.np) scope ∧ fd.np ≤ fd.N.length ∧ mSs M fd.body ⟨fd.N, scope, fun _ => true⟩ body = true ∧
    BindsAll fdata (fd.N.take fd.np) ∧ ∀ q ∈ M.kws, q.1 = fd.name → KBn K fdata (fd.N.take fd.np) 0 q.2.1 (fun _ ws => pick q.2.2 ws) (fun _ zs => pick q.2.2 zs)
def ConOk (K : PySem.W.Frag) (mg : Str → Option Value) (p : Str × D) : Prop := ∃ v u, mg p.1 = some u ∧ RelV v u ∧ ∀ F, Rep (⟨K, mg⟩ : Gx) F p.2 v
/-- the module's defs and names -/
structure ModOk (M : Mo) (defs : List Fd) (K : PySem.W.Frag) (mg : Str → Option Value) : Prop where
  names : (defs.map (·.name)).Nodup
  fns : ∀ p ∈ M.fns, ∃ fd ∈ defs, fd.name = p.1 ∧ fd.np = p.2
  def_ : ∀ fd ∈ defs, DefOk M K mg fd
  free : ∀ x ∈ M.free, mg x = none
  con : ∀ p ∈ M.con, ConOk K mg p
/-- a def with its function object -/
def Prom (M : Mo) (defs : List Fd) (P : Program) (w : World) (K : PySem.W.Frag) (mg : Str → Option Value) (n : Nat) (fd : Fd) : Prop :=
  ∃ f fdata, mg fd.name = some (.ref f) ∧ PySem.W.keepIn K (.ref f) = true ∧ BindsAll fdata (fd.N.take fd.np) ∧ (∀ q ∈ M.kws, q.1 = fd.name → KBn K fdata (fd.N.take fd.np) 0 q.2.1 (fun _ ws => pick q.2.2 ws) (fun _ zs => pick q.2.2 zs)) ∧
    ∀ base : Heap, FnOk P w K mg base (L2.CX P w) n f fdata (fd.N.take fd.np) (SpF ⟨K, mg⟩ (callF defs n) fd.name fd.np)
theorem prom {M : Mo} {defs : List Fd} {P : Program} {w : World} {K : PySem.W.Frag} {mg : Str → Option Value} (mo : ModOk M defs K mg) : ∀ (n : Nat) (fd : Fd), fd ∈ defs → Prom M defs P w K mg n fd := by
  intro n
  induction n with
  | zero =>
    intro fd hm
    obtain ⟨f, fdata, args, body, scope, F, hmg, S, hN, _, hb, hk⟩ := mo.def_ fd hm
    have no : ∀ vs H Q E, SpF ⟨K, mg⟩ (callF defs 0) fd.name fd.np vs H Q E → False := fun vs H Q E ⟨_, _, _, _, _, _, _, h⟩ => h
    exact ⟨f, fdata, hmg, F.kp, hb, hk, fun base => ⟨fun vs H Q E h => (no _ _ _ _ h).elim, fun _ _ _ _ _ _ _ _ _ _ _ _ _ h => (no _ _ _ _ h).elim⟩⟩
  | succ n ih =>
    intro fd hm
    obtain ⟨f, fdata, args, body, scope, F, hmg, S, hN, hc, hb, hk⟩ := mo.def_ fd hm
    refine ⟨f, fdata, hmg, F.kp, hb, hk, fun base => F.ok S (fun vs H Q E ⟨_, us, _, _, r, _, hl, _⟩ => ?_) fun cdv A outer s H vs Q E hr hsp => ?_⟩
    · rw [r.length, hl, List.length_take]; omega
    · obtain ⟨F0, us, ps, sub, ru, nd, hl, hq⟩ := hsp
      generalize hX : cxOf (L2.CX P w) P w K mg base fd.N fd.name scope f cdv A outer s H E = X
      have hXo : XOk M ⟨K, mg⟩ ⟨fd.N, scope, fun _ => true⟩ X (callF defs n) := by
        subst hX
        exact { N := rfl, nd := S.nd, sc := rfl, K := rfl, mg := rfl, calm := rfl, fn := fun _ => rfl,
                units := by
                  show (A.deeper (envOfC fd.name scope s.heap.objs.size f cdv)).units + 65 < cLine
                  have := hr.un
                  omega
                free := mo.free, con := mo.con, fns := fun p hp => by
                  obtain ⟨fd', hm', e1, e2⟩ := mo.fns p hp
                  obtain ⟨f', fdata', m1, m2, m3, m4, m5⟩ := ih fd' hm'
                  rw [e1] at m1 m4 m5
                  rw [e2] at m3 m4 m5
                  have m5 := m5 base
                  exact ⟨n, f', fdata', _, m5, hr, m1, m2, m3.b, fun us h => by
                    rw [← e2]
                    exact callF_np mo.names hm' n us (by rw [e1]; exact h), fun q hq e => m4 q hq e⟩ }
      have tk : Takes X (fun cls d _ H => E cls d H) := by subst hX; exact takes_of rfl rfl rfl rfl
      have po : PassesOwn (model X.prog X.w) X.A X.env X.xe := by subst hX; exact passes_of rfl
      have hS := mSs_ok (W := fun cls d _ H => E cls d H) fd.body hc S.kind hXo tk po fd.muts
      refine ⟨_, hS, F0, initE fd us, ps, ⟨sub, ?_, nd⟩, ?_⟩
      · have hlv := ru.length
        have e : L2.start fd.N vs = vs.map some ++ List.replicate (fd.N.length - us.length) none := by unfold L2.start; rw [hlv]
        rw [e]
        exact start_env _ ru
      · -- the end
        have npv : vs.length = fd.np := by rw [ru.length, hl]
        have ec : callF defs (n + 1) fd.name us = finF fd (evSs (callF defs n) fd.body fd.muts (initE fd us)) := by
          conv => lhs; unfold callF
          rw [find_of mo.names hm]
          simp only
          rw [if_pos hl]
        rw [ec] at hq
        have outs : ∀ {F' H' : Hp} {os' : List Addr} {σ' : L2.St} {ρ' : Env}, Inv2 ⟨K, mg⟩ F' H' ρ' σ' os' → Keep fd.muts (L2.start fd.N vs) σ' → ∃ qs, RepE ⟨K, mg⟩ F' H' (Pv.outs fd.muts fd.np ρ') (vs.map some) qs ∧ List.Sublist qs os' := fun {F' H' os' σ' ρ'} I kp => by
          have := outs_rep (f := fun j => fd.muts.contains j) (vs := vs) I.env fun k v e hf => by
            rw [kp k (List.contains_iff_mem.mp hf)]
            exact start_get e
          rw [npv] at this
          exact this
        cases er : evSs (callF defs n) fd.body fd.muts (initE fd us) with
        | bad => rw [er] at hq; exact hq.elim
        | bk ρ' => rw [er] at hq; exact hq.elim
        | ct ρ' => rw [er] at hq; exact hq.elim
        | nx ρ' =>
          rw [er] at hq
          intro F' H' os' σ' I st kp
          obtain ⟨qs, h1, h2⟩ := outs I kp
          exact hq F' H' .non [] qs I.sub (by simp [RepU, Rep]) h1 (by simpa using I.nd.sublist h2) (st.perm fun a ha => h2.subset (by simpa using ha))
        | rt u ρ' =>
          rw [er] at hq
          intro F' H' os' σ' v pu I r nd' st kp
          obtain ⟨qs, h1, h2⟩ := outs I kp
          exact hq F' H' v pu qs I.sub r h1 (nd'.sublist (h2.append_left pu)) (st.perm fun a ha => (h2.append_left pu).subset ha)
        | ex x v ρ' =>
          rw [er] at hq
          intro F' H' os' σ' C a v' I hm' ha hr' st kp
          obtain ⟨qs, h1, h2⟩ := outs I kp
          exact hq F' H' qs C a v' I.sub h1 (I.nd.sublist h2) hm' ha hr' (st.perm fun a ha => h2.subset ha)
/-- by-name binding -/
theorem FunD.kb {K : PySem.W.Frag} {x qual : Str} {params : Arguments} {body : List Stmt} {scope : Scope} {kws : List (Str × V)} {f : Addr} {fd : FuncData} {ps ks : List Str} {perm : List Nat} (F : FunD K x qual params body scope [] kws f fd)
    (h : ∀ (kV doc pm : Value) (an : Option Addr) (cdv ct : Value) (ws : List Value), ws.length = ks.length → bindArgs (PySem.W.fnOf x qual params body scope .none kV doc pm an cdv ct) ⟨[], ks.zip ws⟩ = pure (ps.zip (pick perm ws))) :
    KBn K fd ps 0 ks (fun _ ws => pick perm ws) (fun _ zs => pick perm zs) := by
  obtain ⟨oc, od, dV, kV, doc, pm, an, cdv, ct, osl, rfl, lk, hcd, hD, hK⟩ := F.ex
  rcases hD with ⟨_, rfl⟩ | ⟨e, _⟩
  · refine ⟨fun s us ws X l1 l2 => ?_, fun r1 r2 => pick_vals r2 perm⟩
    have : us = [] := List.eq_nil_of_length_eq_zero l1
    subst this
    exact .of_eq (h kV doc pm an cdv ct ws l2)
  · exact absurd rfl e
/-! ### constants -/
theorem con_int {K : PySem.W.Frag} {mg : Str → Option Value} {x : Str} {i : Int} (h : ∃ t, mg x = some (.int i t)) : ConOk K mg (x, .int i) := by
  obtain ⟨t, h⟩ := h
  exact ⟨.int i, _, h, ⟨t, rfl⟩, fun F => by simp [Rep]⟩
theorem con_str {K : PySem.W.Frag} {mg : Str → Option Value} {x z : Str} (h : ∃ t, mg x = some (.str z t)) : ConOk K mg (x, .str z) := by
  obtain ⟨t, h⟩ := h
  exact ⟨.str z, _, h, ⟨t, rfl⟩, fun F => by simp [Rep]⟩
theorem con_tup {K : PySem.W.Frag} {mg : Str → Option Value} {x : Str} {ds : List D} {vs : List V} (h : mg x = some (.ref (He.ga K x))) (ht : ∀ H : Hp, SqT K H (He.ga K x) vs) (hr : ∀ F, Reps (⟨K, mg⟩ : Gx) F ds vs) : ConOk K mg (x, .tup ds) :=
  ⟨.ref _, _, h, rfl, fun F => by simp only [Rep]; exact ⟨_, vs, rfl, ht F, hr F⟩⟩
/-! ### the law's end -/
theorem cx_false {P : Program} {w : World} {H : Hp} {s : Shared} {e : Value} {s' : Shared} (h : L2.CX P w [] H s (fun _ _ _ => False) e s') : False := by
  obtain ⟨_, _, _, _, _, _, _, _, _, _, _, _, h⟩ := h
  exact h
theorem walk_end {l : PySem.W.OpenLaw} {n k : Nat} {q : Program} {loose : List Str} {XP : (Str → Option Value) → Heap → Prop} {YP : World → Heap → Prop} {d : DefRec} {M : Mo} {defs : List Fd} {fd : Fd}
    {x : Str} {ns' : List Str} (hn : l.most = some n) (hn2 : n ≤ sizeLine) (hdf : d.params.defaults = []) (hr : Room k callerA) (hm : fd ∈ defs) (hname : fd.name = d.name) (hnp : fd.np = 1) (hN : fd.N = x :: ns')
    (F : ∀ (w : World) (mg : Str → Option Value) (h : Heap), YP w h → h.Ns mainGlobals mg → ∃ K : PySem.W.Frag, K.In h ∧ ModOk M defs K mg)
    (law : ∀ ns : List Int, ns.length ≤ n → ∃ os, callF defs k fd.name [.fz (.lst (ns.map D.int))] = .ok (.fz (.bl true)) os) :
    PySem.W.WalkO q loose XP YP l.row.toRowW d [] (fun f vs => PySem.call f vs) := by
  refine Att.attach_call hn hdf fun w s₀ s₁ mg mb fa o pm cd doc a vs ns G Y ho hd hcd hmg hobj hints hlen hg => ?_
  obtain ⟨K, KX, mo⟩ := F w mg _ Y G.T.g
  obtain ⟨f0, fdata, m1, m2, m3, m4, m5⟩ := prom (P := l.prog) (w := w) mo k fd hm
  have ef : f0 = fa := by
    rw [hname, hmg] at m1
    cases m1
    rfl
  subst ef
  have eN : fd.N.take fd.np = [x] := by rw [hN, hnp]; rfl
  rw [eN] at m3 m5
  refine law_call (CX := L2.CX l.prog w) (k := k) (sp := SpF ⟨K, mg⟩ (callF defs k) fd.name fd.np) KX G.T.g G.T.b G.T.builtins G.T.nolimit hg hobj hints (Nat.le_trans hlen hn2) hr (fun base _ _ => m5 base) (fun s u => m3 s [u] rfl) (fun H hO hS => ?_) fun H e s' h => cx_false h
  · obtain ⟨os, e⟩ := law ns hlen
    refine ⟨H, [.fz (.lst (ns.map D.int))], [], Sub.refl H, ?_, List.nodup_nil, by rw [hnp]; rfl, ?_⟩
    · simp only [RepUs, RepU, Rep]
      exact ⟨_, _, [], [], rfl, rfl, ⟨rfl, a, _, rfl, hS, rep_ints ns⟩, rfl, rfl⟩
    · rw [e]
      intro F' H' v pu qs _ r _ _ _
      simp only [RepU, Rep] at r
      exact r.2
end
end Pv

/-! Pl2: equality and membership of plain values. -/
namespace Pv
open PySem

mutual
/-- plain: texts, whole numbers, None, lists and tuples of them -/
def D.good : D → Bool
  | .non => true
  | .int _ => true
  | .str s => PyData.canLay0 (.str s)
  | .tup ds => Ds.good ds
  | .lst ds => Ds.good ds
  | _ => false
def Ds.good : List D → Bool
  | [] => true
  | d :: ds => d.good && Ds.good ds
end
mutual
def D.dep : D → Nat
  | .tup ds => Ds.dep ds + 1
  | .lst ds => Ds.dep ds + 1
  | _ => 0
def Ds.dep : List D → Nat
  | [] => 0
  | d :: ds => max d.dep (Ds.dep ds)
end
mutual
theorem D.good_data : ∀ {d : D}, d.good = true → ∃ p, d.data = some p ∧ p.canLay0 = true ∧ p.depth ≤ d.dep
  | .non, _ => ⟨_, rfl, rfl, by simp [PyData.depth]⟩
  | .int i, _ => ⟨_, rfl, rfl, by simp [PyData.depth]⟩
  | .str s, h => ⟨_, rfl, by simpa [D.good] using h, by simp [PyData.depth]⟩
  | .tup ds, h => by
    simp only [D.good] at h
    obtain ⟨ps, e, l, k⟩ := Ds.good_data h
    exact ⟨.tuple ps, by simp [D.data, e], by simpa [PyData.canLay0] using l, by simp only [PyData.depth, D.dep]; omega⟩
  | .lst ds, h => by
    simp only [D.good] at h
    obtain ⟨ps, e, l, k⟩ := Ds.good_data h
    exact ⟨.list ps, by simp [D.data, e], by simpa [PyData.canLay0] using l, by simp only [PyData.depth, D.dep]; omega⟩
  | .bl _, h | .dic _ _, h | .fn _, h | .ty _, h | .cls _, h | .exc _ _, h => by simp [D.good] at h
theorem Ds.good_data : ∀ {ds : List D}, Ds.good ds = true → ∃ ps, Ds.data ds = some ps ∧ PyData.canLayAll0 ps = true ∧ PyData.depthAll ps ≤ Ds.dep ds
  | [], _ => ⟨[], rfl, rfl, by simp [PyData.depthAll]⟩
  | d :: ds, h => by
    simp only [Ds.good, Bool.and_eq_true] at h
    obtain ⟨p, e1, l1, k1⟩ := D.good_data h.1
    obtain ⟨ps, e2, l2, k2⟩ := Ds.good_data h.2
    exact ⟨p :: ps, by simp [Ds.data, e1, e2], by simp [PyData.canLayAll0, l1, l2], by simp only [PyData.depthAll, Ds.dep]; omega⟩
end
mutual
theorem D.eqv_beq : ∀ {a b : D} {p q : PyData}, a.good = true → b.good = true → a.data = some p → b.data = some q → PyData.eqv p q = D.beq a b
  | .non, b, p, q, _, hb, ea, eb => by cases b <;> simp [D.good] at hb <;> simp [D.data] at ea eb <;> (try obtain ⟨_, _, rfl⟩ := eb) <;> subst_vars <;> simp [PyData.eqv, D.beq]
  | .int i, b, p, q, _, hb, ea, eb => by cases b <;> simp [D.good] at hb <;> simp [D.data] at ea eb <;> (try obtain ⟨_, _, rfl⟩ := eb) <;> subst_vars <;> simp [PyData.eqv, D.beq]
  | .str i, b, p, q, _, hb, ea, eb => by cases b <;> simp [D.good] at hb <;> simp [D.data] at ea eb <;> (try obtain ⟨_, _, rfl⟩ := eb) <;> subst_vars <;> simp [PyData.eqv, D.beq]
  | .tup as, b, p, q, ha, hb, ea, eb => by
    simp only [D.good] at ha
    simp only [D.data, Option.map_eq_some_iff] at ea
    obtain ⟨ps, e1, rfl⟩ := ea
    cases b <;> simp [D.good] at hb <;> simp [D.data] at eb <;> (try obtain ⟨qs, e2, rfl⟩ := eb) <;> (try subst_vars) <;> simp only [PyData.eqv, D.beq]
    exact Ds.eqv_beq ha hb e1 e2
  | .lst as, b, p, q, ha, hb, ea, eb => by
    simp only [D.good] at ha
    simp only [D.data, Option.map_eq_some_iff] at ea
    obtain ⟨ps, e1, rfl⟩ := ea
    cases b <;> simp [D.good] at hb <;> simp [D.data] at eb <;> (try obtain ⟨qs, e2, rfl⟩ := eb) <;> (try subst_vars) <;> simp only [PyData.eqv, D.beq]
    exact Ds.eqv_beq ha hb e1 e2
  | .bl _, _, _, _, h, _, _, _ | .dic _ _, _, _, _, h, _, _, _ | .fn _, _, _, _, h, _, _, _ | .ty _, _, _, _, h, _, _, _ | .cls _, _, _, _, h, _, _, _ | .exc _ _, _, _, _, h, _, _, _ => by simp [D.good] at h
theorem Ds.eqv_beq : ∀ {as bs : List D} {ps qs : List PyData}, Ds.good as = true → Ds.good bs = true → Ds.data as = some ps → Ds.data bs = some qs → PyData.eqvAll ps qs = Ds.beq as bs
  | [], bs, ps, qs, _, _, ea, eb => by
    simp [Ds.data] at ea
    subst ea
    cases bs with
    | nil => simp [Ds.data] at eb; subst eb; simp [PyData.eqvAll, Ds.beq]
    | cons b bs =>
      simp only [Ds.data] at eb
      split at eb
      · cases eb; simp [PyData.eqvAll, Ds.beq]
      · cases eb
  | a :: as, bs, ps, qs, ha, hb, ea, eb => by
    simp only [Ds.good, Bool.and_eq_true] at ha
    simp only [Ds.data] at ea
    split at ea
    · rename_i p ps' e1 e2
      cases ea
      cases bs with
      | nil => simp [Ds.data] at eb; subst eb; simp [PyData.eqvAll, Ds.beq]
      | cons b bs =>
        simp only [Ds.good, Bool.and_eq_true] at hb
        simp only [Ds.data] at eb
        split at eb
        · rename_i q qs' e3 e4
          cases eb
          simp only [PyData.eqvAll, Ds.beq]
          rw [D.eqv_beq ha.1 hb.1 e1 e3, Ds.eqv_beq ha.2 hb.2 e2 e4]
        · cases eb
    · cases ea
end
mutual
theorem D.beq_self : ∀ {a : D}, a.good = true → D.beq a a = true
  | .non, _ => rfl
  | .int i, _ => by simp [D.beq]
  | .str i, _ => by simp [D.beq]
  | .tup as, h => by simp only [D.good] at h; simp only [D.beq]; exact Ds.beq_self h
  | .lst as, h => by simp only [D.good] at h; simp only [D.beq]; exact Ds.beq_self h
  | .bl _, h | .dic _ _, h | .fn _, h | .ty _, h | .cls _, h | .exc _ _, h => by simp [D.good] at h
theorem Ds.beq_self : ∀ {as : List D}, Ds.good as = true → Ds.beq as as = true
  | [], _ => rfl
  | a :: as, h => by
    simp only [Ds.good, Bool.and_eq_true] at h
    simp only [Ds.beq, D.beq_self h.1, Ds.beq_self h.2, Bool.and_self]
end
theorem D.beq_iff {a b : D} (ha : a.good = true) : D.beq a b = true ↔ a = b := ⟨D.beq_eq, fun e => by subst e; exact D.beq_self ha⟩
theorem shaped_good {d : D} {p : PyData} (h : d.good = true) (hd : d.dep ≤ 64) (e : d.data = some p) : SeqAt.shaped p = true := by
  obtain ⟨q, e1, l, k⟩ := D.good_data h
  rw [e] at e1
  cases e1
  unfold SeqAt.shaped
  simp only [Bool.and_eq_true, decide_eq_true_eq]
  exact ⟨l, by omega⟩
theorem opEq_good {f : Bool → Bool} {a b : D} (ha : a.good = true) (hb : b.good = true) (da : a.dep ≤ 64) (db : b.dep ≤ 64) : opEq f a b = some (boolU (f (D.beq a b))) := by
  obtain ⟨p, e1, _⟩ := D.good_data ha
  obtain ⟨q, e2, _⟩ := D.good_data hb
  unfold opEq
  rw [e1, e2]
  simp only [shaped_good ha da e1, shaped_good hb db e2, D.eqv_beq ha hb e1 e2]
  rfl
theorem any_good {a : D} {p : PyData} (ha : a.good = true) (e : a.data = some p) : ∀ {ds : List D} {qs : List PyData}, Ds.good ds = true → Ds.data ds = some qs → (qs.any fun z => PyData.eqv z p) = ds.any fun z => D.beq z a
  | [], qs, _, e2 => by simp [Ds.data] at e2; subst e2; rfl
  | d :: ds, qs, h, e2 => by
    simp only [Ds.good, Bool.and_eq_true] at h
    simp only [Ds.data] at e2
    split at e2
    · rename_i q qs' e3 e4
      cases e2
      simp only [List.any_cons, D.eqv_beq h.1 ha e3 e, any_good ha e h.2 e4]
    · cases e2
theorem opIn_good {f : Bool → Bool} {a : D} {ds : List D} (ha : a.good = true) (hb : Ds.good ds = true) (da : a.dep ≤ 64) (db : Ds.dep ds ≤ 63) : opIn f a (.lst ds) = some (boolU (f (ds.any fun z => D.beq z a))) := by
  obtain ⟨p, e1, _⟩ := D.good_data ha
  obtain ⟨qs, e2, _⟩ := Ds.good_data hb
  have hl : (D.lst ds).good = true := by simpa [D.good] using hb
  have el : (D.lst ds).data = some (.list qs) := by simp [D.data, e2]
  have s1 := shaped_good ha da e1
  have s2 := shaped_good hl (by simp only [D.dep]; omega) el
  simp only [opIn, e1, e2, s1, s2, any_good ha e1 hb e2]
  rfl
end Pv

/-! Pl3: formulas. -/
namespace Pv
open PySem

inductive Lt where | a | b | c
deriving DecidableEq
inductive J where | and | or | then
deriving DecidableEq
def Lt.s : Lt → Str | .a => "a" | .b => "b" | .c => "c"
def J.s : J → Str | .and => "and" | .or => "or" | .then => "then"
inductive Fm where
  | is (x : Lt) | no | bin (w : J) (l r : Fm)
deriving DecidableEq
namespace Fm
def enc : Fm → D
  | .is x => .tup [.str "is", .str x.s]
  | .no => .tup [.str "no"]
  | .bin w l r => .tup [.str w.s, l.enc, r.enc]
def dp : Fm → Nat
  | .is _ => 1
  | .no => 1
  | .bin _ l r => max l.dp r.dp + 1
def sz : Fm → Nat
  | .is _ => 1
  | .no => 1
  | .bin _ l r => l.sz + r.sz + 1
theorem sz_pos (f : Fm) : 0 < f.sz := by cases f <;> simp [sz]
theorem dp_le (f : Fm) : f.dp ≤ f.sz := by
  induction f with
  | is _ => simp [dp, sz]
  | no => simp [dp, sz]
  | bin w l r h1 h2 => simp only [dp, sz]; have := sz_pos l; have := sz_pos r; omega
theorem good (f : Fm) : f.enc.good = true := by
  induction f with
  | is x => cases x <;> decide +kernel
  | no => decide +kernel
  | bin w l r h1 h2 => cases w <;> simp [enc, D.good, Ds.good, h1, h2, J.s] <;> decide +kernel
theorem dep (f : Fm) : f.enc.dep = f.dp := by
  induction f with
  | is x => simp [enc, D.dep, Ds.dep, dp]
  | no => simp [enc, D.dep, Ds.dep, dp]
  | bin w l r h1 h2 => simp [enc, D.dep, Ds.dep, dp, h1, h2]
theorem inj : ∀ {f g : Fm}, f.enc = g.enc → f = g
  | .is x, g, h => by
    cases g with
    | is y => cases x <;> cases y <;> first | rfl | (simp [enc, Lt.s] at h; exact absurd h (by decide +kernel))
    | no => simp [enc] at h
    | bin w l r => simp [enc] at h
  | .no, g, h => by
    cases g with
    | is y => simp [enc] at h
    | no => rfl
    | bin w l r => simp [enc] at h
  | .bin w l r, g, h => by
    cases g with
    | is y => simp [enc] at h
    | no => simp [enc] at h
    | bin w' l' r' =>
      simp only [enc, D.tup.injEq, List.cons.injEq, and_true, D.str.injEq] at h
      obtain ⟨h1, h2, h3⟩ := h
      rw [inj h2, inj h3]
      cases w <;> cases w' <;> first | rfl | exact absurd h1 (by decide +kernel)
theorem beq (f g : Fm) : D.beq f.enc g.enc = decide (f = g) := by
  by_cases h : f = g
  · subst h; simp [D.beq_self (good f)]
  · rw [decide_eq_false h]
    cases e : D.beq f.enc g.enc with
    | false => rfl
    | true => exact absurd (inj (D.beq_eq e)) h
end Fm
/-- rows of formulas -/
def encs (l : List Fm) : List D := l.map Fm.enc
theorem encs_good (l : List Fm) : Ds.good (encs l) = true := by
  induction l with
  | nil => rfl
  | cons f l ih => simp only [encs, List.map_cons, Ds.good, Fm.good, Bool.true_and]; exact ih
theorem encs_dep {l : List Fm} {k : Nat} (h : ∀ f ∈ l, f.dp ≤ k) : Ds.dep (encs l) ≤ k := by
  induction l with
  | nil => simp [encs, Ds.dep]
  | cons f l ih =>
    simp only [encs, List.map_cons, Ds.dep, Fm.dep]
    have h1 := h f (by simp)
    have h2 := ih fun g hg => h g (by simp [hg])
    unfold encs at h2
    omega
theorem encs_any (l : List Fm) (f : Fm) : (encs l).any (fun z => D.beq z f.enc) = decide (f ∈ l) := by
  induction l with
  | nil => rfl
  | cons g l ih =>
    simp only [encs, List.map_cons, List.any_cons, Fm.beq]
    unfold encs at ih
    rw [ih]
    by_cases h : g = f
    · subst h; simp
    · have h' : ¬ f = g := fun e => h e.symm
      simp [h, h']
end Pv

/-! Wp: the evaluator by what is to hold behind it (for simp, from the head on). -/
namespace Pv
open PySem PySem.Spec PyProof.Rows L2
def R.G {α : Type} (r : R α) (Q : α → Env → Prop) : Prop := match r with
  | .ok a ρ => Q a ρ
  | _ => False
def RC.G (r : RC) (Q : U → List (Option U) → Prop) : Prop := match r with
  | .ok u os => Q u os
  | _ => False
def RS.G (r : RS) (N : Env → Prop) (T : U → Env → Prop) (B C : Env → Prop) : Prop := match r with
  | .nx ρ => N ρ
  | .rt u ρ => T u ρ
  | .bk ρ => B ρ
  | .ct ρ => C ρ
  | _ => False
def OG {α : Type} (o : Option α) (Q : α → Prop) : Prop := match o with
  | some a => Q a
  | none => False
def BG (u : U) (Q : Bool → Prop) : Prop := match u with
  | .fz (.bl b) => Q b
  | _ => False
def IG (u : U) (Q : Int → Prop) : Prop := match u with
  | .fz (.int b) => Q b
  | _ => False
def LG (u : U) (Q : List U → Prop) : Prop := match u with
  | .ul b => Q b
  | _ => False
def IteB (b : Bool) (A B : Prop) : Prop := (b = true → A) ∧ (b = false → B)
/-- a bound that is looked at, then the rest -/
def AndG (p : Prop) (A : Prop) : Prop := p ∧ A
def slot (ρ : Env) (i : Nat) : Option U := match ρ[i]? with
  | some (some u) => some u
  | _ => none
@[simp ↓] theorem AndG_def (p A : Prop) [Decidable p] : AndG p A = if p then A else False := by
  by_cases h : p <;> simp [AndG, h]
@[simp ↓] theorem R.G_ok {α : Type} (a : α) (ρ : Env) (Q : α → Env → Prop) : (R.ok a ρ).G Q = Q a ρ := rfl
theorem RC.G_def (r : RC) (Q : U → List (Option U) → Prop) : r.G Q = match r with
  | .ok u os => Q u os
  | _ => False := rfl
@[simp ↓] theorem RC.G_call (defs : List Fd) (n : Nat) (f : Str) (us : List U) (Q : U → List (Option U) → Prop) : (callF defs n f us).G Q = match callF defs n f us with
  | .ok u os => Q u os
  | _ => False := rfl
@[simp ↓] theorem RC.G_ok (u : U) (os : List (Option U)) (Q : U → List (Option U) → Prop) : (RC.ok u os).G Q = Q u os := rfl
@[simp ↓] theorem OG_def {α : Type} (o : Option α) (Q : α → Prop) : OG o Q = match o with
  | some a => Q a
  | none => False := rfl
@[simp ↓] theorem BG_def (u : U) (Q : Bool → Prop) : BG u Q = match u with
  | .fz (.bl b) => Q b
  | _ => False := rfl
@[simp ↓] theorem IG_def (u : U) (Q : Int → Prop) : IG u Q = match u with
  | .fz (.int b) => Q b
  | _ => False := rfl
@[simp ↓] theorem LG_def (u : U) (Q : List U → Prop) : LG u Q = match u with
  | .ul b => Q b
  | _ => False := rfl
@[simp ↓] theorem IteB_def (b : Bool) (A B : Prop) : IteB b A B = if b = true then A else B := by
  cases b <;> simp [IteB]
theorem ite_mk {p A B : Prop} [Decidable p] (h : p → A) (k : ¬ p → B) : if p then A else B := by
  by_cases q : p
  · rw [if_pos q]; exact h q
  · rw [if_neg q]; exact k q
/-- what is left of a block -/
@[irreducible] def Kont (cl : Str → List U → RC) (ss : Ss) (P : List Nat) (N : Env → Prop) (T : U → Env → Prop) (B C : Env → Prop) (ρ : Env) : Prop := (evSs cl ss P ρ).G N T B C
theorem Kont_eq (cl : Str → List U → RC) (ss : Ss) (P : List Nat) (N : Env → Prop) (T : U → Env → Prop) (B C : Env → Prop) (ρ : Env) : Kont cl ss P N T B C ρ = (evSs cl ss P ρ).G N T B C := by unfold Kont; rfl
theorem Kont.mk {cl : Str → List U → RC} {ss : Ss} {P : List Nat} {N : Env → Prop} {T : U → Env → Prop} {B C : Env → Prop} {ρ : Env} (h : (evSs cl ss P ρ).G N T B C) : Kont cl ss P N T B C ρ := by rw [Kont_eq]; exact h
theorem Kont_run (cl : Str → List U → RC) (ss : Ss) (P : List Nat) (N : Env → Prop) (T : U → Env → Prop) (B C : Env → Prop) (o : Option U) (ρ : Env) : Kont cl ss P N T B C (o :: ρ) = (evSs cl ss P (o :: ρ)).G N T B C := Kont_eq _ _ _ _ _ _ _ _
@[simp ↓] theorem Kont_nil (cl : Str → List U → RC) (P : List Nat) (N : Env → Prop) (T : U → Env → Prop) (B C : Env → Prop) (ρ : Env) : Kont cl .nil P N T B C ρ = N ρ := by rw [Kont_eq]; simp only [evSs, RS.G]
/-- the turns that are left -/
@[irreducible] def ForG (P : List Nat) (tg : Tg) (b : Env → RS) (ds : List D) (ρ : Env) (N : Env → Prop) (T : U → Env → Prop) (B C : Env → Prop) : Prop := (evFor P tg b ds ρ).G N T B C
theorem ForG_eq (P : List Nat) (tg : Tg) (b : Env → RS) (ds : List D) (ρ : Env) (N : Env → Prop) (T : U → Env → Prop) (B C : Env → Prop) : ForG P tg b ds ρ N T B C = (evFor P tg b ds ρ).G N T B C := by unfold ForG; rfl
@[irreducible] def WhileG (c : Env → R U) (b : Env → RS) (n : Nat) (ρ : Env) (N : Env → Prop) (T : U → Env → Prop) (B C : Env → Prop) : Prop := (evWhile c b n ρ).G N T B C
theorem WhileG_eq (c : Env → R U) (b : Env → RS) (n : Nat) (ρ : Env) (N : Env → Prop) (T : U → Env → Prop) (B C : Env → Prop) : WhileG c b n ρ N T B C = (evWhile c b n ρ).G N T B C := by unfold WhileG; rfl
@[simp] theorem slot_0 (o : Option U) (ρ : Env) : slot (o :: ρ) 0 = o := by cases o <;> rfl
@[simp] theorem slot_s (o : Option U) (ρ : Env) (n : Nat) : slot (o :: ρ) (n + 1) = slot ρ n := rfl
theorem R.G.mono {α : Type} {r : R α} {Q Q' : α → Env → Prop} (h : r.G Q) (f : ∀ a ρ, Q a ρ → Q' a ρ) : r.G Q' := by
  cases r with
  | ok a ρ => exact f a ρ h
  | ex c v ρ => exact h.elim
  | bad => exact h.elim
theorem RC.G.mono {r : RC} {Q Q' : U → List (Option U) → Prop} (h : r.G Q) (f : ∀ u os, Q u os → Q' u os) : r.G Q' := by
  cases r with
  | ok a ρ => exact f a ρ h
  | ex c v ρ => exact h.elim
  | bad => exact h.elim
theorem RC.G.ex {r : RC} {Q : U → List (Option U) → Prop} (h : r.G Q) : ∃ u os, r = .ok u os ∧ Q u os := by
  cases r with
  | ok a ρ => exact ⟨a, ρ, rfl, h⟩
  | ex c v ρ => exact h.elim
  | bad => exact h.elim
theorem RS.G.mono {r : RS} {N N' : Env → Prop} {T T' : U → Env → Prop} {B B' C C' : Env → Prop} (h : r.G N T B C) (f : ∀ ρ, N ρ → N' ρ) (g : ∀ u ρ, T u ρ → T' u ρ) (j : ∀ ρ, B ρ → B' ρ) (k : ∀ ρ, C ρ → C' ρ) : r.G N' T' B' C' := by
  cases r with
  | nx ρ => exact f ρ h
  | rt u ρ => exact g u ρ h
  | bk ρ => exact j ρ h
  | ct ρ => exact k ρ h
  | ex c v ρ => exact h.elim
  | bad => exact h.elim
section
variable {cl : Str → List U → RC} {P : List Nat} {ρ : Env} {Q : U → Env → Prop} {QS : List U → Env → Prop}
@[simp ↓] theorem w_var (i : Nat) : (evE cl P (.var i) ρ).G Q = OG (slot ρ i) fun u => Q (.fz u.d) (ρ.set i (some (.fz u.d))) := by
  simp only [evE, slot]; cases ρ[i]? with
  | none => rfl
  | some o => cases o <;> rfl
@[simp ↓] theorem w_mv (i : Nat) : (evE cl P (.mv i) ρ).G Q = OG (slot ρ i) fun u => Q u (ρ.set i none) := by
  simp only [evE, slot]; cases ρ[i]? with
  | none => rfl
  | some o => cases o <;> rfl
@[simp ↓] theorem w_cst (d : D) : (evE cl P (.cst d) ρ).G Q = AndG (d.scalar = true) (Q (.fz d) ρ) := by
  simp only [evE, AndG]; split
  · rename_i h; simp [R.G, h]
  · rename_i h; simp [R.G, h]
@[simp ↓] theorem w_glob (x : Str) (d : D) : (evE cl P (.glob x d) ρ).G Q = Q (.fz d) ρ := by simp only [evE, R.G]
@[simp ↓] theorem w_op (o : O) (es : Es) : (evE cl P (.op o es) ρ).G Q = (evEs cl P es ρ).G fun us ρ1 => OG (opF o (Us.d us)) fun u => Q u ρ1 := by
  simp only [evE]; cases evEs cl P es ρ with
  | ok us ρ1 => simp only [R.G]; cases opF o (Us.d us) <;> rfl
  | _ => rfl
@[simp ↓] theorem w_tup (es : Es) : (evE cl P (.tup es) ρ).G Q = (evEs cl P es ρ).G fun us ρ1 => AndG (us.length ≤ LIM) (Q (mkT us) ρ1) := by
  simp only [evE]; cases evEs cl P es ρ with
  | ok us ρ1 => simp only [R.G]; by_cases h : us.length ≤ LIM <;> simp [h, AndG]
  | _ => rfl
@[simp ↓] theorem w_lst (es : Es) : (evE cl P (.lst es) ρ).G Q = (evEs cl P es ρ).G fun us ρ1 => AndG (us.length ≤ LIM) (Q (.ul us) ρ1) := by
  simp only [evE]; cases evEs cl P es ρ with
  | ok us ρ1 => simp only [R.G]; by_cases h : us.length ≤ LIM <;> simp [h, AndG]
  | _ => rfl
@[simp ↓] theorem w_call (f : Str) (es : Es) : (evE cl P (.call f es []) ρ).G Q = (evEs cl P es ρ).G fun us ρ1 => (cl f us).G fun u os => OG (putB es os ρ1) fun ρ2 => Q u ρ2 := by
  simp only [evE]; cases evEs cl P es ρ with
  | ok us ρ1 =>
    simp only [R.G]; cases cl f us with
    | ok u os => simp only [RC.G]; cases putB es os ρ1 <;> rfl
    | ex c v os => simp only [RC.G]; cases putB es os ρ1 <;> rfl
    | bad => rfl
  | _ => rfl
@[simp ↓] theorem w_callk (f : Str) (es : Es) (p : Nat) (perm : List Nat) : (evE cl P (.call f es (p :: perm)) ρ).G Q = (evEs cl P es ρ).G fun us ρ1 => AndG (es.anyMv = false) (OG (permU (p :: perm) (fzs (Us.d us))) fun us2 => (cl f us2).G fun u _ => Q u ρ1) := by
  simp only [evE]; cases evEs cl P es ρ with
  | ok us ρ1 =>
    simp only [R.G]
    cases es.anyMv with
    | true => simp [AndG]
    | false =>
      cases permU (p :: perm) (fzs (Us.d us)) with
      | none => simp [AndG, OG]
      | some us2 =>
        simp only [AndG, OG]
        cases cl f us2 <;> simp [RC.G]
  | _ => rfl
@[simp ↓] theorem w_callL (f : Str) (i : Nat) (es : Es) : (evE cl P (.callL f i es) ρ).G Q = AndG (hasAt ρ i = true) ((evEs cl P es ρ).G fun us ρ1 => OG (slot ρ1 i) fun u0 => (cl f (u0 :: us)).G fun u os => OG (putB (.cons (.mv i) es) os (ρ1.set i none)) fun ρ2 => Q u ρ2) := by
  simp only [evE, AndG]
  by_cases h : hasAt ρ i = true
  · simp only [h, if_true, true_and]
    cases evEs cl P es ρ with
    | ok us ρ1 =>
      simp only [R.G, slot]
      rcases ρ1[i]? with _ | _ | u0 <;> try rfl
      simp only [OG]
      cases cl f (u0 :: us) with
      | ok u os => simp only [RC.G]; cases putB (.cons (.mv i) es) os (ρ1.set i none) <;> rfl
      | ex c v os => simp only [RC.G]; cases putB (.cons (.mv i) es) os (ρ1.set i none) <;> rfl
      | bad => rfl
    | _ => rfl
  · simp [h, R.G]
@[simp ↓] theorem w_and (a b : E) : (evE cl P (.and_ a b) ρ).G Q = (evE cl P a ρ).G fun u ρ1 => BG u fun k => IteB k ((evE cl P b ρ1).G Q) (Q (.fz (.bl false)) ρ1) := by
  simp only [evE]; cases evE cl P a ρ with
  | ok u ρ1 =>
    simp only [R.G, BG]; rcases u with d | us | us
    · rcases d with _ | k | _ | _ | _ | _ | _ | _ | _ | _ | _ <;> try rfl
      cases k <;> simp [IteB, boolU]
    · rfl
    · rfl
  | _ => rfl
@[simp ↓] theorem w_or (a b : E) : (evE cl P (.or_ a b) ρ).G Q = (evE cl P a ρ).G fun u ρ1 => BG u fun k => IteB k (Q (.fz (.bl true)) ρ1) ((evE cl P b ρ1).G Q) := by
  simp only [evE]; cases evE cl P a ρ with
  | ok u ρ1 =>
    simp only [R.G, BG]; rcases u with d | us | us
    · rcases d with _ | k | _ | _ | _ | _ | _ | _ | _ | _ | _ <;> try rfl
      cases k <;> simp [IteB, boolU]
    · rfl
    · rfl
  | _ => rfl
@[simp ↓] theorem w_not (a : E) : (evE cl P (.not_ a) ρ).G Q = (evE cl P a ρ).G fun u ρ1 => BG u fun k => Q (.fz (.bl (!k))) ρ1 := by
  simp only [evE]; cases evE cl P a ρ with
  | ok u ρ1 =>
    simp only [R.G, BG]; rcases u with d | us | us
    · rcases d with _ | k | _ | _ | _ | _ | _ | _ | _ | _ | _ <;> rfl
    · rfl
    · rfl
  | _ => rfl
@[simp ↓] theorem w_ite (c a b : E) : (evE cl P (.ite c a b) ρ).G Q = (evE cl P c ρ).G fun u ρ1 => BG u fun k => IteB k ((evE cl P a ρ1).G Q) ((evE cl P b ρ1).G Q) := by
  simp only [evE]; cases evE cl P c ρ with
  | ok u ρ1 =>
    simp only [R.G, BG]; rcases u with d | us | us
    · rcases d with _ | k | _ | _ | _ | _ | _ | _ | _ | _ | _ <;> try rfl
      cases k <;> simp [IteB]
    · rfl
    · rfl
  | _ => rfl
@[simp ↓] theorem w_meth (o : O) (T : String) (a : E) (es : Es) : (evE cl P (.meth o T a es) ρ).G Q = (evE cl P a ρ).G fun u ρ1 => AndG (u.d.tyn = some T) ((evEs cl P es ρ1).G fun us ρ2 => OG (opF o (u.d :: Us.d us)) fun w => Q w ρ2) := by
  simp only [evE]; cases evE cl P a ρ with
  | ok u ρ1 =>
    simp only [R.G, AndG]
    by_cases h : u.d.tyn = some T
    · simp only [h, if_pos, true_and]
      cases evEs cl P es ρ1 with
      | ok us ρ2 => simp only; cases opF o (u.d :: Us.d us) <;> rfl
      | _ => rfl
    · simp [h]
  | _ => rfl
@[simp ↓] theorem w_sl (a : E) (lo hi : Es) : (evE cl P (.sl a lo hi) ρ).G Q = (evE cl P a ρ).G fun u ρ1 => (evEs cl P lo ρ1).G fun ls ρ2 => OG (partOf ls) fun l => (evEs cl P hi ρ2).G fun hs ρ3 => OG (partOf hs) fun h => OG (opSlice u.d l h) fun w => Q w ρ3 := by
  simp only [evE]; cases evE cl P a ρ with
  | ok u ρ1 =>
    simp only [R.G]; cases evEs cl P lo ρ1 with
    | ok ls ρ2 =>
      simp only [OG]; cases partOf ls with
      | none => rfl
      | some l =>
        simp only; cases evEs cl P hi ρ2 with
        | ok hs ρ3 =>
          simp only; cases partOf hs with
          | none => rfl
          | some h => simp only; cases opSlice u.d l h <;> rfl
        | _ => rfl
    | _ => rfl
  | _ => rfl
@[simp ↓] theorem w_chain (o o' : O) (a b c : E) : (evE cl P (.chain o o' a b c) ρ).G Q = (evE cl P a ρ).G fun u1 ρ1 => (evE cl P b ρ1).G fun u2 ρ2 => OG (opF o [u1.d, u2.d]) fun v => BG v fun k => IteB k ((evE cl P c ρ2).G fun u3 ρ3 => OG (opF o' [u2.d, u3.d]) fun v => BG v fun k => Q (.fz (.bl k)) ρ3) (Q (.fz (.bl false)) ρ2) := by
  simp only [evE]; cases evE cl P a ρ with
  | ok u1 ρ1 =>
    simp only [R.G]; cases evE cl P b ρ1 with
    | ok u2 ρ2 =>
      simp only [OG]; cases opF o [u1.d, u2.d] with
      | none => rfl
      | some v =>
        simp only [BG]; rcases v with d | us | us
        · rcases d with _ | k | _ | _ | _ | _ | _ | _ | _ | _ | _ <;> try rfl
          cases k
          · simp [IteB, boolU]
          · simp only [IteB, true_implies, reduceCtorEq, false_implies, and_true]
            cases evE cl P c ρ2 with
            | ok u3 ρ3 =>
              simp only; cases opF o' [u2.d, u3.d] with
              | none => rfl
              | some v =>
                simp only; rcases v with d | us | us
                · rcases d with _ | k | _ | _ | _ | _ | _ | _ | _ | _ | _ <;> rfl
                · rfl
                · rfl
            | _ => rfl
        · rfl
        · rfl
    | _ => rfl
  | _ => rfl
@[simp ↓] theorem w_comp (own : List (Str × Nat)) (tg : Tg) (k : ItK) (src : Es) (elt : E) (cond : Es) : (evE cl P (.comp own tg k src elt cond) ρ).G Q = (evEs cl P src ρ).G fun us ρ1 => AndG ((hidOk ρ1 (own.map (·.2)) && tg.slots.all (fun i => (own.map (·.2)).contains i)) = true) (OG (itF k (Us.d us)) fun ds => (evComp P tg (own.map (·.2)) (fun ρ => evEs cl P cond ρ) (fun ρ => evE cl P elt ρ) ds (wipeE ρ1 (own.map (·.2))) []).G fun acc ρ2 => Q (.ul acc) (backE ρ1 ρ2 (own.map (·.2)))) := by
  simp only [evE]; cases evEs cl P src ρ with
  | ok us ρ1 =>
    simp only [R.G, AndG]
    by_cases h : (hidOk ρ1 (own.map (·.2)) && tg.slots.all (fun i => (own.map (·.2)).contains i)) = true
    · simp only [h, if_true, true_and, OG]
      cases itF k (Us.d us) with
      | none => rfl
      | some ds =>
        simp only
        cases evComp P tg (own.map (·.2)) (fun ρ => evEs cl P cond ρ) (fun ρ => evE cl P elt ρ) ds (wipeE ρ1 (own.map (·.2))) [] <;> rfl
    · rw [if_neg h]; simp only [eq_iff_iff, false_iff]; exact fun q => h q.1
  | _ => rfl
@[simp ↓] theorem w_brw (e : E) : (evE cl P (.brw e) ρ).G Q = (evE cl P e (frzE ρ)).G fun u _ => AndG (u.clean = true) (Q u ρ) := by
  simp only [evE]; cases evE cl P e (frzE ρ) with
  | ok u ρ1 => simp only [R.G, AndG]; by_cases h : u.clean = true <;> simp [h]
  | ex c v ρ1 => simp only [R.G]; by_cases h : v.scalar = true <;> simp [h]
  | bad => rfl
@[simp ↓] theorem w_app (i : Nat) (e : E) : (evE cl P (.app i e) ρ).G Q = AndG (ownAt ρ i [] = true) ((evE cl P e ρ).G fun u ρ1 => OG (slot ρ1 i) fun w => LG w fun us => AndG (us.length < LIM) (Q (.fz .non) (ρ1.set i (some (.ul (us ++ [u])))))) := by
  simp only [evE, AndG]
  by_cases h : ownAt ρ i [] = true
  · simp only [h, if_true, true_and]
    cases evE cl P e ρ with
    | ok u ρ1 =>
      simp only [R.G, slot]
      rcases ρ1[i]? with _ | _ | w <;> try rfl
      rcases w with d | us | us <;> try rfl
      simp only [OG, LG]
      by_cases h : us.length < LIM <;> simp [h]
    | _ => rfl
  · simp [h, R.G]
@[simp ↓] theorem w_appP (i : Nat) (path : List Nat) (e : E) : (evE cl P (.appP i path e) ρ).G Q = OG (slot ρ i) fun w => (evE cl P e (ρ.set i none)).G fun u ρ1 => OG (modU (fun us => if us.length < LIM then some (us ++ [u]) else none) path w) fun w' => AndG (ρ1[i]? = some none) (Q (.fz .non) (ρ1.set i (some w'))) := by
  simp only [evE, slot]
  rcases ρ[i]? with _ | _ | w <;> try rfl
  simp only [OG]
  cases evE cl P e (ρ.set i none) with
  | ok u ρ1 =>
    simp only [R.G]
    cases modU (fun us => if us.length < LIM then some (us ++ [u]) else none) path w with
    | none => rfl
    | some w' => simp only [AndG]; rcases ρ1[i]? with _ | _ | w <;> simp
  | _ => rfl
@[simp ↓] theorem w_pop (i : Nat) : (evE cl P (.pop i) ρ).G Q = OG (slot ρ i) fun w => LG w fun us => OG us.getLast? fun u => Q u (ρ.set i (some (.ul us.dropLast))) := by
  simp only [evE, slot]
  rcases ρ[i]? with _ | _ | w <;> try rfl
  rcases w with d | us | us <;> try rfl
  simp only [OG, LG]
  cases us.getLast? <;> rfl
@[simp ↓] theorem w_popAt (i : Nat) (e : E) : (evE cl P (.popAt i e) ρ).G Q = AndG (ownAt ρ i [] = true) ((evE cl P e ρ).G fun v ρ1 => IG v fun k => OG (slot ρ1 i) fun w => LG w fun us => OG (ixN us.length k) fun j => OG us[j]? fun u => AndG (us.length ≤ LIM) (Q u (ρ1.set i (some (.ul (us.eraseIdx j)))))) := by
  simp only [evE, AndG]
  by_cases h : ownAt ρ i [] = true
  · simp only [h, if_true, true_and]
    cases evE cl P e ρ with
    | ok v ρ1 =>
      simp only [R.G]
      rcases v with d | us | us <;> try rfl
      cases d <;> try rfl
      rename_i k
      simp only [IG, slot]
      rcases ρ1[i]? with _ | _ | w <;> try rfl
      rcases w with d | us | us <;> try rfl
      simp only [OG, LG]
      cases ixN us.length k with
      | none => rfl
      | some j =>
        simp only; cases us[j]? with
        | none => rfl
        | some u => simp only; by_cases h : us.length ≤ LIM <;> simp [h]
    | _ => rfl
  · simp [h, R.G]
@[simp ↓] theorem w_rem (i : Nat) (e : E) : (evE cl P (.rem i e) ρ).G Q = AndG (ownAt ρ i [] = true) ((evE cl P e ρ).G fun v ρ1 => IG v fun k => OG (slot ρ1 i) fun w => LG w fun us => OG (intsD (Us.d us)) fun ns => AndG (k ∈ ns) (Q (.fz .non) (ρ1.set i (some (.ul (fzs ((ns.eraseIdx (ns.idxOf k)).map .int))))))) := by
  simp only [evE, AndG]
  by_cases h : ownAt ρ i [] = true
  · simp only [h, if_true, true_and]
    cases evE cl P e ρ with
    | ok v ρ1 =>
      simp only [R.G]
      rcases v with d | us | us <;> try rfl
      cases d <;> try rfl
      rename_i k
      simp only [IG, slot]
      rcases ρ1[i]? with _ | _ | w <;> try rfl
      rcases w with d | us | us <;> try rfl
      simp only [OG, LG]
      cases intsD (Us.d us) with
      | none => rfl
      | some ns => simp only; by_cases h : k ∈ ns <;> simp [h]
    | _ => rfl
  · simp [h, R.G]
@[simp ↓] theorem w_pix (i : Nat) (e : E) : (evE cl P (.pix i e) ρ).G Q = AndG (hasAt ρ i = true) ((evE cl P e ρ).G fun v ρ1 => IG v fun k => OG (slot ρ1 i) fun w => LG w fun us => OG (atI us k) fun x => match x with
    | .fz d => Q (.fz d) ρ1
    | _ => False) := by
  simp only [evE, AndG]
  by_cases h : hasAt ρ i = true
  · simp only [h, if_true, true_and]
    cases evE cl P e ρ with
    | ok v ρ1 =>
      simp only [R.G]
      rcases v with d | us | us <;> try rfl
      cases d <;> try rfl
      rename_i k
      simp only [IG, slot]
      rcases ρ1[i]? with _ | _ | w <;> try rfl
      rcases w with d | us | us <;> try rfl
      simp only [OG, LG]
      rcases atI us k with _ | x
      · rfl
      · rcases x with d | us | us <;> rfl
    | _ => rfl
  · simp [h, R.G]
@[simp ↓] theorem w_bad : (evE cl P .bad ρ).G Q = False := by simp only [evE, R.G]
@[simp ↓] theorem w_nil : (evEs cl P .nil ρ).G QS = QS [] ρ := by simp only [evEs, R.G]
@[simp ↓] theorem w_cons (e : E) (es : Es) : (evEs cl P (.cons e es) ρ).G QS = (evE cl P e ρ).G fun u ρ1 => (evEs cl P es ρ1).G fun us ρ2 => QS (u :: us) ρ2 := by
  simp only [evEs]; cases evE cl P e ρ with
  | ok u ρ1 => simp only [R.G]; cases evEs cl P es ρ1 <;> rfl
  | _ => rfl
end
section
variable {cl : Str → List U → RC} {P : List Nat} {ρ : Env} {N : Env → Prop} {T : U → Env → Prop} {B C : Env → Prop}
@[simp ↓] theorem w_set (tg : Tg) (e : E) : (evS cl (.set tg e) P ρ).G N T B C = (evE cl [] e ρ).G fun u ρ1 => OG (setTg P tg u ρ1) fun ρ2 => N ρ2 := by
  simp only [evS]; cases evE cl [] e ρ with
  | ok u ρ1 => simp only [R.G]; cases setTg P tg u ρ1 <;> rfl
  | _ => rfl
@[simp ↓] theorem w_setIx (i : Nat) (ix e : E) : (evS cl (.setIx i ix e) P ρ).G N T B C = (evE cl [] e ρ).G fun u ρ1 => AndG (ownAt ρ1 i [] = true) ((evE cl [] ix ρ1).G fun v ρ2 => IG v fun k => OG (slot ρ2 i) fun w => LG w fun us => OG (ixN us.length k) fun j => N (ρ2.set i (some (.ul (us.set j u))))) := by
  simp only [evS]; cases evE cl [] e ρ with
  | ok u ρ1 =>
    simp only [R.G, AndG]
    by_cases h : ownAt ρ1 i [] = true
    · simp only [h, if_true, true_and]
      cases evE cl [] ix ρ1 with
      | ok v ρ2 =>
        simp only
        rcases v with d | us | us <;> try rfl
        cases d <;> try rfl
        rename_i k
        simp only [IG, slot]
        rcases ρ2[i]? with _ | _ | w <;> try rfl
        rcases w with d | us | us <;> try rfl
        simp only [OG, LG]
        cases ixN us.length k <;> rfl
      | _ => rfl
    · simp [h, RS.G]
  | _ => rfl
@[simp ↓] theorem w_expr (e : E) : (evS cl (.expr e) P ρ).G N T B C = (evE cl [] e ρ).G fun _ ρ1 => N ρ1 := by
  simp only [evS]; cases evE cl [] e ρ <;> rfl
@[simp ↓] theorem w_ret (e : E) : (evS cl (.ret e) P ρ).G N T B C = (evE cl [] e ρ).G T := by
  simp only [evS]; cases evE cl [] e ρ <;> rfl
@[simp ↓] theorem w_sif (c : E) (a b : Ss) : (evS cl (.ite c a b) P ρ).G N T B C = (evE cl [] c ρ).G fun u ρ1 => BG u fun k => IteB k (Kont cl a P N T B C ρ1) (Kont cl b P N T B C ρ1) := by
  simp only [evS, Kont_eq]; cases evE cl [] c ρ with
  | ok u ρ1 =>
    simp only [R.G, BG]; rcases u with d | us | us
    · rcases d with _ | k | _ | _ | _ | _ | _ | _ | _ | _ | _ <;> try rfl
      cases k <;> simp [IteB]
    · rfl
    · rfl
  | _ => rfl
@[simp ↓] theorem w_for (tg : Tg) (k : ItK) (src : Es) (body : Ss) : (evS cl (.for_ tg k src body) P ρ).G N T B C = (evEs cl [] src ρ).G fun us ρ1 => OG (itF k (Us.d us)) fun ds => ForG P tg (fun ρ => evSs cl body P ρ) ds ρ1 N T B C := by
  simp only [evS, ForG_eq]; cases evEs cl [] src ρ with
  | ok us ρ1 => simp only [R.G]; cases itF k (Us.d us) <;> rfl
  | _ => rfl
@[simp ↓] theorem w_while (c : E) (body : Ss) : (evS cl (.while_ c body) P ρ).G N T B C = WhileG (fun ρ => evE cl [] c ρ) (fun ρ => evSs cl body P ρ) FUEL ρ N T B C := by simp only [evS, WhileG_eq]
@[simp ↓] theorem w_brk : (evS cl .brk P ρ).G N T B C = B ρ := by simp only [evS, RS.G]
@[simp ↓] theorem w_cont : (evS cl .cont P ρ).G N T B C = C ρ := by simp only [evS, RS.G]
@[simp ↓] theorem w_pass : (evS cl .pass P ρ).G N T B C = N ρ := by simp only [evS, RS.G]
@[simp ↓] theorem w_sbrw (ws : List Nat) (s : S) : (evS cl (.brw ws s) P ρ).G N T B C = (evS cl s (brwP P ws ρ.length) (frzE ρ)).G (fun ρ1 => AndG (ρ1.length = ρ.length) (N (mixE (fun j => ws.contains j) ρ ρ1))) (fun u ρ1 => AndG ((u.clean && decide (ρ1.length = ρ.length)) = true) (T u (mixE (fun j => ws.contains j) ρ ρ1))) (fun _ => False) (fun _ => False) := by
  simp only [evS]; cases evS cl s (brwP P ws ρ.length) (frzE ρ) with
  | nx ρ1 => simp only [RS.G, AndG]; by_cases h : ρ1.length = ρ.length <;> simp [h]
  | rt u ρ1 => simp only [RS.G, AndG]; by_cases h : (u.clean && decide (ρ1.length = ρ.length)) = true <;> simp [h]
  | ex c v ρ1 => by_cases h : (v.scalar && decide (ρ1.length = ρ.length)) = true <;> simp [h, RS.G]
  | _ => rfl
@[simp ↓] theorem w_snil : (evSs cl .nil P ρ).G N T B C = N ρ := by simp only [evSs, RS.G]
@[simp ↓] theorem w_scons (s : S) (ss : Ss) : (evSs cl (.cons s ss) P ρ).G N T B C = (evS cl s P ρ).G (fun ρ1 => Kont cl ss P N T B C ρ1) T B C := by
  simp only [evSs, Kont_eq]; cases evS cl s P ρ <;> rfl
@[simp ↓] theorem w_fin (fd : Fd) (r : RS) (Q : U → List (Option U) → Prop) : (finF fd r).G Q = r.G (fun ρ => Q (.fz .non) (outs fd.muts fd.np ρ)) (fun u ρ => Q u (outs fd.muts fd.np ρ)) (fun _ => False) (fun _ => False) := by cases r <;> rfl
end
theorem IteB.mk {b : Bool} {A B : Prop} (h : b = true → A) (k : b = false → B) : IteB b A B := ⟨h, k⟩
/-! loops -/
section
variable {P : List Nat} {tg : Tg} {own : List Nat} {c : Env → R (List U)} {e : Env → R U}
/-- the tests of a turn -/
def CG (cs : List U) (Q : Bool → Prop) : Prop := match Us.d cs with
  | [] => Q true
  | [.bl b] => Q b
  | _ => False
@[simp ↓] theorem CG_def (cs : List U) (Q : Bool → Prop) : CG cs Q = match Us.d cs with
  | [] => Q true
  | [.bl b] => Q b
  | _ => False := rfl
theorem CG_nil (Q : Bool → Prop) : CG [] Q = Q true := rfl
theorem CG_b (b : Bool) (Q : Bool → Prop) : CG [.fz (.bl b)] Q = Q b := rfl
theorem comp_cons (d : D) (ds : List D) (ρ : Env) (acc : List U) (Q : List U → Env → Prop) (hl : acc.length < LIM) (h : OG (setTg P tg (.fz d) ρ) fun ρ1 => (c ρ1).G fun cs ρ2 => CG cs fun b => IteB b ((e ρ2).G fun u ρ3 => (evComp P tg own c e ds (wipeE ρ3 own) (acc ++ [u])).G Q) ((evComp P tg own c e ds (wipeE ρ2 own) acc).G Q)) : (evComp P tg own c e (d :: ds) ρ acc).G Q := by
  unfold evComp
  cases hs : setTg P tg (.fz d) ρ with
  | none => rw [hs] at h; exact h.elim
  | some ρ1 =>
    rw [hs] at h
    simp only [OG] at h ⊢
    cases hc : c ρ1 with
    | ok cs ρ2 =>
      rw [hc] at h
      simp only [R.G, CG] at h
      simp only
      rcases hd : Us.d cs with _ | ⟨d1, _ | ⟨d2, dr⟩⟩
      · rw [hd] at h
        have h := h.1 rfl
        cases he : e ρ2 with
        | ok u ρ3 => rw [he] at h; simp only [if_pos hl]; exact h
        | ex x v ρ3 => rw [he] at h; exact h.elim
        | bad => rw [he] at h; exact h.elim
      · rw [hd] at h
        cases d1 with
        | bl b =>
          cases b with
          | true =>
            have h := h.1 rfl
            cases he : e ρ2 with
            | ok u ρ3 => rw [he] at h; simp only [if_pos hl]; exact h
            | ex x v ρ3 => rw [he] at h; exact h.elim
            | bad => rw [he] at h; exact h.elim
          | false => exact h.2 rfl
        | _ => exact h.elim
      · rw [hd] at h
        cases d1 <;> exact h.elim
    | ex x v ρ2 => rw [hc] at h; exact h.elim
    | bad => rw [hc] at h; exact h.elim
/-- a comprehension by an invariant -/
theorem comp_inv (I : List D → List U → Env → Prop) {Q : List U → Env → Prop} (hend : ∀ acc ρ, I [] acc ρ → Q acc ρ) (step : ∀ d ds acc ρ, I (d :: ds) acc ρ → acc.length < LIM ∧ OG (setTg P tg (.fz d) ρ) fun ρ1 => (c ρ1).G fun cs ρ2 => CG cs fun b => IteB b ((e ρ2).G fun u ρ3 => I ds (acc ++ [u]) (wipeE ρ3 own)) (I ds acc (wipeE ρ2 own))) : ∀ (ds : List D) (acc : List U) (ρ : Env), I ds acc ρ → (evComp P tg own c e ds ρ acc).G Q
  | [], acc, ρ, h => by unfold evComp; exact hend acc ρ h
  | d :: ds, acc, ρ, h => by
    obtain ⟨hl, h⟩ := step d ds acc ρ h
    refine comp_cons d ds ρ acc Q hl ?_
    cases hs : setTg P tg (.fz d) ρ with
    | none => rw [hs] at h; exact h.elim
    | some ρ1 =>
      rw [hs] at h
      simp only [OG] at h ⊢
      refine R.G.mono h fun cs ρ2 h => ?_
      unfold CG at h ⊢
      split at h
      · exact ⟨fun hb => R.G.mono (h.1 hb) fun u ρ3 h => comp_inv I hend step ds _ _ h, fun hb => comp_inv I hend step ds _ _ (h.2 hb)⟩
      · exact ⟨fun hb => R.G.mono (h.1 hb) fun u ρ3 h => comp_inv I hend step ds _ _ h, fun hb => comp_inv I hend step ds _ _ (h.2 hb)⟩
      · exact h.elim
/-- a comprehension that changes nothing -/
theorem comp_map {ρ : Env} {Q : List U → Env → Prop} (g : D → Option U) {ds : List D} (hl : ds.length ≤ LIM) (step : ∀ d ∈ ds, OG (setTg P tg (.fz d) ρ) fun ρ1 => (c ρ1).G fun cs ρ2 => CG cs fun b => IteB b ((e ρ2).G fun u ρ3 => g d = some u ∧ wipeE ρ3 own = ρ) (g d = none ∧ wipeE ρ2 own = ρ)) (q : Q (ds.filterMap g) ρ) : (evComp P tg own c e ds ρ []).G Q := by
  refine comp_inv (fun l acc ρ' => ρ' = ρ ∧ (∃ k, ds = k ++ l ∧ acc = k.filterMap g ∧ acc.length ≤ k.length)) (fun acc ρ' h => ?_) (fun d l acc ρ' h => ?_) ds [] ρ ⟨rfl, [], rfl, rfl, by simp⟩
  · obtain ⟨rfl, k, e, rfl, _⟩ := h
    rw [List.append_nil] at e
    subst e
    exact q
  · obtain ⟨rfl, k, e1, e2, e3⟩ := h
    have hd : d ∈ ds := by rw [e1]; simp
    have hk : ds.length = k.length + (l.length + 1) := by rw [e1]; simp
    refine ⟨by omega, ?_⟩
    have h := step d hd
    cases hs : setTg P tg (.fz d) ρ' with
    | none => rw [hs] at h; exact h.elim
    | some ρ1 =>
      rw [hs] at h
      simp only [OG] at h ⊢
      refine R.G.mono h fun cs ρ2 h => ?_
      have key : ∀ b, IteB b ((e ρ2).G fun u ρ3 => g d = some u ∧ wipeE ρ3 own = ρ') (g d = none ∧ wipeE ρ2 own = ρ') → IteB b ((e ρ2).G fun u ρ3 => wipeE ρ3 own = ρ' ∧ (∃ k', ds = k' ++ l ∧ acc ++ [u] = k'.filterMap g ∧ (acc ++ [u]).length ≤ k'.length)) (wipeE ρ2 own = ρ' ∧ (∃ k', ds = k' ++ l ∧ acc = k'.filterMap g ∧ acc.length ≤ k'.length)) := by
        intro b h
        refine ⟨fun hb => R.G.mono (h.1 hb) fun u ρ3 h => ⟨h.2, k ++ [d], by simp [e1], by simp [List.filterMap_append, h.1, e2], by simpa using e3⟩, fun hb => ⟨(h.2 hb).2, k ++ [d], by simp [e1], by simp [List.filterMap_append, (h.2 hb).1, e2], by simp; omega⟩⟩
      unfold CG at h ⊢
      split at h
      · exact key _ h
      · exact key _ h
      · exact h.elim
end
section
variable {P : List Nat} {tg : Tg} {b : Env → RS} {N : Env → Prop} {T : U → Env → Prop} {B C : Env → Prop}
/-- a for loop by an invariant -/
theorem for_inv0 (I : List D → Env → Prop) (hend : ∀ ρ, I [] ρ → N ρ) (step : ∀ d ds ρ, I (d :: ds) ρ → OG (setTg P tg (.fz d) ρ) fun ρ1 => (b ρ1).G (I ds) T N (I ds)) : ∀ (ds : List D) (ρ : Env), I ds ρ → (evFor P tg b ds ρ).G N T B C
  | [], ρ, h => by unfold evFor; exact hend ρ h
  | d :: ds, ρ, h => by
    have h := step d ds ρ h
    unfold evFor
    cases hs : setTg P tg (.fz d) ρ with
    | none => rw [hs] at h; exact h.elim
    | some ρ1 =>
      rw [hs] at h
      simp only [OG] at h
      simp only
      cases hb : b ρ1 with
      | nx ρ2 => rw [hb] at h; exact for_inv0 I hend step ds ρ2 h
      | ct ρ2 => rw [hb] at h; exact for_inv0 I hend step ds ρ2 h
      | bk ρ2 => rw [hb] at h; exact h
      | rt u ρ2 => rw [hb] at h; exact h
      | ex x v ρ2 => rw [hb] at h; exact h.elim
      | bad => rw [hb] at h; exact h.elim
/-- a while loop: I with a bound of the turns that are left -/
theorem while_inv0 {t : Env → R U} (I : Nat → Env → Prop) (step : ∀ m ρ, I m ρ → (t ρ).G fun u ρ1 => BG u fun k => IteB k ((b ρ1).G (fun ρ2 => ∃ k, k < m ∧ I k ρ2) T N (fun ρ2 => ∃ k, k < m ∧ I k ρ2)) (N ρ1)) : ∀ (n m : Nat) (ρ : Env), I m ρ → m < n → (evWhile t b n ρ).G N T B C
  | 0, m, ρ, _, h => by omega
  | n + 1, m, ρ, h, hl => by
    have h := step m ρ h
    unfold evWhile
    cases ht : t ρ with
    | bad => rw [ht] at h; exact h.elim
    | ex x v ρ1 => rw [ht] at h; exact h.elim
    | ok u ρ1 =>
      rw [ht] at h
      rcases u with d | us | us
      · cases d with
        | bl k =>
          simp only [R.G, BG] at h
          cases k with
          | false => exact h.2 rfl
          | true =>
            have h := h.1 rfl
            simp only
            cases hb : b ρ1 with
            | nx ρ2 =>
              rw [hb] at h
              obtain ⟨k, hk, hi⟩ := h
              exact while_inv0 I step n k ρ2 hi (by omega)
            | ct ρ2 =>
              rw [hb] at h
              obtain ⟨k, hk, hi⟩ := h
              exact while_inv0 I step n k ρ2 hi (by omega)
            | bk ρ2 => rw [hb] at h; exact h
            | rt u ρ2 => rw [hb] at h; exact h
            | ex x v ρ2 => rw [hb] at h; exact h.elim
            | bad => rw [hb] at h; exact h.elim
        | _ => exact h.elim
      · exact h.elim
      · exact h.elim
theorem for_inv (I : List D → Env → Prop) (hend : ∀ ρ, I [] ρ → N ρ) (step : ∀ d ds ρ, I (d :: ds) ρ → OG (setTg P tg (.fz d) ρ) fun ρ1 => (b ρ1).G (I ds) T N (I ds)) (ds : List D) (ρ : Env) (h : I ds ρ) : ForG P tg b ds ρ N T B C := by
  rw [ForG_eq]; exact for_inv0 I hend step ds ρ h
theorem while_inv {t : Env → R U} (I : Nat → Env → Prop) (step : ∀ m ρ, I m ρ → (t ρ).G fun u ρ1 => BG u fun k => IteB k ((b ρ1).G (fun ρ2 => ∃ k, k < m ∧ I k ρ2) T N (fun ρ2 => ∃ k, k < m ∧ I k ρ2)) (N ρ1)) (n m : Nat) (ρ : Env) (h : I m ρ) (hm : m < n) : WhileG t b n ρ N T B C := by
  rw [WhileG_eq]; exact while_inv0 I step n m ρ h hm
end
end Pv

/-! Po: operations, for simp. -/
namespace Pv
open PySem PySem.Spec PyProof.Rows L2
section
@[simp] theorem u_fz (d : D) : U.d (.fz d) = d := rfl
@[simp] theorem u_ul (us : List U) : U.d (.ul us) = .lst (Us.d us) := rfl
@[simp] theorem u_ut (us : List U) : U.d (.ut us) = .tup (Us.d us) := rfl
@[simp] theorem us_nil : Us.d [] = [] := rfl
@[simp] theorem us_cons (u : U) (us : List U) : Us.d (u :: us) = u.d :: Us.d us := rfl
@[simp] theorem us_fzs (ds : List D) : Us.d (fzs ds) = ds := fzs_d ds
@[simp] theorem us_append (a b : List U) : Us.d (a ++ b) = Us.d a ++ Us.d b := by simp [Us.d_map]
@[simp] theorem fzs_nil : fzs [] = [] := rfl
@[simp] theorem fzs_cons (d : D) (ds : List D) : fzs (d :: ds) = .fz d :: fzs ds := rfl
@[simp] theorem fzs_append (a b : List D) : fzs (a ++ b) = fzs a ++ fzs b := by simp [fzs]
@[simp] theorem fzs_len (a : List D) : (fzs a).length = a.length := by simp [fzs]
@[simp] theorem mkT_d (us : List U) : (mkT us).d = .tup (Us.d us) := by
  unfold mkT
  split <;> rfl
@[simp] theorem o_add (a b : D) : opF .add [a, b] = opAdd a b := rfl
@[simp] theorem o_sub (i j : Int) : opF .sub [.int i, .int j] = some (.fz (.int (i - j))) := rfl
@[simp] theorem o_addI (i j : Int) : opAdd (.int i) (.int j) = some (.fz (.int (i + j))) := rfl
@[simp] theorem o_addL (a b : List D) : opAdd (.lst a) (.lst b) = if a.length + b.length ≤ LIM then some (.ul (fzs (a ++ b))) else none := rfl
@[simp] theorem o_addT (a b : List D) : opAdd (.tup a) (.tup b) = if a.length + b.length ≤ LIM then some (.fz (.tup (a ++ b))) else none := rfl
@[simp] theorem o_eq (a b : D) : opF .eq [a, b] = opEq id a b := rfl
@[simp] theorem o_ne (a b : D) : opF .ne [a, b] = opEq not a b := rfl
@[simp] theorem o_lt (i j : Int) : opF .lt [.int i, .int j] = some (.fz (.bl (decide (i < j)))) := rfl
@[simp] theorem o_le (i j : Int) : opF .le [.int i, .int j] = some (.fz (.bl (decide (i ≤ j)))) := rfl
@[simp] theorem o_gt (i j : Int) : opF .gt [.int i, .int j] = some (.fz (.bl (decide (j < i)))) := rfl
@[simp] theorem o_ge (i j : Int) : opF .ge [.int i, .int j] = some (.fz (.bl (decide (j ≤ i)))) := rfl
@[simp] theorem o_in (a b : D) : opF .isin [a, b] = opIn id a b := rfl
@[simp] theorem o_notin (a b : D) : opF .notin [a, b] = opIn not a b := rfl
@[simp] theorem o_isN (d : D) : opF .isN [d] = some (.fz (.bl (match d with | .non => true | _ => false))) := by cases d <;> rfl
@[simp] theorem o_notN (d : D) : opF .notN [d] = some (.fz (.bl (match d with | .non => false | _ => true))) := by cases d <;> rfl
@[simp] theorem o_len (d : D) : opF .len [d] = opLen d := rfl
@[simp] theorem o_lenL (ds : List D) : opLen (.lst ds) = some (.fz (.int ds.length)) := rfl
@[simp] theorem o_lenT (ds : List D) : opLen (.tup ds) = some (.fz (.int ds.length)) := rfl
@[simp] theorem o_int (i : Int) : opF .int1 [.int i] = some (.fz (.int i)) := rfl
@[simp] theorem o_listL (ds : List D) : opF .list1 [.lst ds] = some (.ul (fzs ds)) := rfl
@[simp] theorem o_listT (ds : List D) : opF .list1 [.tup ds] = some (.ul (fzs ds)) := rfl
@[simp] theorem o_tupL (ds : List D) : opF .tup1 [.lst ds] = some (.fz (.tup ds)) := rfl
@[simp] theorem o_idx (a b : D) : opF .idx [a, b] = opIdx a b := rfl
@[simp] theorem o_rev (ds : List D) : opF .rev [.lst ds] = some (.ul (fzs ds.reverse)) := rfl
@[simp] theorem o_isa (ts : List String) (d : D) : opF (.isa ts) [d] = opIsa ts d := rfl
@[simp] theorem isaT_def (t c : String) : isaT t c = (t == c || (t == "bool" && c == "int")) := rfl
@[simp] theorem outs_nil (n : Nat) (ρ : Env) (f : Nat → Bool) (h : ∀ j, f j = false) : outsF f n ρ = List.replicate n none := by
  induction n generalizing f ρ with
  | zero => rfl
  | succ n ih =>
    cases ρ with
    | nil => simp only [outsF, List.replicate_succ]; rw [ih _ _ fun j => h (j + 1)]
    | cons o ρ => simp only [outsF, List.replicate_succ, h 0]; rw [ih _ _ fun j => h (j + 1)]; rfl
@[simp] theorem outs_no (n : Nat) (ρ : Env) : outs [] n ρ = List.replicate n none := outs_nil n ρ _ fun _ => rfl
@[simp] theorem isa_tup (ts : List String) (ds : List D) : opIsa ts (.tup ds) = some (.fz (.bl (ts.any (isaT "tuple")))) := rfl
@[simp] theorem isa_lst (ts : List String) (ds : List D) : opIsa ts (.lst ds) = some (.fz (.bl (ts.any (isaT "list")))) := rfl
@[simp] theorem isa_str (ts : List String) (s : Str) : opIsa ts (.str s) = some (.fz (.bl (ts.any (isaT "str")))) := rfl
@[simp] theorem isa_int (ts : List String) (i : Int) : opIsa ts (.int i) = some (.fz (.bl (ts.any (isaT "int")))) := rfl
@[simp] theorem isa_bl (ts : List String) (i : Bool) : opIsa ts (.bl i) = some (.fz (.bl (ts.any (isaT "bool")))) := rfl
@[simp] theorem isa_non (ts : List String) : opIsa ts .non = some (.fz (.bl (ts.any (isaT "NoneType")))) := rfl
@[simp] theorem idx_lst (ds : List D) (i : Int) : opIdx (.lst ds) (.int i) = (atI ds i).map .fz := rfl
@[simp] theorem idx_tup (ds : List D) (i : Int) : opIdx (.tup ds) (.int i) = (atI ds i).map .fz := rfl
@[simp] theorem at_0 {α : Type} (a : α) (l : List α) : atI (a :: l) 0 = some a := by
  unfold atI L2.ixN
  rw [if_pos (by omega), if_pos (by simp <;> omega)]
  rfl
@[simp] theorem at_1 {α : Type} (a b : α) (l : List α) : atI (a :: b :: l) 1 = some b := by
  unfold atI L2.ixN
  rw [if_pos (by omega), if_pos (by simp <;> omega)]
  rfl
@[simp] theorem at_2 {α : Type} (a b c : α) (l : List α) : atI (a :: b :: c :: l) 2 = some c := by
  unfold atI L2.ixN
  rw [if_pos (by omega), if_pos (by simp <;> omega)]
  rfl
theorem nat_lt (c : Char) : c.toNat < 0x110000 := by
  have h := c.valid
  simp only [UInt32.isValidChar, Nat.isValidChar] at h
  show c.val.toNat < _
  omega
@[simp] theorem lit_ok (s : String) : PyData.canLay0 (.str (Str.ofString s)) = true := by
  rw [Str.ofString_eq_toList]
  simp only [PyData.canLay0, PyData.strOk, Array.all_eq_true_iff_forall_mem]
  intro x hx
  simp only [List.mem_toArray, List.mem_map] at hx
  obtain ⟨c, _, rfl⟩ := hx
  simpa using nat_lt c
theorem lit_inj {a b : String} (h : Str.ofString a = Str.ofString b) : a = b := by
  rw [Str.ofString_eq_toList, Str.ofString_eq_toList] at h
  simp only [Str.mk.injEq] at h
  have h2 : a.toList.map Char.toNat = b.toList.map Char.toNat := by simpa using congrArg Array.toList h
  have h3 : a.toList = b.toList := by
    refine (List.map_inj_right fun x y e => ?_).mp h2
    exact Char.ext (UInt32.toNat_inj.mp e)
  exact String.toList_inj.mp h3
@[simp] theorem lit_beq (a b : String) : (Str.ofString a == Str.ofString b) = (a == b) := by
  by_cases h : a = b
  · subst h; simp
  · have : ¬ Str.ofString a = Str.ofString b := fun e => h (lit_inj e)
    rw [beq_eq_false_iff_ne.mpr this, beq_eq_false_iff_ne.mpr h]
theorem eq_str' (f : Bool → Bool) (a b : Str) (ha : PyData.canLay0 (.str a) = true) (hb : PyData.canLay0 (.str b) = true) : opEq f (.str a) (.str b) = some (.fz (.bl (f (a == b)))) := by
  rw [opEq_good (a := .str a) (b := .str b) (by simpa [D.good] using ha) (by simpa [D.good] using hb) (by simp [D.dep]) (by simp [D.dep])]
  rfl
@[simp] theorem eq_str (f : Bool → Bool) (a b : String) : opEq f (.str (Str.ofString a)) (.str (Str.ofString b)) = some (.fz (.bl (f (a == b)))) := by
  rw [eq_str' f _ _ (lit_ok a) (lit_ok b), lit_beq]
@[simp] theorem eq_int (f : Bool → Bool) (a b : Int) : opEq f (.int a) (.int b) = some (.fz (.bl (f (decide (a = b))))) := rfl
@[simp] theorem eq_bl (f : Bool → Bool) (a b : Bool) : opEq f (.bl a) (.bl b) = some (.fz (.bl (f (a == b)))) := rfl
@[simp] theorem eq_lnil (f : Bool → Bool) : opEq f (.lst []) (.lst []) = some (.fz (.bl (f true))) := rfl
@[simp] theorem fin_rt (fd : Fd) (u : U) (ρ : Env) : finF fd (.rt u ρ) = .ok u (outs fd.muts fd.np ρ) := rfl
@[simp] theorem fin_nx (fd : Fd) (ρ : Env) : finF fd (.nx ρ) = .ok (.fz .non) (outs fd.muts fd.np ρ) := rfl
@[simp] theorem sc_int (i : Int) : D.scalar (.int i) = true := rfl
@[simp] theorem sc_str (i : Str) : D.scalar (.str i) = true := rfl
@[simp] theorem sc_bl (i : Bool) : D.scalar (.bl i) = true := rfl
@[simp] theorem sc_non : D.scalar .non = true := rfl
@[simp] theorem cl_fz (d : D) : U.clean (.fz d) = d.scalar := rfl
@[simp] theorem b_u (b : Bool) : boolU b = .fz (.bl b) := rfl
@[simp] theorem i_u (b : Int) : intU b = .fz (.int b) := rfl
@[simp] theorem put_var (i : Nat) (es : Es) (u : Option U) (us : List (Option U)) (ρ : Env) : putB (.cons (.var i) es) (u :: us) ρ = putB es us ρ := by cases u <;> rfl
@[simp] theorem put_cst (d : D) (es : Es) (u : Option U) (us : List (Option U)) (ρ : Env) : putB (.cons (.cst d) es) (u :: us) ρ = putB es us ρ := by cases u <;> rfl
@[simp] theorem put_glob (x : Str) (d : D) (es : Es) (u : Option U) (us : List (Option U)) (ρ : Env) : putB (.cons (.glob x d) es) (u :: us) ρ = putB es us ρ := by cases u <;> rfl
@[simp] theorem put_op (o : O) (q : Es) (es : Es) (u : Option U) (us : List (Option U)) (ρ : Env) : putB (.cons (.op o q) es) (u :: us) ρ = putB es us ρ := by cases u <;> rfl
@[simp] theorem put_tup (q : Es) (es : Es) (u : Option U) (us : List (Option U)) (ρ : Env) : putB (.cons (.tup q) es) (u :: us) ρ = putB es us ρ := by cases u <;> rfl
@[simp] theorem put_lst (q : Es) (es : Es) (u : Option U) (us : List (Option U)) (ρ : Env) : putB (.cons (.lst q) es) (u :: us) ρ = putB es us ρ := by cases u <;> rfl
@[simp] theorem put_call (f : Str) (q : Es) (p : List Nat) (es : Es) (u : Option U) (us : List (Option U)) (ρ : Env) : putB (.cons (.call f q p) es) (u :: us) ρ = putB es us ρ := by cases u <;> rfl
@[simp] theorem put_and_ (a b : E) (es : Es) (u : Option U) (us : List (Option U)) (ρ : Env) : putB (.cons (.and_ a b) es) (u :: us) ρ = putB es us ρ := by cases u <;> rfl
@[simp] theorem put_or_ (a b : E) (es : Es) (u : Option U) (us : List (Option U)) (ρ : Env) : putB (.cons (.or_ a b) es) (u :: us) ρ = putB es us ρ := by cases u <;> rfl
@[simp] theorem put_not_ (a : E) (es : Es) (u : Option U) (us : List (Option U)) (ρ : Env) : putB (.cons (.not_ a) es) (u :: us) ρ = putB es us ρ := by cases u <;> rfl
@[simp] theorem put_ite (c a b : E) (es : Es) (u : Option U) (us : List (Option U)) (ρ : Env) : putB (.cons (.ite c a b) es) (u :: us) ρ = putB es us ρ := by cases u <;> rfl
@[simp] theorem put_chain (o o2 : O) (a b c : E) (es : Es) (u : Option U) (us : List (Option U)) (ρ : Env) : putB (.cons (.chain o o2 a b c) es) (u :: us) ρ = putB es us ρ := by cases u <;> rfl
@[simp] theorem put_sl (a : E) (l h : Es) (es : Es) (u : Option U) (us : List (Option U)) (ρ : Env) : putB (.cons (.sl a l h) es) (u :: us) ρ = putB es us ρ := by cases u <;> rfl
@[simp] theorem put_meth (o : O) (T : String) (a : E) (q : Es) (es : Es) (u : Option U) (us : List (Option U)) (ρ : Env) : putB (.cons (.meth o T a q) es) (u :: us) ρ = putB es us ρ := by cases u <;> rfl
@[simp] theorem put_comp (w : List (Str × Nat)) (tg : Tg) (k : ItK) (s : Es) (e : E) (c : Es) (es : Es) (u : Option U) (us : List (Option U)) (ρ : Env) : putB (.cons (.comp w tg k s e c) es) (u :: us) ρ = putB es us ρ := by cases u <;> rfl
@[simp] theorem put_brw (e : E) (es : Es) (u : Option U) (us : List (Option U)) (ρ : Env) : putB (.cons (.brw e) es) (u :: us) ρ = putB es us ρ := by cases u <;> rfl
@[simp] theorem put_pix (i : Nat) (e : E) (es : Es) (u : Option U) (us : List (Option U)) (ρ : Env) : putB (.cons (.pix i e) es) (u :: us) ρ = putB es us ρ := by cases u <;> rfl
@[simp] theorem put_pop (i : Nat) (es : Es) (u : Option U) (us : List (Option U)) (ρ : Env) : putB (.cons (.pop i) es) (u :: us) ρ = putB es us ρ := by cases u <;> rfl
@[simp] theorem put_popAt (i : Nat) (e : E) (es : Es) (u : Option U) (us : List (Option U)) (ρ : Env) : putB (.cons (.popAt i e) es) (u :: us) ρ = putB es us ρ := by cases u <;> rfl
@[simp] theorem put_mv (i : Nat) (es : Es) (u : U) (us : List (Option U)) (ρ : Env) : putB (.cons (.mv i) es) (some u :: us) ρ = match ρ[i]? with
    | some none => putB es us (ρ.set i (some u))
    | _ => none := rfl
@[simp] theorem put_nil (us : List (Option U)) (ρ : Env) : putB .nil us ρ = some ρ := by cases us <;> rfl
@[simp] theorem g_tup (ds : List D) : (D.tup ds).good = Ds.good ds := by simp only [D.good]
@[simp] theorem g_lst (ds : List D) : (D.lst ds).good = Ds.good ds := by simp only [D.good]
@[simp] theorem g_str (s : Str) : (D.str s).good = PyData.canLay0 (.str s) := by simp only [D.good]
@[simp] theorem g_int (i : Int) : (D.int i).good = true := by simp only [D.good]
@[simp] theorem g_non : D.non.good = true := by simp only [D.good]
@[simp] theorem g_nil : Ds.good [] = true := by simp only [Ds.good]
@[simp] theorem g_cons (d : D) (ds : List D) : Ds.good (d :: ds) = (d.good && Ds.good ds) := by simp only [Ds.good]
@[simp] theorem dp_tup (ds : List D) : (D.tup ds).dep = Ds.dep ds + 1 := by simp only [D.dep]
@[simp] theorem dp_lst (ds : List D) : (D.lst ds).dep = Ds.dep ds + 1 := by simp only [D.dep]
@[simp] theorem dp_str (s : Str) : (D.str s).dep = 0 := by simp only [D.dep]
@[simp] theorem dp_int (i : Int) : (D.int i).dep = 0 := by simp only [D.dep]
@[simp] theorem dp_non : D.non.dep = 0 := by simp only [D.dep]
@[simp] theorem dp_nil : Ds.dep [] = 0 := by simp only [Ds.dep]
@[simp] theorem dp_cons (d : D) (ds : List D) : Ds.dep (d :: ds) = max d.dep (Ds.dep ds) := by simp only [Ds.dep]
@[simp low] theorem eq_tup (f : Bool → Bool) (as bs : List D) (h1 : Ds.good as = true) (h2 : Ds.good bs = true) (h3 : Ds.dep as ≤ 63) (h4 : Ds.dep bs ≤ 63) : opEq f (.tup as) (.tup bs) = some (.fz (.bl (f (Ds.beq as bs)))) := by
  rw [opEq_good (by simpa using h1) (by simpa using h2) (by simp only [dp_tup]; omega) (by simp only [dp_tup]; omega)]
  simp only [D.beq]; rfl
@[simp low] theorem eq_lst (f : Bool → Bool) (as bs : List D) (h1 : Ds.good as = true) (h2 : Ds.good bs = true) (h3 : Ds.dep as ≤ 63) (h4 : Ds.dep bs ≤ 63) : opEq f (.lst as) (.lst bs) = some (.fz (.bl (f (Ds.beq as bs)))) := by
  rw [opEq_good (by simpa using h1) (by simpa using h2) (by simp only [dp_lst]; omega) (by simp only [dp_lst]; omega)]
  simp only [D.beq]; rfl
@[simp] theorem bq_nil : Ds.beq [] [] = true := by simp only [Ds.beq]
@[simp] theorem bq_cons (a b : D) (as bs : List D) : Ds.beq (a :: as) (b :: bs) = (D.beq a b && Ds.beq as bs) := by simp only [Ds.beq]
@[simp] theorem bq_nc (b : D) (bs : List D) : Ds.beq [] (b :: bs) = false := by simp only [Ds.beq]
@[simp] theorem bq_cn (b : D) (bs : List D) : Ds.beq (b :: bs) [] = false := by simp only [Ds.beq]
@[simp] theorem bq_str (a b : Str) : D.beq (.str a) (.str b) = (a == b) := by simp only [D.beq]
@[simp] theorem bq_int (a b : Int) : D.beq (.int a) (.int b) = (a == b) := by simp only [D.beq]
@[simp] theorem bq_st (a : Str) (b : List D) : D.beq (.str a) (.tup b) = false := by simp only [D.beq]
@[simp] theorem bq_ts (a : Str) (b : List D) : D.beq (.tup b) (.str a) = false := by simp only [D.beq]
@[simp] theorem bq_tt (a b : List D) : D.beq (.tup a) (.tup b) = Ds.beq a b := by simp only [D.beq]
@[simp] theorem bq_ll (a b : List D) : D.beq (.lst a) (.lst b) = Ds.beq a b := by simp only [D.beq]
@[simp] theorem in_strs (f : Bool → Bool) (a : String) (ds : List D) (h : ds.all D.flat = true) : opIn f (.str (Str.ofString a)) (.tup ds) = some (.fz (.bl (f (ds.any fun z => D.feq z (.str (Str.ofString a)))))) := by
  simp only [opIn, D.flat, h]; rfl
@[simp] theorem fl_str (s : Str) : D.flat (.str s) = true := rfl
@[simp] theorem fq_str (a b : Str) : D.feq (.str a) (.str b) = (a == b) := rfl
theorem lim_def : LIM = 1000000 := rfl
@[simp] theorem lim_0 : 0 ≤ LIM := by decide
@[simp] theorem ltlim_0 : 0 < LIM := by decide
@[simp] theorem lim_1 : 1 ≤ LIM := by decide
@[simp] theorem ltlim_1 : 1 < LIM := by decide
@[simp] theorem lim_2 : 2 ≤ LIM := by decide
@[simp] theorem ltlim_2 : 2 < LIM := by decide
@[simp] theorem lim_3 : 3 ≤ LIM := by decide
@[simp] theorem ltlim_3 : 3 < LIM := by decide
@[simp] theorem lim_4 : 4 ≤ LIM := by decide
@[simp] theorem ltlim_4 : 4 < LIM := by decide
@[simp] theorem lim_5 : 5 ≤ LIM := by decide
@[simp] theorem ltlim_5 : 5 < LIM := by decide
@[simp] theorem lim_6 : 6 ≤ LIM := by decide
@[simp] theorem ltlim_6 : 6 < LIM := by decide
@[simp] theorem lim_7 : 7 ≤ LIM := by decide
@[simp] theorem ltlim_7 : 7 < LIM := by decide
@[simp] theorem lim_8 : 8 ≤ LIM := by decide
@[simp] theorem ltlim_8 : 8 < LIM := by decide
@[simp] theorem lim_9 : 9 ≤ LIM := by decide
@[simp] theorem ltlim_9 : 9 < LIM := by decide
@[simp] theorem tupU_mk2 (us : List U) : tupU (mkT us) = some us := by
  unfold mkT
  split
  · rename_i h
    rw [all_fz h]; simp [tupU]
  · rfl
@[simp] theorem tupU_l (us : List U) : tupU (.ul us) = some us := rfl
@[simp] theorem tupU_ft (us : List D) : tupU (.fz (.tup us)) = some (fzs us) := rfl
@[simp] theorem tupU_fl (us : List D) : tupU (.fz (.lst us)) = some (fzs us) := rfl
@[simp] theorem set_name (P : List Nat) (i : Nat) (u : U) (ρ : Pv.Env) : setTg P (.name i) u ρ = if P.contains i then none else if i < ρ.length then some (ρ.set i (some u)) else none := rfl
@[simp] theorem set_tup (P : List Nat) (is : List Nat) (u : U) (ρ : Pv.Env) : setTg P (.tup is) u ρ = match tupU u with
    | some us => if us.length = is.length && is.all (fun i => !P.contains i && decide (i < ρ.length)) then some ((is.zip us).foldl (fun ρ p => ρ.set p.1 (some p.2)) ρ) else none
    | none => none := rfl
@[simp] theorem it_many (d : D) : itF .many [d] = itMany d := rfl
@[simp] theorem itm_l (ds : List D) : itMany (.lst ds) = some ds := rfl
@[simp] theorem itm_t (ds : List D) : itMany (.tup ds) = some ds := rfl
@[simp] theorem frz_nil : frzE [] = [] := rfl
@[simp] theorem frz_n (ρ : Pv.Env) : frzE (none :: ρ) = none :: frzE ρ := rfl
@[simp] theorem frz_s (u : U) (ρ : Pv.Env) : frzE (some u :: ρ) = some (.fz u.d) :: frzE ρ := rfl
@[simp] theorem wipe_nil (ρ : Pv.Env) : wipeE ρ [] = ρ := rfl
@[simp] theorem wipe_cons (ρ : Pv.Env) (v : Nat) (vs : List Nat) : wipeE ρ (v :: vs) = (wipeE ρ vs).set v none := rfl
@[simp] theorem back_nil (ρ0 ρ : Pv.Env) : backE ρ0 ρ [] = ρ := rfl
@[simp] theorem back_cons (ρ0 ρ : Pv.Env) (v : Nat) (vs : List Nat) : backE ρ0 ρ (v :: vs) = (backE ρ0 ρ vs).set v (slot ρ0 v) := by
  have e : (ρ0[v]?).join = slot ρ0 v := by
    unfold slot
    rcases ρ0[v]? with _ | _ | u <;> rfl
  rw [← e]; rfl
@[simp] theorem tg_n (i : Nat) : Tg.slots (.name i) = [i] := rfl
@[simp] theorem tg_t (i : List Nat) : Tg.slots (.tup i) = i := rfl
@[simp] theorem hid_nil (ρ : Pv.Env) : hidOk ρ [] = true := rfl
theorem hid_cons (ρ : Pv.Env) (v : Nat) (vs : List Nat) : hidOk ρ (v :: vs) = ((decide (v < ρ.length) && match slot ρ v with
  | some (.ul _) => false
  | some (.ut _) => false
  | _ => true) && hidOk ρ vs) := by
  have e : (match ρ[v]? with
    | some (some (.ul _)) => false
    | some (some (.ut _)) => false
    | _ => true) = (match slot ρ v with
    | some (.ul _) => false
    | some (.ut _) => false
    | _ => true) := by
    unfold slot
    rcases ρ[v]? with _ | _ | u
    · rfl
    · rfl
    · cases u <;> rfl
  rw [← e]; rfl
@[simp] theorem us_len (us : List U) : (Us.d us).length = us.length := Us.d_length us
@[simp] theorem own_nil (ρ : Pv.Env) (i : Nat) : ownAt ρ i [] = match slot ρ i with
  | some u => isUl u
  | none => false := by
  unfold ownAt slot
  rcases ρ[i]? with _ | _ | u <;> simp [getU]
@[simp] theorem has_slot (ρ : Pv.Env) (i : Nat) : hasAt ρ i = (slot ρ i).isSome := by
  unfold hasAt slot
  rcases ρ[i]? with _ | _ | u <;> rfl
@[simp] theorem isUl_u (us : List U) : isUl (.ul us) = true := rfl
@[simp] theorem getLast_app (us : List U) (u : U) : (us ++ [u]).getLast? = some u := by simp
theorem listsD_map {α : Type} (g : α → List D) (l : List α) : listsD (l.map fun x => .lst (g x)) = some (l.map g) := by
  induction l with
  | nil => rfl
  | cons x l ih => simp [listsD, ih]
theorem intsD_map (l : List Int) : intsD (l.map D.int) = some l := by
  induction l with
  | nil => rfl
  | cons x l ih => simp [intsD, ih]
theorem boolsD_map (l : List Bool) : boolsD (l.map D.bl) = some l := by
  induction l with
  | nil => rfl
  | cons x l ih => simp [boolsD, ih]
theorem o_sum2 (ds : List D) : opF .sum2 [.lst ds, .lst []] = (listsD ds).bind fun ls => if ls.flatten.length ≤ LIM then some (.fz (.lst ls.flatten)) else none := rfl
theorem o_mul (i j : Int) : opF .mul [.int i, .int j] = if i.natAbs.log2 + j.natAbs.log2 < 1000000 then some (.fz (.int (i * j))) else none := rfl
@[simp] theorem o_mod (i j : Int) : opF .mod [.int i, .int j] = if decide (0 < j) then some (.fz (.int (i % j))) else none := rfl
@[simp] theorem o_fdiv (i j : Int) : opF .fdiv [.int i, .int j] = if decide (0 < j) && decide (j.natAbs.log2 < 9000) then some (.fz (.int (i / j))) else none := rfl
@[simp] theorem o_max2 (i j : Int) : opF .max2 [.int i, .int j] = some (.fz (.int (if j > i then j else i))) := rfl
@[simp] theorem o_min2 (i j : Int) : opF .min2 [.int i, .int j] = some (.fz (.int (if j < i then j else i))) := rfl
@[simp] theorem o_bits (i : Int) : opF .bitlen [.int i] = some (.fz (.int (Builtin.Int.intBits i : Nat))) := by simp only [opF, asInt, Option.map, intU]
@[simp] theorem it_rng1 (j : Int) : itF .rng1 [.int j] = if j.natAbs < 2 ^ 62 then some (rgD 0 j) else none := by simp only [itF]
@[simp] theorem it_enumL (ds : List D) : itF .enum [.lst ds] = some (ds.zipIdx.map fun p => .tup [.int p.2, p.1]) := rfl
@[simp] theorem it_enumT (ds : List D) : itF .enum [.tup ds] = some (ds.zipIdx.map fun p => .tup [.int p.2, p.1]) := rfl
theorem o_rngl (j : Int) : opF .rngl [.int j] = if 0 ≤ j ∧ j ≤ LIM then some (.ul (fzs (rgD 0 j))) else none := rfl
@[simp] theorem part_nil : partOf [] = some none := rfl
@[simp] theorem part_int (i : Int) : partOf [.fz (.int i)] = some (some i) := rfl
@[simp] theorem sl_lst (ds : List D) (lo hi : Option Int) : opSlice (.lst ds) lo hi = some (.ul (fzs (cutD ds lo hi))) := rfl
@[simp] theorem sl_tup (ds : List D) (lo hi : Option Int) : opSlice (.tup ds) lo hi = some (.fz (.tup (cutD ds lo hi))) := rfl
@[simp] theorem tyn_lst (ds : List D) : D.tyn (.lst ds) = some "list" := rfl
@[simp] theorem brwP_def (P ws : List Nat) (n : Nat) : brwP P ws n = P ++ (List.range n).filter fun j => !ws.contains j := rfl
@[simp] theorem mix_nil (f : Nat → Bool) (ρ1 : Pv.Env) : mixE f [] ρ1 = [] := by cases ρ1 <;> rfl
@[simp] theorem mix_cons (f : Nat → Bool) (o o1 : Option U) (ρ ρ1 : Pv.Env) : mixE f (o :: ρ) (o1 :: ρ1) = (if f 0 then scalO o1 else o) :: mixE (fun j => f (j + 1)) ρ ρ1 := rfl
@[simp] theorem scalO_n : scalO none = none := rfl
@[simp] theorem scalO_fz (d : D) : scalO (some (.fz d)) = if d.scalar then some (.fz d) else none := rfl
@[simp] theorem scalO_ul (d : List U) : scalO (some (.ul d)) = none := rfl
@[simp] theorem scalO_ut (d : List U) : scalO (some (.ut d)) = none := rfl
theorem outs_cons (muts : List Nat) (n : Nat) (o : Option U) (ρ : Pv.Env) : outs muts (n + 1) (o :: ρ) = (if muts.contains 0 then o else none) :: outsF (fun j => muts.contains (j + 1)) n ρ := rfl
@[simp] theorem outs0 (n : Nat) (o : Option U) (ρ : Pv.Env) : outs [0] (n + 1) (o :: ρ) = o :: List.replicate n none := by
  rw [outs_cons]
  rw [outs_nil n ρ _ (fun j => by simp)]
  rfl
theorem mul_ok {i j : Int} {a b : Nat} (hi : i.natAbs < 2 ^ a) (hj : j.natAbs < 2 ^ b) (h : a + b < 1000000) : i.natAbs.log2 + j.natAbs.log2 < 1000000 := by
  have h1 : i.natAbs.log2 ≤ a := by
    by_cases e : i.natAbs = 0
    · rw [e]; simp
    · have := (Nat.log2_lt e).mpr hi; omega
  have h2 : j.natAbs.log2 ≤ b := by
    by_cases e : j.natAbs = 0
    · rw [e]; simp
    · have := (Nat.log2_lt e).mpr hj; omega
  omega
section
variable {P : List Nat} {tg : Tg} {own : List Nat} {c : Pv.Env → R (List U)} {e : Pv.Env → R U} {α : Type}
theorem comp_on {ρ : Pv.Env} {Q : List U → Pv.Env → Prop} (l : List α) (en : α → D) (g : α → Option U) (hl : l.length ≤ LIM) (step : ∀ x ∈ l, OG (setTg P tg (.fz (en x)) ρ) fun ρ1 => (c ρ1).G fun cs ρ2 => CG cs fun b => IteB b ((e ρ2).G fun u ρ3 => g x = some u ∧ wipeE ρ3 own = ρ) (g x = none ∧ wipeE ρ2 own = ρ)) (q : Q (l.filterMap g) ρ) : (evComp P tg own c e (l.map en) ρ []).G Q := by
  refine comp_inv (fun r acc ρ' => ρ' = ρ ∧ (∃ k r', l = k ++ r' ∧ r = r'.map en ∧ acc = k.filterMap g ∧ acc.length ≤ k.length)) (fun acc ρ' h => ?_) (fun d r acc ρ' h => ?_) (l.map en) [] ρ ⟨rfl, [], l, rfl, rfl, rfl, by simp⟩
  · obtain ⟨rfl, k, r', e, e2, rfl, _⟩ := h
    rw [List.map_eq_nil_iff.mp e2.symm, List.append_nil] at e
    subst e
    exact q
  · obtain ⟨rfl, k, r', e1, e4, e2, e3⟩ := h
    cases r' with
    | nil => simp at e4
    | cons x r' =>
      simp only [List.map_cons, List.cons.injEq] at e4
      obtain ⟨rfl, rfl⟩ := e4
      have hx : x ∈ l := by rw [e1]; simp
      have hk : l.length = k.length + (r'.length + 1) := by rw [e1]; simp
      refine ⟨by omega, ?_⟩
      have h := step x hx
      cases hs : setTg P tg (.fz (en x)) ρ' with
      | none => rw [hs] at h; exact h.elim
      | some ρ1 =>
        rw [hs] at h
        simp only [OG] at h ⊢
        refine R.G.mono h fun cs ρ2 h => ?_
        have key : ∀ b, IteB b ((e ρ2).G fun u ρ3 => g x = some u ∧ wipeE ρ3 own = ρ') (g x = none ∧ wipeE ρ2 own = ρ') → IteB b ((e ρ2).G fun u ρ3 => wipeE ρ3 own = ρ' ∧ (∃ k' q', l = k' ++ q' ∧ r'.map en = q'.map en ∧ acc ++ [u] = k'.filterMap g ∧ (acc ++ [u]).length ≤ k'.length)) (wipeE ρ2 own = ρ' ∧ (∃ k' q', l = k' ++ q' ∧ r'.map en = q'.map en ∧ acc = k'.filterMap g ∧ acc.length ≤ k'.length)) := by
          intro b h
          refine ⟨fun hb => R.G.mono (h.1 hb) fun u ρ3 h => ⟨h.2, k ++ [x], r', by simp [e1], rfl, by simp [List.filterMap_append, h.1, e2], by simpa using e3⟩, fun hb => ⟨(h.2 hb).2, k ++ [x], r', by simp [e1], rfl, by simp [List.filterMap_append, (h.2 hb).1, e2], by simp; omega⟩⟩
        unfold CG at h ⊢
        split at h
        · exact key _ h
        · exact key _ h
        · exact h.elim
theorem comp_all {ρ : Pv.Env} {Q : List U → Pv.Env → Prop} (l : List α) (en : α → D) (g : α → U) (hl : l.length ≤ LIM) (step : ∀ x ∈ l, OG (setTg P tg (.fz (en x)) ρ) fun ρ1 => (c ρ1).G fun cs ρ2 => CG cs fun b => IteB b ((e ρ2).G fun u ρ3 => u = g x ∧ wipeE ρ3 own = ρ) False) (q : Q (l.map g) ρ) : (evComp P tg own c e (l.map en) ρ []).G Q := by
  refine comp_on l en (fun x => some (g x)) hl (fun x hx => ?_) (by simpa using q)
  have h := step x hx
  cases hs : setTg P tg (.fz (en x)) ρ with
  | none => rw [hs] at h; exact h.elim
  | some ρ1 =>
    rw [hs] at h
    simp only [OG] at h ⊢
    refine R.G.mono h fun cs ρ2 h => ?_
    unfold CG at h ⊢
    split at h
    · exact ⟨fun hb => R.G.mono (h.1 hb) fun u ρ3 h => ⟨by rw [h.1], h.2⟩, fun hb => (h.2 hb).elim⟩
    · exact ⟨fun hb => R.G.mono (h.1 hb) fun u ρ3 h => ⟨by rw [h.1], h.2⟩, fun hb => (h.2 hb).elim⟩
    · exact h.elim
theorem comp_filt {ρ : Pv.Env} {Q : List U → Pv.Env → Prop} (l : List α) (en : α → D) (p : α → Bool) (g : α → U) (hl : l.length ≤ LIM) (step : ∀ x ∈ l, OG (setTg P tg (.fz (en x)) ρ) fun ρ1 => (c ρ1).G fun cs ρ2 => CG cs fun b => b = p x ∧ IteB b ((e ρ2).G fun u ρ3 => u = g x ∧ wipeE ρ3 own = ρ) (wipeE ρ2 own = ρ)) (q : Q ((l.filter p).map g) ρ) : (evComp P tg own c e (l.map en) ρ []).G Q := by
  refine comp_on l en (fun x => if p x then some (g x) else none) hl (fun x hx => ?_) ?_
  · have h := step x hx
    cases hs : setTg P tg (.fz (en x)) ρ with
    | none => rw [hs] at h; exact h.elim
    | some ρ1 =>
      rw [hs] at h
      simp only [OG] at h ⊢
      refine R.G.mono h fun cs ρ2 h => ?_
      have key : ∀ b, b = p x ∧ IteB b ((e ρ2).G fun u ρ3 => u = g x ∧ wipeE ρ3 own = ρ) (wipeE ρ2 own = ρ) → IteB b ((e ρ2).G fun u ρ3 => (if p x then some (g x) else none) = some u ∧ wipeE ρ3 own = ρ) ((if p x then some (g x) else none) = none ∧ wipeE ρ2 own = ρ) := by
        intro b ⟨hb, h⟩
        refine ⟨fun q => R.G.mono (h.1 q) fun u ρ3 h => ⟨by rw [h.1, ← hb, q]; rfl, h.2⟩, fun q => ⟨by rw [← hb, q]; rfl, h.2 q⟩⟩
      unfold CG at h ⊢
      split at h
      · exact key _ h
      · exact key _ h
      · exact h.elim
  · have e : l.filterMap (fun x => if p x then some (g x) else none) = (l.filter p).map g := by
      clear step q hl
      induction l with
      | nil => rfl
      | cons x l ih => by_cases h : p x = true <;> simp [List.filterMap_cons, List.filter_cons, h, ih]
    rw [e]
    exact q
end
@[simp] theorem filt_false {α : Type} (l : List α) : l.filter (fun _ => false) = [] := by
  induction l <;> simp_all
@[simp] theorem filt_true {α : Type} (l : List α) : l.filter (fun _ => true) = l := by
  induction l <;> simp_all
theorem us_fz_map {α : Type} (g : α → D) (l : List α) : Us.d (l.map fun x => .fz (g x)) = l.map g := by
  rw [Us.d_map, List.map_map]; rfl
theorem us_ul_map {α : Type} (g : α → List D) (l : List α) : Us.d (l.map fun x => .ul (fzs (g x))) = l.map fun x => .lst (g x) := by
  rw [Us.d_map, List.map_map]
  exact List.map_congr_left fun x _ => by simp
@[simp] theorem put_mvn (i : Nat) (es : Es) (us : List (Option U)) (ρ : Pv.Env) : putB (.cons (.mv i) es) (none :: us) ρ = putB es us ρ := rfl
theorem sum2_ok {α : Type} (g : α → List D) (l : List α) (h : (l.map g).flatten.length ≤ LIM) : opF .sum2 [.lst (l.map fun x => .lst (g x)), .lst []] = some (.fz (.lst (l.map g).flatten)) := by
  rw [o_sum2, listsD_map, Option.bind_some, if_pos h]
@[simp] theorem mx_le (a b c : Nat) : max a b ≤ c ↔ a ≤ c ∧ b ≤ c := Nat.max_le
@[simp] theorem good_app (a b : List D) : Ds.good (a ++ b) = (Ds.good a && Ds.good b) := by
  induction a with
  | nil => simp [Ds.good]
  | cons x a ih => simp [Ds.good, ih, Bool.and_assoc]
@[simp] theorem dep_app (a b : List D) : Ds.dep (a ++ b) = max (Ds.dep a) (Ds.dep b) := by
  induction a with
  | nil => simp [Ds.dep]
  | cons x a ih => simp only [List.cons_append, Ds.dep, ih]; omega
@[simp] theorem eq_l0 (f : Bool → Bool) (ds : List D) (h : Ds.good ds = true) (hd : Ds.dep ds ≤ 60) : opEq f (.lst ds) (.lst []) = some (.fz (.bl (f ds.isEmpty))) := by
  rw [opEq_good (by simpa using h) (by simp) (by simp only [dp_lst]; omega) (by simp)]
  cases ds <;> simp [D.beq, Ds.beq]
@[simp] theorem cut_lo (l : List D) (i : Nat) : cutD l none (some (i : Int)) = l.take i := by
  unfold cutD
  rw [HT.sIx_none, HT.sIx_nat]
  simp only [List.drop_zero, Nat.sub_zero]
  by_cases h : i ≤ l.length
  · rw [Nat.min_eq_left h]
  · rw [Nat.min_eq_right (by omega), List.take_of_length_le (by omega), List.take_of_length_le (by omega)]
@[simp] theorem cut_hi (l : List D) (i : Nat) : cutD l (some ((i : Int) + 1)) none = l.drop (i + 1) := by
  unfold cutD
  have e : ((i : Int) + 1) = ((i + 1 : Nat) : Int) := by omega
  rw [e, HT.sIx_none, HT.sIx_nat]
  by_cases h : i + 1 ≤ l.length
  · rw [Nat.min_eq_left h, List.take_of_length_le (by simp)]
  · rw [Nat.min_eq_right (by omega), List.drop_of_length_le (Nat.le_refl _), List.drop_of_length_le (i := i + 1) (by omega)]; simp
@[simp] theorem cut_1 (l : List D) : cutD l (some 1) none = l.drop 1 := cut_hi l 0
theorem atI_n {α : Type} {l : List α} {i : Nat} {x : α} (h : l[i]? = some x) : L2.atI l (i : Int) = some x := by
  have hi : i < l.length := (List.getElem?_eq_some_iff.mp h).1
  unfold L2.atI L2.ixN
  rw [if_pos (by omega), if_pos (by omega)]
  simpa using h
@[simp] theorem mk0 : mkT [] = .fz (.tup []) := rfl
@[simp] theorem mk1 (a : D) : mkT [.fz a] = .fz (.tup [a]) := rfl
@[simp] theorem mk2 (a b : D) : mkT [.fz a, .fz b] = .fz (.tup [a, b]) := rfl
@[simp] theorem mk3 (a b c : D) : mkT [.fz a, .fz b, .fz c] = .fz (.tup [a, b, c]) := rfl
@[simp] theorem mk4 (a b c d : D) : mkT [.fz a, .fz b, .fz c, .fz d] = .fz (.tup [a, b, c, d]) := rfl
theorem limT {k : Nat} (h : k ≤ 1000000) : (k ≤ LIM) = True := eq_true h
theorem limL {k : Nat} (h : k < 1000000) : (k < LIM) = True := eq_true h
section
variable {P : List Nat} {tg : Tg} {own : List Nat} {c : Pv.Env → R (List U)} {e : Pv.Env → R U} {α : Type}
/-- a comprehension that changes nothing, up to who owns what -/
theorem comp_filtD {ρ : Pv.Env} {Q : List U → Pv.Env → Prop} (l : List α) (en : α → D) (p : α → Bool) (g : α → D) (hl : l.length ≤ LIM) (step : ∀ x ∈ l, OG (setTg P tg (.fz (en x)) ρ) fun ρ1 => (c ρ1).G fun cs ρ2 => CG cs fun b => b = p x ∧ IteB b ((e ρ2).G fun u ρ3 => u.d = g x ∧ wipeE ρ3 own = ρ) (wipeE ρ2 own = ρ)) (q : ∀ acc, Us.d acc = (l.filter p).map g → Q acc ρ) : (evComp P tg own c e (l.map en) ρ []).G Q := by
  refine comp_inv (fun r acc ρ' => ρ' = ρ ∧ (∃ k r', l = k ++ r' ∧ r = r'.map en ∧ Us.d acc = (k.filter p).map g ∧ acc.length ≤ k.length)) (fun acc ρ' h => ?_) (fun d r acc ρ' h => ?_) (l.map en) [] ρ ⟨rfl, [], l, rfl, rfl, rfl, by simp⟩
  · obtain ⟨rfl, k, r', e, e2, e3, _⟩ := h
    rw [List.map_eq_nil_iff.mp e2.symm, List.append_nil] at e
    subst e
    exact q _ e3
  · obtain ⟨rfl, k, r', e1, e4, e2, e3⟩ := h
    cases r' with
    | nil => simp at e4
    | cons x r' =>
      simp only [List.map_cons, List.cons.injEq] at e4
      obtain ⟨rfl, rfl⟩ := e4
      have hx : x ∈ l := by rw [e1]; simp
      have hk : l.length = k.length + (r'.length + 1) := by rw [e1]; simp
      refine ⟨by omega, ?_⟩
      have h := step x hx
      cases hs : setTg P tg (.fz (en x)) ρ' with
      | none => rw [hs] at h; exact h.elim
      | some ρ1 =>
        rw [hs] at h
        simp only [OG] at h ⊢
        refine R.G.mono h fun cs ρ2 h => ?_
        have key : ∀ b, b = p x ∧ IteB b ((e ρ2).G fun u ρ3 => u.d = g x ∧ wipeE ρ3 own = ρ') (wipeE ρ2 own = ρ') → IteB b ((e ρ2).G fun u ρ3 => wipeE ρ3 own = ρ' ∧ (∃ k' q', l = k' ++ q' ∧ r'.map en = q'.map en ∧ Us.d (acc ++ [u]) = (k'.filter p).map g ∧ (acc ++ [u]).length ≤ k'.length)) (wipeE ρ2 own = ρ' ∧ (∃ k' q', l = k' ++ q' ∧ r'.map en = q'.map en ∧ Us.d acc = (k'.filter p).map g ∧ acc.length ≤ k'.length)) := by
          intro b ⟨hb, h⟩
          refine ⟨fun q => R.G.mono (h.1 q) fun u ρ3 h => ⟨h.2, k ++ [x], r', by simp [e1], rfl, by simp [List.filter_append, ← hb, q, h.1, e2], by simpa using e3⟩, fun q => ⟨h.2 q, k ++ [x], r', by simp [e1], rfl, by simp [List.filter_append, ← hb, q, e2], by simp; omega⟩⟩
        unfold CG at h ⊢
        split at h
        · exact key _ h
        · exact key _ h
        · exact h.elim
theorem comp_allD {ρ : Pv.Env} {Q : List U → Pv.Env → Prop} (l : List α) (en : α → D) (g : α → D) (hl : l.length ≤ LIM) (step : ∀ x ∈ l, OG (setTg P tg (.fz (en x)) ρ) fun ρ1 => (c ρ1).G fun cs ρ2 => CG cs fun b => b = true ∧ (e ρ2).G fun u ρ3 => u.d = g x ∧ wipeE ρ3 own = ρ) (q : ∀ acc, Us.d acc = l.map g → Q acc ρ) : (evComp P tg own c e (l.map en) ρ []).G Q := by
  refine comp_filtD l en (fun _ => true) g hl (fun x hx => ?_) (by simpa using q)
  have h := step x hx
  cases hs : setTg P tg (.fz (en x)) ρ with
  | none => rw [hs] at h; exact h.elim
  | some ρ1 =>
    rw [hs] at h
    simp only [OG] at h ⊢
    refine R.G.mono h fun cs ρ2 h => ?_
    unfold CG at h ⊢
    split at h
    · exact ⟨h.1, fun _ => h.2, fun q => by rw [h.1] at q; cases q⟩
    · exact ⟨h.1, fun _ => h.2, fun q => by rw [h.1] at q; cases q⟩
    · exact h.elim
end
def sdrop : Nat → Ss → Ss
  | 0, s => s
  | n + 1, .cons _ ss => sdrop n ss
  | _ + 1, .nil => .nil
@[simp] theorem good_ints {α : Type} (g : α → Int) (l : List α) : Ds.good (l.map fun x => .int (g x)) = true := by
  induction l with
  | nil => rfl
  | cons x l ih => simp [ih]
@[simp] theorem dep_ints {α : Type} (g : α → Int) (l : List α) : Ds.dep (l.map fun x => .int (g x)) = 0 := by
  induction l with
  | nil => rfl
  | cons x l ih => simp [ih]
theorem filt_map {α β γ δ : Type} (h : α → Option β) (F : α → β → δ) (d : δ) (G : α → β → γ) (K : γ → δ) (hk : ∀ p x, h p = some x → K (G p x) = F p x) (L : List α) : (L.filter (fun p => (h p).isSome)).map (fun p => (h p).elim d (F p)) = (L.filterMap fun p => (h p).map (G p)).map K := by
  induction L with
  | nil => rfl
  | cons p L ih =>
    cases e : h p with
    | none => simp [List.filter_cons, List.filterMap_cons, e, ih]
    | some x => simp [List.filter_cons, List.filterMap_cons, e, ih, hk p x e]
theorem fz_str {u : U} {s : Str} (h : u.d = .str s) : u = .fz (.str s) := by
  cases u <;> simp_all
theorem fz_int {u : U} {s : Int} (h : u.d = .int s) : u = .fz (.int s) := by
  cases u <;> simp_all
theorem mul_go {i j : Int} (h : i.natAbs.log2 + j.natAbs.log2 < 1000000) : opF .mul [.int i, .int j] = some (.fz (.int (i * j))) := by rw [o_mul, if_pos h]
@[simp] theorem ix30 : L2.ixN 3 0 = some 0 := rfl
@[simp] theorem ix31 : L2.ixN 3 1 = some 1 := rfl
@[simp] theorem ix32 : L2.ixN 3 2 = some 2 := rfl
end
end Pv

namespace Ir
open Pv PySem
def d_is_name_in : Fd := { name := "is_name_in", np := 1, N := ["value", "sign"], muts := [], body := (.cons (.ite (.or_ (.not_ (.op (.isa ["str"]) (.cons (.var 0) .nil))) (.or_ (.not_ (.chain .le .le (.cst (.int (1))) (.op .len (.cons (.var 0) .nil)) (.glob "MOST_LETTERS" (.int (12))))) (.op .notin (.cons (.op .idx (.cons (.var 0) (.cons (.cst (.int (0))) .nil))) (.cons (.glob "SMALL" (.str "abcdefghijklmnopqrstuvwxyz")) .nil))))) (.cons (.ret (.cst (.bl false))) .nil) .nil) (.cons (.ret (.op .eq (.cons (.comp [("sign", 1)] (.name 1) .many (.cons (.var 0) .nil) (.var 1) (.cons (.and_ (.op .notin (.cons (.var 1) (.cons (.glob "SMALL" (.str "abcdefghijklmnopqrstuvwxyz")) .nil))) (.op .notin (.cons (.var 1) (.cons (.glob "FIGURES" (.str "0123456789")) .nil)))) .nil)) (.cons (.lst .nil) .nil)))) .nil)) }
def d_is_shaped : Fd := { name := "is_shaped", np := 1, N := ["value"], muts := [], body := (.cons (.ite (.or_ (.not_ (.op (.isa ["tuple"]) (.cons (.var 0) .nil))) (.or_ (.op .eq (.cons (.var 0) (.cons (.tup .nil) .nil))) (.not_ (.op (.isa ["str"]) (.cons (.op .idx (.cons (.var 0) (.cons (.cst (.int (0))) .nil))) .nil))))) (.cons (.ret (.cst (.bl false))) .nil) .nil) (.cons (.ite (.op .eq (.cons (.op .idx (.cons (.var 0) (.cons (.cst (.int (0))) .nil))) (.cons (.cst (.str "is")) .nil))) (.cons (.ret (.and_ (.op .eq (.cons (.op .len (.cons (.var 0) .nil)) (.cons (.cst (.int (2))) .nil))) (.call "is_name_in" (.cons (.op .idx (.cons (.var 0) (.cons (.cst (.int (1))) .nil))) .nil) []))) .nil) .nil) (.cons (.ret (.or_ (.op .eq (.cons (.var 0) (.cons (.glob "NO" (.tup [(.str "no")])) .nil))) (.and_ (.op .isin (.cons (.op .idx (.cons (.var 0) (.cons (.cst (.int (0))) .nil))) (.cons (.glob "JOINERS" (.tup [(.str "and"), (.str "or"), (.str "then")])) .nil))) (.op .eq (.cons (.op .len (.cons (.var 0) .nil)) (.cons (.cst (.int (3))) .nil)))))) .nil))) }
def d_inner_of : Fd := { name := "inner_of", np := 1, N := ["formula"], muts := [], body := (.cons (.ret (.ite (.op .isin (.cons (.op .idx (.cons (.var 0) (.cons (.cst (.int (0))) .nil))) (.cons (.glob "JOINERS" (.tup [(.str "and"), (.str "or"), (.str "then")])) .nil))) (.op .list1 (.cons (.sl (.var 0) (.cons (.cst (.int (1))) .nil) .nil) .nil)) (.lst .nil))) .nil) }
def d_levels_of : Fd := { name := "levels_of", np := 1, N := ["value", "level", "told", "signs", "formula", "one"], muts := [], body := (.cons (.set (.tup [1, 2, 3]) (.tup (.cons (.lst (.cons (.var 0) .nil)) (.cons (.lst .nil) (.cons (.cst (.int (0))) .nil))))) (.cons (.while_ (.op .ne (.cons (.var 1) (.cons (.lst .nil) .nil))) (.cons (.set (.name 3) (.op .add (.cons (.var 3) (.cons (.op .len (.cons (.var 1) .nil)) .nil)))) (.cons (.ite (.brw (.or_ (.op .eq (.cons (.op .len (.cons (.var 2) .nil)) (.cons (.glob "MOST_DEEP" (.int (60))) .nil))) (.or_ (.op .gt (.cons (.var 3) (.cons (.glob "MOST_SIGNS" (.int (200))) .nil))) (.op .ne (.cons (.comp [("one", 5)] (.name 5) .many (.cons (.var 1) .nil) (.var 5) (.cons (.not_ (.call "is_shaped" (.cons (.var 5) .nil) [])) .nil)) (.cons (.lst .nil) .nil)))))) (.cons (.ret (.cst .non)) .nil) .nil) (.cons (.expr (.app 2 (.var 1))) (.cons (.set (.name 1) (.op .sum2 (.cons (.comp [("formula", 4)] (.name 4) .many (.cons (.var 1) .nil) (.call "inner_of" (.cons (.var 4) .nil) []) .nil) (.cons (.lst .nil) .nil)))) .nil))))) (.cons (.ret (.mv 2)) .nil))) }
def d_is_formula_in : Fd := { name := "is_formula_in", np := 1, N := ["value"], muts := [], body := (.cons (.ret (.op .notN (.cons (.call "levels_of" (.cons (.mv 0) .nil) []) .nil))) .nil) }
def d_check_formula : Fd := { name := "check_formula", np := 1, N := ["formula"], muts := [], body := (.cons (.ite (.not_ (.call "is_formula_in" (.cons (.var 0) .nil) [])) (.cons (.raise "" .bad) .nil) .nil) .nil) }
def d_parts_in : Fd := { name := "parts_in", np := 1, N := ["formula", "told", "stack", "part"], muts := [], body := (.cons (.set (.tup [1, 2]) (.tup (.cons (.lst .nil) (.cons (.lst (.cons (.var 0) .nil)) .nil)))) (.cons (.while_ (.brw (.op .ne (.cons (.var 2) (.cons (.lst .nil) .nil)))) (.cons (.set (.name 3) (.pop 2)) (.cons (.expr (.app 1 (.var 3))) (.cons (.set (.name 2) (.op .add (.cons (.var 2) (.cons (.op .rev (.cons (.call "inner_of" (.cons (.var 3) .nil) []) .nil)) .nil)))) .nil)))) (.cons (.ret (.mv 1)) .nil))) }
def d_is_sequent : Fd := { name := "is_sequent", np := 2, N := ["left", "right", "one"], muts := [], body := (.cons (.ite (.or_ (.not_ (.op (.isa ["list"]) (.cons (.var 0) .nil))) (.or_ (.op .gt (.cons (.op .len (.cons (.var 0) .nil)) (.cons (.glob "MOST_LEFT" (.int (40))) .nil))) (.op .ne (.cons (.comp [("one", 2)] (.name 2) .many (.cons (.var 0) .nil) (.var 2) (.cons (.not_ (.call "is_formula_in" (.cons (.var 2) .nil) [])) .nil)) (.cons (.lst .nil) .nil))))) (.cons (.ret (.cst (.bl false))) .nil) .nil) (.cons (.ret (.call "is_formula_in" (.cons (.mv 1) .nil) [])) .nil)) }
def d_is_taken : Fd := { name := "is_taken", np := 2, N := ["left", "formula"], muts := [], body := (.cons (.ite (.op .isin (.cons (.op .idx (.cons (.var 1) (.cons (.cst (.int (0))) .nil))) (.cons (.tup (.cons (.cst (.str "and")) (.cons (.cst (.str "or")) .nil))) .nil))) (.cons (.ret (.cst (.bl true))) .nil) .nil) (.cons (.ite (.op .ne (.cons (.op .idx (.cons (.var 1) (.cons (.cst (.int (0))) .nil))) (.cons (.cst (.str "then")) .nil))) (.cons (.ret (.cst (.bl false))) .nil) .nil) (.cons (.ret (.or_ (.op .isin (.cons (.op .idx (.cons (.op .idx (.cons (.var 1) (.cons (.cst (.int (1))) .nil))) (.cons (.cst (.int (0))) .nil))) (.cons (.tup (.cons (.cst (.str "no")) (.cons (.cst (.str "and")) (.cons (.cst (.str "or")) .nil)))) .nil))) (.and_ (.op .eq (.cons (.op .idx (.cons (.op .idx (.cons (.var 1) (.cons (.cst (.int (1))) .nil))) (.cons (.cst (.int (0))) .nil))) (.cons (.cst (.str "is")) .nil))) (.op .isin (.cons (.op .idx (.cons (.var 1) (.cons (.cst (.int (1))) .nil))) (.cons (.mv 0) .nil)))))) .nil))) }
def d_put_for : Fd := { name := "put_for", np := 1, N := ["formula", "first", "last"], muts := [], body := (.cons (.ite (.op .eq (.cons (.op .idx (.cons (.var 0) (.cons (.cst (.int (0))) .nil))) (.cons (.cst (.str "and")) .nil))) (.cons (.ret (.lst (.cons (.lst (.cons (.op .idx (.cons (.var 0) (.cons (.cst (.int (1))) .nil))) (.cons (.op .idx (.cons (.var 0) (.cons (.cst (.int (2))) .nil))) .nil))) .nil))) .nil) .nil) (.cons (.ite (.op .eq (.cons (.op .idx (.cons (.var 0) (.cons (.cst (.int (0))) .nil))) (.cons (.cst (.str "or")) .nil))) (.cons (.ret (.lst (.cons (.lst (.cons (.op .idx (.cons (.var 0) (.cons (.cst (.int (1))) .nil))) .nil)) (.cons (.lst (.cons (.op .idx (.cons (.var 0) (.cons (.cst (.int (2))) .nil))) .nil)) .nil)))) .nil) .nil) (.cons (.set (.tup [1, 2]) (.tup (.cons (.op .idx (.cons (.var 0) (.cons (.cst (.int (1))) .nil))) (.cons (.op .idx (.cons (.var 0) (.cons (.cst (.int (2))) .nil))) .nil)))) (.cons (.ite (.op .eq (.cons (.op .idx (.cons (.var 1) (.cons (.cst (.int (0))) .nil))) (.cons (.cst (.str "no")) .nil))) (.cons (.ret (.lst (.cons (.lst .nil) .nil))) .nil) .nil) (.cons (.ite (.op .eq (.cons (.op .idx (.cons (.var 1) (.cons (.cst (.int (0))) .nil))) (.cons (.cst (.str "and")) .nil))) (.cons (.ret (.lst (.cons (.lst (.cons (.tup (.cons (.cst (.str "then")) (.cons (.op .idx (.cons (.var 1) (.cons (.cst (.int (1))) .nil))) (.cons (.tup (.cons (.cst (.str "then")) (.cons (.op .idx (.cons (.var 1) (.cons (.cst (.int (2))) .nil))) (.cons (.mv 2) .nil)))) .nil)))) .nil)) .nil))) .nil) .nil) (.cons (.ret (.ite (.op .eq (.cons (.op .idx (.cons (.var 1) (.cons (.cst (.int (0))) .nil))) (.cons (.cst (.str "or")) .nil))) (.lst (.cons (.lst (.cons (.tup (.cons (.cst (.str "then")) (.cons (.op .idx (.cons (.var 1) (.cons (.cst (.int (1))) .nil))) (.cons (.var 2) .nil)))) (.cons (.tup (.cons (.cst (.str "then")) (.cons (.op .idx (.cons (.var 1) (.cons (.cst (.int (2))) .nil))) (.cons (.var 2) .nil)))) .nil))) .nil)) (.lst (.cons (.lst (.cons (.var 2) .nil)) .nil)))) .nil)))))) }
def d_is_nested : Fd := { name := "is_nested", np := 1, N := ["formula"], muts := [], body := (.cons (.ret (.and_ (.op .eq (.cons (.op .idx (.cons (.var 0) (.cons (.cst (.int (0))) .nil))) (.cons (.cst (.str "then")) .nil))) (.op .eq (.cons (.op .idx (.cons (.op .idx (.cons (.var 0) (.cons (.cst (.int (1))) .nil))) (.cons (.cst (.int (0))) .nil))) (.cons (.cst (.str "then")) .nil))))) .nil) }
def d_nested_way : Fd := { name := "nested_way", np := 3, N := ["left", "right", "at", "first", "inner", "last"], muts := [], body := (.cons (.set (.tup [4, 5]) (.tup (.cons (.op .idx (.cons (.op .idx (.cons (.var 0) (.cons (.var 2) .nil))) (.cons (.cst (.int (1))) .nil))) (.cons (.op .idx (.cons (.op .idx (.cons (.var 0) (.cons (.var 2) .nil))) (.cons (.cst (.int (2))) .nil))) .nil)))) (.cons (.set (.name 3) (.op .add (.cons (.op .add (.cons (.op .add (.cons (.lst (.cons (.op .idx (.cons (.var 4) (.cons (.cst (.int (1))) .nil))) .nil)) (.cons (.sl (.var 0) .nil (.cons (.var 2) .nil)) .nil))) (.cons (.lst (.cons (.tup (.cons (.cst (.str "then")) (.cons (.op .idx (.cons (.var 4) (.cons (.cst (.int (2))) .nil))) (.cons (.var 5) .nil)))) .nil)) .nil))) (.cons (.sl (.var 0) (.cons (.op .add (.cons (.var 2) (.cons (.cst (.int (1))) .nil))) .nil) .nil) .nil)))) (.cons (.ret (.lst (.cons (.tup (.cons (.mv 3) (.cons (.op .idx (.cons (.mv 4) (.cons (.cst (.int (2))) .nil))) .nil))) (.cons (.tup (.cons (.op .add (.cons (.op .add (.cons (.sl (.var 0) .nil (.cons (.var 2) .nil)) (.cons (.lst (.cons (.mv 5) .nil)) .nil))) (.cons (.sl (.var 0) (.cons (.op .add (.cons (.var 2) (.cons (.cst (.int (1))) .nil))) .nil) .nil) .nil))) (.cons (.mv 1) .nil))) .nil)))) .nil))) }
def d_rule_in : Fd := { name := "rule_in", np := 2, N := ["left", "right", "places", "ways", "at", "formula", "more"], muts := [], body := (.cons (.ite (.op .isin (.cons (.glob "NO" (.tup [(.str "no")])) (.cons (.var 0) .nil))) (.cons (.ret (.tup (.cons (.cst (.str "false")) (.cons (.lst (.cons (.lst .nil) .nil)) (.cons (.cst .non) .nil))))) .nil) .nil) (.cons (.ite (.op .isin (.cons (.var 1) (.cons (.var 0) .nil))) (.cons (.ret (.tup (.cons (.cst (.str "there")) (.cons (.lst (.cons (.lst .nil) .nil)) (.cons (.cst .non) .nil))))) .nil) .nil) (.cons (.ite (.op .eq (.cons (.op .idx (.cons (.var 1) (.cons (.cst (.int (0))) .nil))) (.cons (.cst (.str "then")) .nil))) (.cons (.ret (.tup (.cons (.cst (.str "then")) (.cons (.lst (.cons (.lst (.cons (.tup (.cons (.op .add (.cons (.lst (.cons (.op .idx (.cons (.var 1) (.cons (.cst (.int (1))) .nil))) .nil)) (.cons (.mv 0) .nil))) (.cons (.op .idx (.cons (.var 1) (.cons (.cst (.int (2))) .nil))) .nil))) .nil)) .nil)) (.cons (.cst .non) .nil))))) .nil) .nil) (.cons (.ite (.op .eq (.cons (.op .idx (.cons (.var 1) (.cons (.cst (.int (0))) .nil))) (.cons (.cst (.str "and")) .nil))) (.cons (.ret (.tup (.cons (.cst (.str "and")) (.cons (.lst (.cons (.lst (.cons (.tup (.cons (.var 0) (.cons (.op .idx (.cons (.var 1) (.cons (.cst (.int (1))) .nil))) .nil))) (.cons (.tup (.cons (.var 0) (.cons (.op .idx (.cons (.var 1) (.cons (.cst (.int (2))) .nil))) .nil))) .nil))) .nil)) (.cons (.cst .non) .nil))))) .nil) .nil) (.cons (.set (.name 2) (.comp [("at", 4), ("formula", 5)] (.tup [4, 5]) .enum (.cons (.var 0) .nil) (.var 4) (.cons (.call "is_taken" (.cons (.var 0) (.cons (.var 5) .nil)) []) .nil))) (.cons (.ite (.op .ne (.cons (.var 2) (.cons (.lst .nil) .nil))) (.cons (.set (.name 4) (.op .idx (.cons (.var 2) (.cons (.cst (.int (0))) .nil)))) (.cons (.ret (.tup (.cons (.cst (.str "taken")) (.cons (.lst (.cons (.comp [("more", 6)] (.name 6) .many (.cons (.call "put_for" (.cons (.op .idx (.cons (.var 0) (.cons (.var 4) .nil))) .nil) []) .nil) (.tup (.cons (.op .add (.cons (.op .add (.cons (.sl (.var 0) .nil (.cons (.var 4) .nil)) (.cons (.var 6) .nil))) (.cons (.sl (.var 0) (.cons (.op .add (.cons (.var 4) (.cons (.cst (.int (1))) .nil))) .nil) .nil) .nil))) (.cons (.var 1) .nil))) .nil) .nil)) (.cons (.var 4) .nil))))) .nil)) .nil) (.cons (.set (.name 3) (.ite (.op .eq (.cons (.op .idx (.cons (.var 1) (.cons (.cst (.int (0))) .nil))) (.cons (.cst (.str "or")) .nil))) (.lst (.cons (.lst (.cons (.tup (.cons (.var 0) (.cons (.op .idx (.cons (.var 1) (.cons (.cst (.int (1))) .nil))) .nil))) .nil)) (.cons (.lst (.cons (.tup (.cons (.var 0) (.cons (.op .idx (.cons (.var 1) (.cons (.cst (.int (2))) .nil))) .nil))) .nil)) .nil))) (.lst .nil))) (.cons (.ret (.tup (.cons (.cst (.str "tried")) (.cons (.op .add (.cons (.mv 3) (.cons (.comp [("at", 4), ("formula", 5)] (.tup [4, 5]) .enum (.cons (.var 0) .nil) (.call "nested_way" (.cons (.var 0) (.cons (.var 1) (.cons (.var 4) .nil))) []) (.cons (.call "is_nested" (.cons (.var 5) .nil) []) .nil)) .nil))) (.cons (.cst .non) .nil))))) .nil)))))))) }
def d_check_sequents : Fd := { name := "check_sequents", np := 1, N := ["sequents", "left", "right", "formula"], muts := [], body := (.cons (.ite (.op .ne (.cons (.comp [("left", 1), ("right", 2)] (.tup [1, 2]) .many (.cons (.var 0) .nil) (.var 1) (.cons (.op .gt (.cons (.op .len (.cons (.var 1) .nil)) (.cons (.glob "MOST_LEFT" (.int (40))) .nil))) .nil)) (.cons (.lst .nil) .nil))) (.cons (.raise "" .bad) .nil) .nil) (.cons (.for_ (.tup [1, 2]) .many (.cons (.var 0) .nil) (.cons (.ite (.op .ne (.cons (.comp [("formula", 3)] (.name 3) .many (.cons (.op .add (.cons (.var 1) (.cons (.lst (.cons (.var 2) .nil)) .nil))) .nil) (.var 3) (.cons (.op .isN (.cons (.call "levels_of" (.cons (.var 3) .nil) []) .nil)) .nil)) (.cons (.lst .nil) .nil))) (.cons (.raise "" .bad) .nil) .nil) .nil)) .nil)) }
def d_rule_at : Fd := { name := "rule_at", np := 2, N := ["left", "right", "word", "ways", "at", "way", "one", "other"], muts := [], body := (.cons (.ite (.not_ (.call "is_sequent" (.cons (.var 0) (.cons (.var 1) .nil)) [])) (.cons (.raise "" .bad) .nil) .nil) (.cons (.set (.tup [2, 3, 4]) (.call "rule_in" (.cons (.var 0) (.cons (.var 1) .nil)) [])) (.cons (.expr (.call "check_sequents" (.cons (.op .sum2 (.cons (.var 3) (.cons (.lst .nil) .nil))) .nil) [])) (.cons (.ret (.tup (.cons (.mv 2) (.cons (.comp [("way", 5)] (.name 5) .many (.cons (.var 3) .nil) (.comp [("one", 6), ("other", 7)] (.tup [6, 7]) .many (.cons (.var 5) .nil) (.tup (.cons (.op .list1 (.cons (.var 6) .nil)) (.cons (.var 7) .nil))) .nil) .nil) .nil)))) .nil)))) }
def d_weight_of : Fd := { name := "weight_of", np := 1, N := ["formula", "told", "part"], muts := [], body := (.cons (.expr (.call "check_formula" (.cons (.var 0) .nil) [])) (.cons (.set (.name 1) (.cst (.int (0)))) (.cons (.for_ (.name 2) .many (.cons (.call "parts_in" (.cons (.var 0) .nil) []) .nil) (.cons (.set (.name 1) (.op .add (.cons (.var 1) (.cons (.ite (.op .eq (.cons (.op .idx (.cons (.var 2) (.cons (.cst (.int (0))) .nil))) (.cons (.cst (.str "and")) .nil))) (.cst (.int (2))) (.cst (.int (1)))) .nil)))) .nil)) (.cons (.ret (.mv 1)) .nil)))) }
def d__law_hash : Fd := { name := "_law_hash", np := 2, N := ["seed", "index", "mixed"], muts := [], body := (.cons (.set (.name 2) (.op .mod (.cons (.op .int1 (.cons (.op .add (.cons (.op .add (.cons (.op .add (.cons (.op .mul (.cons (.var 0) (.cons (.cst (.int (1140671))) .nil))) (.cons (.op .mul (.cons (.op .mul (.cons (.cst (.int (27644437))) (.cons (.var 1) .nil))) (.cons (.var 1) .nil))) .nil))) (.cons (.op .mul (.cons (.cst (.int (131))) (.cons (.var 1) .nil))) .nil))) (.cons (.cst (.int (19))) .nil))) .nil)) (.cons (.cst (.int (2147483629))) .nil)))) (.cons (.set (.name 2) (.op .mod (.cons (.op .int1 (.cons (.op .add (.cons (.op .add (.cons (.op .mul (.cons (.var 2) (.cons (.var 2) .nil))) (.cons (.op .mul (.cons (.cst (.int (62089))) (.cons (.var 1) .nil))) .nil))) (.cons (.cst (.int (32416187))) .nil))) .nil)) (.cons (.cst (.int (2147483587))) .nil)))) (.cons (.ret (.op .mod (.cons (.op .int1 (.cons (.op .mul (.cons (.mv 2) (.cons (.cst (.int (48271))) .nil))) .nil)) (.cons (.cst (.int (2147483647))) .nil)))) .nil))) }
def d__law_random : Fd := { name := "_law_random", np := 2, N := ["generator", "bound", "drawn", "turn"], muts := [0], body := (.cons (.ite (.brw (.op .gt (.cons (.op .idx (.cons (.var 0) (.cons (.cst (.int (0))) .nil))) (.cons (.cst (.int (0))) .nil)))) (.cons (.set (.name 2) (.brw (.op .mod (.cons (.op .int1 (.cons (.op .idx (.cons (.var 0) (.cons (.cst (.int (0))) .nil))) .nil)) (.cons (.var 1) .nil))))) (.cons (.setIx 0 (.cst (.int (0))) (.brw (.op .fdiv (.cons (.op .idx (.cons (.var 0) (.cons (.cst (.int (0))) .nil))) (.cons (.var 1) .nil))))) (.cons (.ret (.mv 2)) .nil))) .nil) (.cons (.set (.name 2) (.cst (.int (0)))) (.cons (.for_ (.name 3) .rng1 (.cons (.op .add (.cons (.cst (.int (1))) (.cons (.op .fdiv (.cons (.op .bitlen (.cons (.var 1) .nil)) (.cons (.cst (.int (30))) .nil))) .nil))) .nil) (.cons (.setIx 0 (.cst (.int (2))) (.op .add (.cons (.pix 0 (.cst (.int (2)))) (.cons (.cst (.int (1))) .nil)))) (.cons (.set (.name 2) (.brw (.op .add (.cons (.op .mul (.cons (.var 2) (.cons (.cst (.int (2147483587))) .nil))) (.cons (.call "_law_hash" (.cons (.op .idx (.cons (.var 0) (.cons (.cst (.int (1))) .nil))) (.cons (.op .idx (.cons (.var 0) (.cons (.cst (.int (2))) .nil))) .nil)) []) .nil))))) .nil))) (.cons (.ret (.op .mod (.cons (.op .int1 (.cons (.mv 2) .nil)) (.cons (.mv 1) .nil)))) .nil)))) }
def d__law_cell : Fd := { name := "_law_cell", np := 2, N := ["script", "index"], muts := [], body := (.cons (.ite (.op .lt (.cons (.var 1) (.cons (.op .len (.cons (.var 0) .nil)) .nil))) (.cons (.ret (.op .idx (.cons (.mv 0) (.cons (.mv 1) .nil)))) .nil) .nil) (.cons (.ret (.op .mod (.cons (.op .sum1 (.cons (.sl (.mv 0) .nil (.cons (.cst (.int (1))) .nil)) .nil)) (.cons (.cst (.int (1000003))) .nil)))) .nil)) }
def d__law_generator : Fd := { name := "_law_generator", np := 2, N := ["script", "index", "seed"], muts := [], body := (.cons (.set (.name 2) (.call "_law_cell" (.cons (.var 0) (.cons (.var 1) .nil)) [])) (.cons (.ret (.lst (.cons (.op .mod (.cons (.op .int1 (.cons (.op .max2 (.cons (.op .sub (.cons (.var 2) (.cons (.op .pow (.cons (.cst (.int (10))) (.cons (.cst (.int (18))) .nil))) .nil))) (.cons (.cst (.int (0))) .nil))) .nil)) (.cons (.op .pow (.cons (.op .pow (.cons (.cst (.int (10))) (.cons (.cst (.int (60))) .nil))) (.cons (.cst (.int (10))) .nil))) .nil))) (.cons (.op .mod (.cons (.op .int1 (.cons (.var 2) .nil)) (.cons (.cst (.int (2147483647))) .nil))) (.cons (.op .mul (.cons (.cst (.int (1000))) (.cons (.mv 1) .nil))) .nil))))) .nil)) }
def d__law_pick : Fd := { name := "_law_pick", np := 2, N := ["generator", "things"], muts := [0], body := (.cons (.ret (.op .idx (.cons (.var 1) (.cons (.call "_law_random" (.cons (.mv 0) (.cons (.op .len (.cons (.var 1) .nil)) .nil)) []) .nil)))) .nil) }
def d__law_drawn_order : Fd := { name := "_law_drawn_order", np := 2, N := ["generator", "things", "left", "found"], muts := [0], body := (.cons (.set (.tup [2, 3]) (.tup (.cons (.op .list1 (.cons (.var 1) .nil)) (.cons (.lst .nil) .nil)))) (.cons (.while_ (.brw (.op .ne (.cons (.var 2) (.cons (.lst .nil) .nil)))) (.cons (.expr (.app 3 (.popAt 2 (.call "_law_random" (.cons (.mv 0) (.cons (.brw (.op .len (.cons (.var 2) .nil))) .nil)) [])))) .nil)) (.cons (.ret (.mv 3)) .nil))) }
def d__law_exact : Fd := { name := "_law_exact", np := 2, N := ["told", "due", "at", "part"], muts := [], body := (.cons (.ite (.op (.isa ["list", "tuple"]) (.cons (.var 1) .nil)) (.cons (.ite (.or_ (.op .ne (.cons (.op (.isa ["list"]) (.cons (.var 0) .nil)) (.cons (.op (.isa ["list"]) (.cons (.var 1) .nil)) .nil))) (.op .ne (.cons (.op (.isa ["tuple"]) (.cons (.var 0) .nil)) (.cons (.op (.isa ["tuple"]) (.cons (.var 1) .nil)) .nil)))) (.cons (.ret (.cst (.bl false))) .nil) .nil) (.cons (.ret (.and_ (.op .eq (.cons (.op .len (.cons (.var 0) .nil)) (.cons (.op .len (.cons (.var 1) .nil)) .nil))) (.op .all1 (.cons (.comp [("at", 2), ("part", 3)] (.tup [2, 3]) .enum (.cons (.var 1) .nil) (.call "_law_exact" (.cons (.op .idx (.cons (.var 0) (.cons (.var 2) .nil))) (.cons (.var 3) .nil)) []) .nil) .nil)))) .nil)) .nil) (.cons (.ite (.op (.isa ["str"]) (.cons (.var 1) .nil)) (.cons (.ret (.and_ (.op (.isa ["str"]) (.cons (.var 0) .nil)) (.op .eq (.cons (.var 0) (.cons (.mv 1) .nil))))) .nil) .nil) (.cons (.ite (.op (.isa ["bool"]) (.cons (.var 1) .nil)) (.cons (.ret (.and_ (.op (.isa ["bool"]) (.cons (.var 0) .nil)) (.op .eq (.cons (.var 0) (.cons (.mv 1) .nil))))) .nil) .nil) (.cons (.ite (.op (.isa ["int"]) (.cons (.var 1) .nil)) (.cons (.ret (.and_ (.op (.isa ["int"]) (.cons (.var 0) .nil)) (.and_ (.not_ (.op (.isa ["bool"]) (.cons (.var 0) .nil))) (.op .eq (.cons (.var 0) (.cons (.mv 1) .nil)))))) .nil) .nil) (.cons (.ite (.op (.isa ["dict"]) (.cons (.var 1) .nil)) (.cons (.ret (.and_ (.op (.isa ["dict"]) (.cons (.var 0) .nil)) .bad)) .nil) .nil) (.cons (.ret (.and_ (.op .isN (.cons (.mv 0) .nil)) (.op .isN (.cons (.mv 1) .nil)))) .nil)))))) }
def d__law_copied : Fd := { name := "_law_copied", np := 1, N := ["thing", "part", "key"], muts := [], body := (.cons (.ite (.op (.isa ["list"]) (.cons (.var 0) .nil)) (.cons (.ret (.comp [("part", 1)] (.name 1) .many (.cons (.var 0) .nil) (.call "_law_copied" (.cons (.var 1) .nil) []) .nil)) .nil) .nil) (.cons (.ite (.op (.isa ["dict"]) (.cons (.var 0) .nil)) (.cons (.ret .bad) .nil) .nil) (.cons (.ret (.ite (.op (.isa ["tuple"]) (.cons (.var 0) .nil)) (.op .tup1 (.cons (.comp [("part", 1)] (.name 1) .many (.cons (.var 0) .nil) (.call "_law_copied" (.cons (.var 1) .nil) []) .nil) .nil)) (.var 0))) .nil))) }
def d__law_inner : Fd := { name := "_law_inner", np := 1, N := ["program"], muts := [], body := (.cons (.ret (.ite (.op .eq (.cons (.op .idx (.cons (.var 0) (.cons (.cst (.int (0))) .nil))) (.cons (.cst (.str "name")) .nil))) (.lst .nil) (.op .list1 (.cons (.sl (.var 0) (.cons (.cst (.int (1))) .nil) .nil) .nil)))) .nil) }
def d__law_places : Fd := { name := "_law_places", np := 2, N := ["program", "place", "found", "at", "part"], muts := [], body := (.cons (.set (.name 2) (.lst (.cons (.tup (.cons (.var 1) (.cons (.var 0) .nil))) .nil))) (.cons (.for_ (.tup [3, 4]) .enum (.cons (.call "_law_inner" (.cons (.var 0) .nil) []) .nil) (.cons (.set (.name 2) (.op .add (.cons (.var 2) (.cons (.call "_law_places" (.cons (.var 4) (.cons (.op .add (.cons (.var 1) (.cons (.tup (.cons (.var 3) .nil)) .nil))) .nil)) []) .nil)))) .nil)) (.cons (.ret (.mv 2)) .nil))) }
def d__law_kind_parts : Fd := { name := "_law_kind_parts", np := 1, N := ["kind"], muts := [], body := (.cons (.ite (.op .isin (.cons (.op .idx (.cons (.var 0) (.cons (.cst (.int (0))) .nil))) (.cons (.tup (.cons (.cst (.str "and")) (.cons (.cst (.str "or")) (.cons (.cst (.str "then")) .nil)))) .nil))) (.cons (.ret (.op .add (.cons (.op .add (.cons (.lst (.cons (.var 0) .nil)) (.cons (.call "_law_kind_parts" (.cons (.op .idx (.cons (.var 0) (.cons (.cst (.int (1))) .nil))) .nil) []) .nil))) (.cons (.call "_law_kind_parts" (.cons (.op .idx (.cons (.var 0) (.cons (.cst (.int (2))) .nil))) .nil) []) .nil)))) .nil) .nil) (.cons (.ret (.lst (.cons (.mv 0) .nil))) .nil)) }
def d__law_formula : Fd := { name := "_law_formula", np := 3, N := ["generator", "letters", "deep", "word"], muts := [0], body := (.cons (.ite (.or_ (.op .eq (.cons (.var 2) (.cons (.cst (.int (0))) .nil))) (.op .eq (.cons (.call "_law_random" (.cons (.mv 0) (.cons (.cst (.int (4))) .nil)) []) (.cons (.cst (.int (0))) .nil)))) (.cons (.ret (.ite (.op .gt (.cons (.call "_law_random" (.cons (.mv 0) (.cons (.cst (.int (7))) .nil)) []) (.cons (.cst (.int (0))) .nil))) (.tup (.cons (.cst (.str "is")) (.cons (.call "_law_pick" (.cons (.mv 0) (.cons (.mv 1) .nil)) []) .nil))) (.tup (.cons (.cst (.str "no")) .nil)))) .nil) .nil) (.cons (.set (.name 3) (.call "_law_pick" (.cons (.mv 0) (.cons (.lst (.cons (.cst (.str "then")) (.cons (.cst (.str "then")) (.cons (.cst (.str "and")) (.cons (.cst (.str "or")) (.cons (.cst (.str "then")) .nil)))))) .nil)) [])) (.cons (.ret (.tup (.cons (.mv 3) (.cons (.call "_law_formula" (.cons (.mv 0) (.cons (.var 1) (.cons (.op .sub (.cons (.var 2) (.cons (.cst (.int (1))) .nil))) .nil))) []) (.cons (.call "_law_formula" (.cons (.mv 0) (.cons (.var 1) (.cons (.op .sub (.cons (.var 2) (.cons (.cst (.int (1))) .nil))) .nil))) []) .nil))))) .nil))) }
def d__law_proved : Fd := { name := "_law_proved", np := 4, N := ["generator", "around", "formula", "deep", "inner", "one", "other"], muts := [0], body := (.cons (.ite (.and_ (.op .isin (.cons (.var 2) (.cons (.var 1) .nil))) (.or_ (.op .eq (.cons (.var 3) (.cons (.cst (.int (0))) .nil))) (.op .eq (.cons (.call "_law_random" (.cons (.mv 0) (.cons (.cst (.int (4))) .nil)) []) (.cons (.cst (.int (0))) .nil))))) (.cons (.ret (.tup (.cons (.cst (.str "name")) (.cons (.meth .index "list" (.mv 1) (.cons (.mv 2) .nil)) .nil)))) .nil) .nil) (.cons (.ite (.and_ (.op .gt (.cons (.var 3) (.cons (.cst (.int (0))) .nil))) (.op .eq (.cons (.call "_law_random" (.cons (.mv 0) (.cons (.cst (.int (4))) .nil)) []) (.cons (.cst (.int (0))) .nil)))) (.cons (.ret (.call "_law_detour" (.cons (.mv 0) (.cons (.mv 1) (.cons (.mv 2) (.cons (.op .sub (.cons (.mv 3) (.cons (.cst (.int (1))) .nil))) .nil)))) [])) .nil) .nil) (.cons (.ite (.op .eq (.cons (.op .idx (.cons (.var 2) (.cons (.cst (.int (0))) .nil))) (.cons (.cst (.str "then")) .nil))) (.cons (.set (.name 4) (.call "_law_proved" (.cons (.mv 0) (.cons (.op .add (.cons (.lst (.cons (.op .idx (.cons (.var 2) (.cons (.cst (.int (1))) .nil))) .nil)) (.cons (.var 1) .nil))) (.cons (.op .idx (.cons (.var 2) (.cons (.cst (.int (2))) .nil))) (.cons (.var 3) .nil)))) [])) (.cons (.ret (.ite (.op .isN (.cons (.var 4) .nil)) (.cst .non) (.tup (.cons (.cst (.str "func")) (.cons (.var 4) .nil))))) .nil)) .nil) (.cons (.ite (.op .eq (.cons (.op .idx (.cons (.var 2) (.cons (.cst (.int (0))) .nil))) (.cons (.cst (.str "and")) .nil))) (.cons (.set (.tup [5, 6]) (.tup (.cons (.call "_law_proved" (.cons (.mv 0) (.cons (.var 1) (.cons (.op .idx (.cons (.var 2) (.cons (.cst (.int (1))) .nil))) (.cons (.var 3) .nil)))) []) (.cons (.call "_law_proved" (.cons (.mv 0) (.cons (.var 1) (.cons (.op .idx (.cons (.var 2) (.cons (.cst (.int (2))) .nil))) (.cons (.var 3) .nil)))) []) .nil)))) (.cons (.ret (.ite (.or_ (.op .isN (.cons (.var 5) .nil)) (.op .isN (.cons (.var 6) .nil))) (.cst .non) (.tup (.cons (.cst (.str "pair")) (.cons (.var 5) (.cons (.var 6) .nil)))))) .nil)) .nil) (.cons (.ret (.call "_law_used" (.cons (.mv 0) (.cons (.mv 1) (.cons (.mv 2) (.cons (.mv 3) .nil)))) [])) .nil))))) }
def d__law_detour : Fd := { name := "_law_detour", np := 4, N := ["generator", "around", "formula", "deep", "chosen", "way", "other", "one", "more", "inner", "argument"], muts := [0], body := (.cons (.set (.tup [5, 6]) (.tup (.cons (.call "_law_random" (.cons (.mv 0) (.cons (.cst (.int (4))) .nil)) []) (.cons (.call "_law_pick" (.cons (.mv 0) (.cons (.op .add (.cons (.var 1) (.cons (.lst (.cons (.var 2) (.cons (.tup (.cons (.cst (.str "then")) (.cons (.var 2) (.cons (.var 2) .nil)))) .nil))) .nil))) .nil)) []) .nil)))) (.cons (.ite (.op .eq (.cons (.var 5) (.cons (.cst (.int (0))) .nil))) (.cons (.set (.tup [9, 10]) (.tup (.cons (.call "_law_proved" (.cons (.mv 0) (.cons (.op .add (.cons (.lst (.cons (.var 6) .nil)) (.cons (.var 1) .nil))) (.cons (.var 2) (.cons (.var 3) .nil)))) []) (.cons (.call "_law_proved" (.cons (.mv 0) (.cons (.var 1) (.cons (.var 6) (.cons (.var 3) .nil)))) []) .nil)))) (.cons (.ret (.ite (.or_ (.op .isN (.cons (.var 9) .nil)) (.op .isN (.cons (.var 10) .nil))) (.cst .non) (.tup (.cons (.cst (.str "call")) (.cons (.tup (.cons (.cst (.str "func")) (.cons (.var 9) .nil))) (.cons (.var 10) .nil)))))) .nil)) .nil) (.cons (.ite (.op .eq (.cons (.var 5) (.cons (.cst (.int (1))) .nil))) (.cons (.set (.tup [7, 8]) (.tup (.cons (.call "_law_proved" (.cons (.mv 0) (.cons (.var 1) (.cons (.var 2) (.cons (.var 3) .nil)))) []) (.cons (.call "_law_proved" (.cons (.mv 0) (.cons (.var 1) (.cons (.var 6) (.cons (.var 3) .nil)))) []) .nil)))) (.cons (.ret (.ite (.or_ (.op .isN (.cons (.var 7) .nil)) (.op .isN (.cons (.var 8) .nil))) (.cst .non) (.ite (.op .eq (.cons (.call "_law_random" (.cons (.mv 0) (.cons (.cst (.int (2))) .nil)) []) (.cons (.cst (.int (0))) .nil))) (.tup (.cons (.cst (.str "first")) (.cons (.tup (.cons (.cst (.str "pair")) (.cons (.var 7) (.cons (.var 8) .nil)))) .nil))) (.tup (.cons (.cst (.str "second")) (.cons (.tup (.cons (.cst (.str "pair")) (.cons (.var 8) (.cons (.var 7) .nil)))) .nil)))))) .nil)) .nil) (.cons (.set (.name 4) (.call "_law_proved" (.cons (.mv 0) (.cons (.var 1) (.cons (.var 6) (.cons (.var 3) .nil)))) [])) (.cons (.set (.tup [7, 8]) (.tup (.cons (.call "_law_proved" (.cons (.mv 0) (.cons (.op .add (.cons (.lst (.cons (.var 6) .nil)) (.cons (.var 1) .nil))) (.cons (.var 2) (.cons (.var 3) .nil)))) []) (.cons (.call "_law_proved" (.cons (.mv 0) (.cons (.op .add (.cons (.lst (.cons (.var 6) .nil)) (.cons (.var 1) .nil))) (.cons (.var 2) (.cons (.var 3) .nil)))) []) .nil)))) (.cons (.ite (.or_ (.op .isN (.cons (.var 4) .nil)) (.or_ (.op .isN (.cons (.var 7) .nil)) (.op .isN (.cons (.var 8) .nil)))) (.cons (.ret (.cst .non)) .nil) .nil) (.cons (.ret (.tup (.cons (.cst (.str "choose")) (.cons (.tup (.cons (.call "_law_pick" (.cons (.mv 0) (.cons (.lst (.cons (.cst (.str "left")) (.cons (.cst (.str "right")) .nil))) .nil)) []) (.cons (.mv 4) .nil))) (.cons (.mv 7) (.cons (.mv 8) .nil)))))) .nil))))))) }
def d__law_used : Fd := { name := "_law_used", np := 4, N := ["generator", "around", "formula", "deep", "at", "side", "inner", "found"], muts := [0], body := (.cons (.ite (.and_ (.op .eq (.cons (.op .idx (.cons (.var 2) (.cons (.cst (.int (0))) .nil))) (.cons (.cst (.str "or")) .nil))) (.op .eq (.cons (.call "_law_random" (.cons (.mv 0) (.cons (.cst (.int (2))) .nil)) []) (.cons (.cst (.int (0))) .nil)))) (.cons (.set (.name 5) (.call "_law_random" (.cons (.mv 0) (.cons (.cst (.int (2))) .nil)) [])) (.cons (.set (.name 6) (.call "_law_proved" (.cons (.mv 0) (.cons (.var 1) (.cons (.op .idx (.cons (.var 2) (.cons (.op .add (.cons (.cst (.int (1))) (.cons (.var 5) .nil))) .nil))) (.cons (.var 3) .nil)))) [])) (.cons (.ite (.op .notN (.cons (.var 6) .nil)) (.cons (.ret (.tup (.cons (.op .idx (.cons (.tup (.cons (.cst (.str "left")) (.cons (.cst (.str "right")) .nil))) (.cons (.mv 5) .nil))) (.cons (.mv 6) .nil)))) .nil) .nil) .nil))) .nil) (.cons (.for_ (.name 4) .many (.cons (.call "_law_drawn_order" (.cons (.mv 0) (.cons (.op .rngl (.cons (.op .len (.cons (.var 1) .nil)) .nil)) .nil)) []) .nil) (.cons (.set (.name 7) (.call "_law_led" (.cons (.mv 0) (.cons (.var 1) (.cons (.tup (.cons (.cst (.str "name")) (.cons (.var 4) .nil))) (.cons (.op .idx (.cons (.var 1) (.cons (.var 4) .nil))) (.cons (.var 2) (.cons (.var 3) .nil)))))) [])) (.cons (.ite (.op .notN (.cons (.var 7) .nil)) (.cons (.ret (.mv 7)) .nil) .nil) .nil))) (.cons (.ite (.op .eq (.cons (.op .idx (.cons (.var 2) (.cons (.cst (.int (0))) .nil))) (.cons (.cst (.str "or")) .nil))) (.cons (.for_ (.name 5) .many (.cons (.tup (.cons (.cst (.int (0))) (.cons (.cst (.int (1))) .nil))) .nil) (.cons (.set (.name 6) (.ite (.op .gt (.cons (.var 3) (.cons (.cst (.int (0))) .nil))) (.call "_law_proved" (.cons (.mv 0) (.cons (.var 1) (.cons (.op .idx (.cons (.var 2) (.cons (.op .add (.cons (.cst (.int (1))) (.cons (.var 5) .nil))) .nil))) (.cons (.op .max2 (.cons (.op .sub (.cons (.var 3) (.cons (.cst (.int (1))) .nil))) (.cons (.cst (.int (0))) .nil))) .nil)))) []) (.cst .non))) (.cons (.ite (.op .notN (.cons (.var 6) .nil)) (.cons (.ret (.tup (.cons (.op .idx (.cons (.tup (.cons (.cst (.str "left")) (.cons (.cst (.str "right")) .nil))) (.cons (.mv 5) .nil))) (.cons (.mv 6) .nil)))) .nil) .nil) .nil))) .nil) .nil) (.cons (.ret (.cst .non)) .nil)))) }
def d__law_led : Fd := { name := "_law_led", np := 6, N := ["generator", "around", "program", "kind", "formula", "deep", "found", "argument", "one", "other"], muts := [0], body := (.cons (.ite (.op .eq (.cons (.var 3) (.cons (.var 4) .nil))) (.cons (.ret (.mv 2)) .nil) .nil) (.cons (.ite (.op .eq (.cons (.var 3) (.cons (.tup (.cons (.cst (.str "no")) .nil)) .nil))) (.cons (.ret (.tup (.cons (.cst (.str "absurd")) (.cons (.mv 2) .nil)))) .nil) .nil) (.cons (.ite (.op .eq (.cons (.op .idx (.cons (.var 3) (.cons (.cst (.int (0))) .nil))) (.cons (.cst (.str "and")) .nil))) (.cons (.set (.name 6) (.call "_law_led" (.cons (.mv 0) (.cons (.var 1) (.cons (.tup (.cons (.cst (.str "first")) (.cons (.var 2) .nil))) (.cons (.op .idx (.cons (.var 3) (.cons (.cst (.int (1))) .nil))) (.cons (.var 4) (.cons (.var 5) .nil)))))) [])) (.cons (.ret (.ite (.op .notN (.cons (.var 6) .nil)) (.var 6) (.call "_law_led" (.cons (.mv 0) (.cons (.mv 1) (.cons (.tup (.cons (.cst (.str "second")) (.cons (.mv 2) .nil))) (.cons (.op .idx (.cons (.mv 3) (.cons (.cst (.int (2))) .nil))) (.cons (.mv 4) (.cons (.mv 5) .nil)))))) []))) .nil)) .nil) (.cons (.ite (.op .eq (.cons (.var 5) (.cons (.cst (.int (0))) .nil))) (.cons (.ret (.cst .non)) .nil) .nil) (.cons (.ite (.op .eq (.cons (.op .idx (.cons (.var 3) (.cons (.cst (.int (0))) .nil))) (.cons (.cst (.str "then")) .nil))) (.cons (.set (.name 7) (.ite (.or_ (.op .isin (.cons (.var 4) (.cons (.call "_law_kind_parts" (.cons (.op .idx (.cons (.var 3) (.cons (.cst (.int (2))) .nil))) .nil) []) .nil))) (.op .isin (.cons (.tup (.cons (.cst (.str "no")) .nil)) (.cons (.call "_law_kind_parts" (.cons (.op .idx (.cons (.var 3) (.cons (.cst (.int (2))) .nil))) .nil) []) .nil)))) (.call "_law_proved" (.cons (.mv 0) (.cons (.var 1) (.cons (.op .idx (.cons (.var 3) (.cons (.cst (.int (1))) .nil))) (.cons (.op .sub (.cons (.var 5) (.cons (.cst (.int (1))) .nil))) .nil)))) []) (.cst .non))) (.cons (.ret (.ite (.op .isN (.cons (.var 7) .nil)) (.cst .non) (.call "_law_led" (.cons (.mv 0) (.cons (.mv 1) (.cons (.tup (.cons (.cst (.str "call")) (.cons (.mv 2) (.cons (.var 7) .nil)))) (.cons (.op .idx (.cons (.mv 3) (.cons (.cst (.int (2))) .nil))) (.cons (.mv 4) (.cons (.op .sub (.cons (.mv 5) (.cons (.cst (.int (1))) .nil))) .nil)))))) []))) .nil)) .nil) (.cons (.ite (.op .eq (.cons (.op .idx (.cons (.var 3) (.cons (.cst (.int (0))) .nil))) (.cons (.cst (.str "or")) .nil))) (.cons (.set (.name 8) (.call "_law_proved" (.cons (.mv 0) (.cons (.op .add (.cons (.lst (.cons (.op .idx (.cons (.var 3) (.cons (.cst (.int (1))) .nil))) .nil)) (.cons (.var 1) .nil))) (.cons (.var 4) (.cons (.op .sub (.cons (.var 5) (.cons (.cst (.int (1))) .nil))) .nil)))) [])) (.cons (.set (.name 9) (.ite (.op .notN (.cons (.var 8) .nil)) (.call "_law_proved" (.cons (.mv 0) (.cons (.op .add (.cons (.lst (.cons (.op .idx (.cons (.var 3) (.cons (.cst (.int (2))) .nil))) .nil)) (.cons (.var 1) .nil))) (.cons (.var 4) (.cons (.op .sub (.cons (.var 5) (.cons (.cst (.int (1))) .nil))) .nil)))) []) (.cst .non))) (.cons (.ret (.ite (.op .isN (.cons (.var 9) .nil)) (.cst .non) (.tup (.cons (.cst (.str "choose")) (.cons (.mv 2) (.cons (.mv 8) (.cons (.var 9) .nil))))))) .nil))) .nil) (.cons (.ret (.cst .non)) .nil))))))) }
def d__law_known_proofs : Fd := { name := "_law_known_proofs", np := 2, N := ["generator", "letters", "n", "found", "f", "g", "h", "place", "at"], muts := [0], body := (.cons (.set (.tup [4, 5, 6]) (.comp [("place", 7)] (.name 7) .rng1 (.cons (.cst (.int (3))) .nil) (.call "_law_formula" (.cons (.mv 0) (.cons (.var 1) (.cons (.cst (.int (1))) .nil))) []) .nil)) (.cons (.set (.name 2) (.comp [("at", 8)] (.name 8) .rng1 (.cons (.cst (.int (4))) .nil) (.tup (.cons (.cst (.str "name")) (.cons (.var 8) .nil))) .nil)) (.cons (.set (.name 3) (.lst (.cons (.tup (.cons (.lst .nil) (.cons (.tup (.cons (.cst (.str "then")) (.cons (.var 4) (.cons (.var 4) .nil)))) (.cons (.tup (.cons (.cst (.str "func")) (.cons (.op .idx (.cons (.var 2) (.cons (.cst (.int (0))) .nil))) .nil))) .nil)))) (.cons (.tup (.cons (.lst .nil) (.cons (.tup (.cons (.cst (.str "then")) (.cons (.var 4) (.cons (.tup (.cons (.cst (.str "then")) (.cons (.var 5) (.cons (.var 4) .nil)))) .nil)))) (.cons (.tup (.cons (.cst (.str "func")) (.cons (.tup (.cons (.cst (.str "func")) (.cons (.op .idx (.cons (.var 2) (.cons (.cst (.int (1))) .nil))) .nil))) .nil))) .nil)))) (.cons (.tup (.cons (.lst (.cons (.tup (.cons (.cst (.str "and")) (.cons (.var 4) (.cons (.var 5) .nil)))) .nil)) (.cons (.tup (.cons (.cst (.str "and")) (.cons (.var 5) (.cons (.var 4) .nil)))) (.cons (.tup (.cons (.cst (.str "pair")) (.cons (.tup (.cons (.cst (.str "second")) (.cons (.op .idx (.cons (.var 2) (.cons (.cst (.int (0))) .nil))) .nil))) (.cons (.tup (.cons (.cst (.str "first")) (.cons (.op .idx (.cons (.var 2) (.cons (.cst (.int (0))) .nil))) .nil))) .nil)))) .nil)))) .nil))))) (.cons (.set (.name 3) (.op .add (.cons (.var 3) (.cons (.lst (.cons (.tup (.cons (.lst (.cons (.tup (.cons (.cst (.str "or")) (.cons (.var 4) (.cons (.var 5) .nil)))) .nil)) (.cons (.tup (.cons (.cst (.str "or")) (.cons (.var 5) (.cons (.var 4) .nil)))) (.cons (.tup (.cons (.cst (.str "choose")) (.cons (.op .idx (.cons (.var 2) (.cons (.cst (.int (0))) .nil))) (.cons (.tup (.cons (.cst (.str "right")) (.cons (.op .idx (.cons (.var 2) (.cons (.cst (.int (0))) .nil))) .nil))) (.cons (.tup (.cons (.cst (.str "left")) (.cons (.op .idx (.cons (.var 2) (.cons (.cst (.int (0))) .nil))) .nil))) .nil))))) .nil)))) (.cons (.tup (.cons (.lst (.cons (.tup (.cons (.cst (.str "then")) (.cons (.var 4) (.cons (.var 5) .nil)))) (.cons (.var 4) .nil))) (.cons (.var 5) (.cons (.tup (.cons (.cst (.str "call")) (.cons (.op .idx (.cons (.var 2) (.cons (.cst (.int (0))) .nil))) (.cons (.op .idx (.cons (.var 2) (.cons (.cst (.int (1))) .nil))) .nil)))) .nil)))) (.cons (.tup (.cons (.lst (.cons (.tup (.cons (.cst (.str "no")) .nil)) .nil)) (.cons (.var 4) (.cons (.tup (.cons (.cst (.str "absurd")) (.cons (.op .idx (.cons (.var 2) (.cons (.cst (.int (0))) .nil))) .nil))) .nil)))) .nil)))) .nil)))) (.cons (.set (.name 3) (.op .add (.cons (.var 3) (.cons (.lst (.cons (.tup (.cons (.lst .nil) (.cons (.tup (.cons (.cst (.str "then")) (.cons (.tup (.cons (.cst (.str "then")) (.cons (.var 4) (.cons (.tup (.cons (.cst (.str "then")) (.cons (.var 5) (.cons (.var 6) .nil)))) .nil)))) (.cons (.tup (.cons (.cst (.str "then")) (.cons (.tup (.cons (.cst (.str "then")) (.cons (.var 4) (.cons (.var 5) .nil)))) (.cons (.tup (.cons (.cst (.str "then")) (.cons (.var 4) (.cons (.var 6) .nil)))) .nil)))) .nil)))) (.cons (.tup (.cons (.cst (.str "func")) (.cons (.tup (.cons (.cst (.str "func")) (.cons (.tup (.cons (.cst (.str "func")) (.cons (.tup (.cons (.cst (.str "call")) (.cons (.tup (.cons (.cst (.str "call")) (.cons (.op .idx (.cons (.var 2) (.cons (.cst (.int (2))) .nil))) (.cons (.op .idx (.cons (.var 2) (.cons (.cst (.int (0))) .nil))) .nil)))) (.cons (.tup (.cons (.cst (.str "call")) (.cons (.op .idx (.cons (.var 2) (.cons (.cst (.int (1))) .nil))) (.cons (.op .idx (.cons (.var 2) (.cons (.cst (.int (0))) .nil))) .nil)))) .nil)))) .nil))) .nil))) .nil))) .nil)))) .nil)) .nil)))) (.cons (.set (.name 3) (.op .add (.cons (.var 3) (.cons (.lst (.cons (.tup (.cons (.lst .nil) (.cons (.tup (.cons (.cst (.str "then")) (.cons (.tup (.cons (.cst (.str "then")) (.cons (.tup (.cons (.cst (.str "or")) (.cons (.var 4) (.cons (.tup (.cons (.cst (.str "then")) (.cons (.var 4) (.cons (.tup (.cons (.cst (.str "no")) .nil)) .nil)))) .nil)))) (.cons (.tup (.cons (.cst (.str "no")) .nil)) .nil)))) (.cons (.tup (.cons (.cst (.str "no")) .nil)) .nil)))) (.cons (.tup (.cons (.cst (.str "func")) (.cons (.tup (.cons (.cst (.str "call")) (.cons (.op .idx (.cons (.var 2) (.cons (.cst (.int (0))) .nil))) (.cons (.tup (.cons (.cst (.str "right")) (.cons (.tup (.cons (.cst (.str "func")) (.cons (.tup (.cons (.cst (.str "call")) (.cons (.op .idx (.cons (.var 2) (.cons (.cst (.int (1))) .nil))) (.cons (.tup (.cons (.cst (.str "left")) (.cons (.op .idx (.cons (.var 2) (.cons (.cst (.int (0))) .nil))) .nil))) .nil)))) .nil))) .nil))) .nil)))) .nil))) .nil)))) .nil)) .nil)))) (.cons (.ret (.call "_law_pick" (.cons (.mv 0) (.cons (.mv 3) .nil)) [])) .nil))))))) }
def d__law_some_proof : Fd := { name := "_law_some_proof", np := 3, N := ["generator", "letters", "deep", "turning", "assumptions", "formula", "found", "place"], muts := [0], body := (.cons (.for_ (.name 3) .rng1 (.cons (.cst (.int (3))) .nil) (.cons (.set (.name 4) (.comp [("place", 7)] (.name 7) .rng1 (.cons (.call "_law_random" (.cons (.mv 0) (.cons (.cst (.int (4))) .nil)) []) .nil) (.call "_law_formula" (.cons (.mv 0) (.cons (.var 1) (.cons (.cst (.int (2))) .nil))) []) .nil)) (.cons (.set (.name 5) (.call "_law_formula" (.cons (.mv 0) (.cons (.var 1) (.cons (.cst (.int (2))) .nil))) [])) (.cons (.set (.name 6) (.call "_law_proved" (.cons (.mv 0) (.cons (.var 4) (.cons (.var 5) (.cons (.var 2) .nil)))) [])) (.cons (.ite (.and_ (.op .notN (.cons (.var 6) .nil)) (.op .lt (.cons (.op .len (.cons (.call "_law_places" (.cons (.var 6) (.cons (.tup .nil) .nil)) []) .nil)) (.cons (.cst (.int (80))) .nil)))) (.cons (.ret (.tup (.cons (.mv 4) (.cons (.mv 5) (.cons (.mv 6) .nil))))) .nil) .nil) .nil))))) (.cons (.ret (.call "_law_known_proofs" (.cons (.mv 0) (.cons (.mv 1) .nil)) [])) .nil)) }
def d__law_put_ones : Fd := { name := "_law_put_ones", np := 2, N := ["formula", "left", "first", "last"], muts := [], body := (.cons (.ite (.op .eq (.cons (.op .idx (.cons (.var 0) (.cons (.cst (.int (0))) .nil))) (.cons (.cst (.str "and")) .nil))) (.cons (.ret (.lst (.cons (.lst (.cons (.op .idx (.cons (.var 0) (.cons (.cst (.int (1))) .nil))) (.cons (.op .idx (.cons (.var 0) (.cons (.cst (.int (2))) .nil))) .nil))) .nil))) .nil) .nil) (.cons (.ite (.op .eq (.cons (.op .idx (.cons (.var 0) (.cons (.cst (.int (0))) .nil))) (.cons (.cst (.str "or")) .nil))) (.cons (.ret (.lst (.cons (.lst (.cons (.op .idx (.cons (.var 0) (.cons (.cst (.int (1))) .nil))) .nil)) (.cons (.lst (.cons (.op .idx (.cons (.var 0) (.cons (.cst (.int (2))) .nil))) .nil)) .nil)))) .nil) .nil) (.cons (.ite (.op .ne (.cons (.op .idx (.cons (.var 0) (.cons (.cst (.int (0))) .nil))) (.cons (.cst (.str "then")) .nil))) (.cons (.ret (.cst .non)) .nil) .nil) (.cons (.set (.tup [2, 3]) (.tup (.cons (.op .idx (.cons (.var 0) (.cons (.cst (.int (1))) .nil))) (.cons (.op .idx (.cons (.var 0) (.cons (.cst (.int (2))) .nil))) .nil)))) (.cons (.ite (.op .eq (.cons (.op .idx (.cons (.var 2) (.cons (.cst (.int (0))) .nil))) (.cons (.cst (.str "no")) .nil))) (.cons (.ret (.lst (.cons (.lst .nil) .nil))) .nil) .nil) (.cons (.ite (.op .eq (.cons (.op .idx (.cons (.var 2) (.cons (.cst (.int (0))) .nil))) (.cons (.cst (.str "and")) .nil))) (.cons (.ret (.lst (.cons (.lst (.cons (.tup (.cons (.cst (.str "then")) (.cons (.op .idx (.cons (.var 2) (.cons (.cst (.int (1))) .nil))) (.cons (.tup (.cons (.cst (.str "then")) (.cons (.op .idx (.cons (.var 2) (.cons (.cst (.int (2))) .nil))) (.cons (.mv 3) .nil)))) .nil)))) .nil)) .nil))) .nil) .nil) (.cons (.ite (.op .eq (.cons (.op .idx (.cons (.var 2) (.cons (.cst (.int (0))) .nil))) (.cons (.cst (.str "or")) .nil))) (.cons (.ret (.lst (.cons (.lst (.cons (.tup (.cons (.cst (.str "then")) (.cons (.op .idx (.cons (.var 2) (.cons (.cst (.int (1))) .nil))) (.cons (.var 3) .nil)))) (.cons (.tup (.cons (.cst (.str "then")) (.cons (.op .idx (.cons (.var 2) (.cons (.cst (.int (2))) .nil))) (.cons (.var 3) .nil)))) .nil))) .nil))) .nil) .nil) (.cons (.ret (.ite (.and_ (.op .eq (.cons (.op .idx (.cons (.var 2) (.cons (.cst (.int (0))) .nil))) (.cons (.cst (.str "is")) .nil))) (.op .isin (.cons (.var 2) (.cons (.mv 1) .nil)))) (.lst (.cons (.lst (.cons (.mv 3) .nil)) .nil)) (.cst .non))) .nil)))))))) }
def d__law_rule : Fd := { name := "_law_rule", np := 2, N := ["left", "right", "ways", "at", "formula", "told", "first", "last", "more"], muts := [], body := (.cons (.ite (.or_ (.op .isin (.cons (.tup (.cons (.cst (.str "no")) .nil)) (.cons (.var 0) .nil))) (.op .isin (.cons (.var 1) (.cons (.var 0) .nil)))) (.cons (.ret (.tup (.cons (.ite (.op .isin (.cons (.tup (.cons (.cst (.str "no")) .nil)) (.cons (.mv 0) .nil))) (.cst (.str "false")) (.cst (.str "there"))) (.cons (.lst (.cons (.lst .nil) .nil)) .nil)))) .nil) .nil) (.cons (.ite (.op .eq (.cons (.op .idx (.cons (.var 1) (.cons (.cst (.int (0))) .nil))) (.cons (.cst (.str "then")) .nil))) (.cons (.ret (.tup (.cons (.cst (.str "then")) (.cons (.lst (.cons (.lst (.cons (.tup (.cons (.op .add (.cons (.lst (.cons (.op .idx (.cons (.var 1) (.cons (.cst (.int (1))) .nil))) .nil)) (.cons (.mv 0) .nil))) (.cons (.op .idx (.cons (.var 1) (.cons (.cst (.int (2))) .nil))) .nil))) .nil)) .nil)) .nil)))) .nil) .nil) (.cons (.ite (.op .eq (.cons (.op .idx (.cons (.var 1) (.cons (.cst (.int (0))) .nil))) (.cons (.cst (.str "and")) .nil))) (.cons (.ret (.tup (.cons (.cst (.str "and")) (.cons (.lst (.cons (.lst (.cons (.tup (.cons (.op .list1 (.cons (.var 0) .nil)) (.cons (.op .idx (.cons (.var 1) (.cons (.cst (.int (1))) .nil))) .nil))) (.cons (.tup (.cons (.op .list1 (.cons (.var 0) .nil)) (.cons (.op .idx (.cons (.var 1) (.cons (.cst (.int (2))) .nil))) .nil))) .nil))) .nil)) .nil)))) .nil) .nil) (.cons (.for_ (.tup [3, 4]) .enum (.cons (.var 0) .nil) (.cons (.set (.name 5) (.call "_law_put_ones" (.cons (.var 4) (.cons (.var 0) .nil)) [])) (.cons (.ite (.op .notN (.cons (.var 5) .nil)) (.cons (.ret (.tup (.cons (.cst (.str "taken")) (.cons (.lst (.cons (.comp [("more", 8)] (.name 8) .many (.cons (.var 5) .nil) (.tup (.cons (.op .add (.cons (.op .add (.cons (.sl (.var 0) .nil (.cons (.var 3) .nil)) (.cons (.var 8) .nil))) (.cons (.sl (.var 0) (.cons (.op .add (.cons (.var 3) (.cons (.cst (.int (1))) .nil))) .nil) .nil) .nil))) (.cons (.var 1) .nil))) .nil) .nil)) .nil)))) .nil) .nil) .nil))) (.cons (.set (.name 2) (.ite (.op .eq (.cons (.op .idx (.cons (.var 1) (.cons (.cst (.int (0))) .nil))) (.cons (.cst (.str "or")) .nil))) (.lst (.cons (.lst (.cons (.tup (.cons (.op .list1 (.cons (.var 0) .nil)) (.cons (.op .idx (.cons (.var 1) (.cons (.cst (.int (1))) .nil))) .nil))) .nil)) (.cons (.lst (.cons (.tup (.cons (.op .list1 (.cons (.var 0) .nil)) (.cons (.op .idx (.cons (.var 1) (.cons (.cst (.int (2))) .nil))) .nil))) .nil)) .nil))) (.lst .nil))) (.cons (.for_ (.tup [3, 4]) .enum (.cons (.var 0) .nil) (.cons (.ite (.and_ (.op .eq (.cons (.op .idx (.cons (.var 4) (.cons (.cst (.int (0))) .nil))) (.cons (.cst (.str "then")) .nil))) (.op .eq (.cons (.op .idx (.cons (.op .idx (.cons (.var 4) (.cons (.cst (.int (1))) .nil))) (.cons (.cst (.int (0))) .nil))) (.cons (.cst (.str "then")) .nil)))) (.cons (.set (.tup [6, 7]) (.tup (.cons (.op .idx (.cons (.var 4) (.cons (.cst (.int (1))) .nil))) (.cons (.op .idx (.cons (.var 4) (.cons (.cst (.int (2))) .nil))) .nil)))) (.cons (.expr (.app 2 (.lst (.cons (.tup (.cons (.op .add (.cons (.op .add (.cons (.op .add (.cons (.lst (.cons (.op .idx (.cons (.var 6) (.cons (.cst (.int (1))) .nil))) .nil)) (.cons (.sl (.var 0) .nil (.cons (.var 3) .nil)) .nil))) (.cons (.lst (.cons (.tup (.cons (.cst (.str "then")) (.cons (.op .idx (.cons (.var 6) (.cons (.cst (.int (2))) .nil))) (.cons (.var 7) .nil)))) .nil)) .nil))) (.cons (.sl (.var 0) (.cons (.op .add (.cons (.var 3) (.cons (.cst (.int (1))) .nil))) .nil) .nil) .nil))) (.cons (.op .idx (.cons (.var 6) (.cons (.cst (.int (2))) .nil))) .nil))) (.cons (.tup (.cons (.op .add (.cons (.op .add (.cons (.sl (.var 0) .nil (.cons (.var 3) .nil)) (.cons (.lst (.cons (.var 7) .nil)) .nil))) (.cons (.sl (.var 0) (.cons (.op .add (.cons (.var 3) (.cons (.cst (.int (1))) .nil))) .nil) .nil) .nil))) (.cons (.var 1) .nil))) .nil))))) .nil)) .nil) .nil)) (.cons (.ret (.tup (.cons (.cst (.str "tried")) (.cons (.mv 2) .nil)))) .nil))))))) }
def d__law_weight : Fd := { name := "_law_weight", np := 1, N := ["formula"], muts := [], body := (.cons (.ite (.op .isin (.cons (.op .idx (.cons (.var 0) (.cons (.cst (.int (0))) .nil))) (.cons (.tup (.cons (.cst (.str "is")) (.cons (.cst (.str "no")) .nil))) .nil))) (.cons (.ret (.cst (.int (1)))) .nil) .nil) (.cons (.ret (.op .add (.cons (.op .add (.cons (.ite (.op .eq (.cons (.op .idx (.cons (.var 0) (.cons (.cst (.int (0))) .nil))) (.cons (.cst (.str "and")) .nil))) (.cst (.int (2))) (.cst (.int (1)))) (.cons (.call "_law_weight" (.cons (.op .idx (.cons (.var 0) (.cons (.cst (.int (1))) .nil))) .nil) []) .nil))) (.cons (.call "_law_weight" (.cons (.op .idx (.cons (.var 0) (.cons (.cst (.int (2))) .nil))) .nil) []) .nil)))) .nil)) }
def d__law_true_by : Fd := { name := "_law_true_by", np := 2, N := ["formula", "case", "one", "other"], muts := [], body := (.cons (.ite (.op .eq (.cons (.op .idx (.cons (.var 0) (.cons (.cst (.int (0))) .nil))) (.cons (.cst (.str "is")) .nil))) (.cons (.ret (.op .isin (.cons (.op .idx (.cons (.mv 0) (.cons (.cst (.int (1))) .nil))) (.cons (.mv 1) .nil)))) .nil) .nil) (.cons (.ite (.op .eq (.cons (.op .idx (.cons (.var 0) (.cons (.cst (.int (0))) .nil))) (.cons (.cst (.str "no")) .nil))) (.cons (.ret (.cst (.bl false))) .nil) .nil) (.cons (.set (.tup [2, 3]) (.tup (.cons (.call "_law_true_by" (.cons (.op .idx (.cons (.var 0) (.cons (.cst (.int (1))) .nil))) (.cons (.var 1) .nil)) []) (.cons (.call "_law_true_by" (.cons (.op .idx (.cons (.var 0) (.cons (.cst (.int (2))) .nil))) (.cons (.var 1) .nil)) []) .nil)))) (.cons (.ret (.ite (.op .eq (.cons (.op .idx (.cons (.var 0) (.cons (.cst (.int (0))) .nil))) (.cons (.cst (.str "and")) .nil))) (.and_ (.var 2) (.var 3)) (.ite (.op .eq (.cons (.op .idx (.cons (.var 0) (.cons (.cst (.int (0))) .nil))) (.cons (.cst (.str "or")) .nil))) (.or_ (.var 2) (.var 3)) (.or_ (.var 3) (.not_ (.var 2)))))) .nil)))) }
def d__law_cases : Fd := { name := "_law_cases", np := 1, N := ["letters", "found", "name", "case"], muts := [], body := (.cons (.set (.name 1) (.lst (.cons (.lst .nil) .nil))) (.cons (.for_ (.name 2) .many (.cons (.var 0) .nil) (.cons (.set (.name 1) (.op .add (.cons (.var 1) (.cons (.comp [("case", 3)] (.name 3) .many (.cons (.var 1) .nil) (.op .add (.cons (.var 3) (.cons (.lst (.cons (.var 2) .nil)) .nil))) .nil) .nil)))) .nil)) (.cons (.ret (.op .sorted (.cons (.mv 1) .nil))) .nil))) }
def d__law_is_less : Fd := { name := "_law_is_less", np := 2, N := ["weights", "later", "weight", "rest", "more"], muts := [], body := (.cons (.set (.tup [3, 4]) (.tup (.cons (.op .list1 (.cons (.var 0) .nil)) (.cons (.lst .nil) .nil)))) (.cons (.for_ (.name 2) .many (.cons (.var 1) .nil) (.cons (.ite (.brw (.op .isin (.cons (.var 2) (.cons (.var 3) .nil)))) (.cons (.expr (.rem 3 (.var 2))) .nil) (.cons (.expr (.app 4 (.var 2))) .nil)) .nil)) (.cons (.ret (.brw (.and_ (.op .ne (.cons (.var 3) (.cons (.lst .nil) .nil))) (.op .eq (.cons (.comp [("weight", 2)] (.name 2) .many (.cons (.var 4) .nil) (.var 2) (.cons (.op .ge (.cons (.var 2) (.cons (.op .max1 (.cons (.var 3) .nil)) .nil))) .nil)) (.cons (.lst .nil) .nil)))))) .nil))) }
def d__law_holds : Fd := { name := "_law_holds", np := 3, N := ["left", "right", "case", "formula"], muts := [], body := (.cons (.ret (.or_ (.op .ne (.cons (.comp [("formula", 3)] (.name 3) .many (.cons (.var 0) .nil) (.var 3) (.cons (.not_ (.call "_law_true_by" (.cons (.var 3) (.cons (.var 2) .nil)) [])) .nil)) (.cons (.lst .nil) .nil))) (.call "_law_true_by" (.cons (.mv 1) (.cons (.var 2) .nil)) []))) .nil) }
def d__law_sequent_right : Fd := { name := "_law_sequent_right", np := 3, N := ["left", "right", "cases", "told", "formula", "weights", "way", "case", "noted", "due", "stand", "later", "aim", "one"], muts := [], body := (.cons (.set (.tup [8, 9]) (.tup (.cons (.call "_law_copied" (.cons (.lst (.cons (.var 0) (.cons (.var 1) .nil))) .nil) []) (.cons (.call "_law_rule" (.cons (.var 0) (.cons (.var 1) .nil)) []) .nil)))) (.cons (.set (.name 3) (.call "rule_at" (.cons (.var 0) (.cons (.var 1) .nil)) [])) (.cons (.ite (.brw (.not_ (.call "_law_exact" (.cons (.lst (.cons (.var 3) (.cons (.call "rule_at" (.cons (.var 1) (.cons (.var 0) .nil)) [1, 0]) (.cons (.lst (.cons (.var 0) (.cons (.var 1) .nil))) .nil)))) (.cons (.lst (.cons (.var 9) (.cons (.var 9) (.cons (.var 8) .nil)))) .nil)) []))) (.cons (.ret (.cst (.bl false))) .nil) .nil) (.cons (.for_ (.name 4) .many (.cons (.op .add (.cons (.var 0) (.cons (.lst (.cons (.var 1) .nil)) .nil))) .nil) (.cons (.ite (.not_ (.call "_law_exact" (.cons (.lst (.cons (.call "weight_of" (.cons (.var 4) .nil) []) (.cons (.call "weight_of" (.cons (.var 4) .nil) [0]) .nil))) (.cons (.lst (.cons (.call "_law_weight" (.cons (.var 4) .nil) []) (.cons (.call "_law_weight" (.cons (.var 4) .nil) []) .nil))) .nil)) [])) (.cons (.ret (.cst (.bl false))) .nil) .nil) .nil)) (.cons (.set (.name 5) (.comp [("formula", 4)] (.name 4) .many (.cons (.op .add (.cons (.var 0) (.cons (.lst (.cons (.var 1) .nil)) .nil))) .nil) (.call "_law_weight" (.cons (.var 4) .nil) []) .nil)) (.cons (.brw [4, 6, 11, 12] (.for_ (.name 6) .many (.cons (.op .idx (.cons (.var 3) (.cons (.cst (.int (1))) .nil))) .nil) (.cons (.for_ (.tup [11, 12]) .many (.cons (.var 6) .nil) (.cons (.ite (.not_ (.call "_law_is_less" (.cons (.var 5) (.cons (.comp [("formula", 4)] (.name 4) .many (.cons (.op .add (.cons (.var 11) (.cons (.lst (.cons (.var 12) .nil)) .nil))) .nil) (.call "_law_weight" (.cons (.var 4) .nil) []) .nil) .nil)) [])) (.cons (.ret (.cst (.bl false))) .nil) .nil) .nil)) .nil))) (.cons (.brw [6, 7, 10, 13] (.for_ (.name 7) .many (.cons (.var 2) .nil) (.cons (.set (.name 10) (.comp [("way", 6)] (.name 6) .many (.cons (.op .idx (.cons (.var 3) (.cons (.cst (.int (1))) .nil))) .nil) (.var 6) (.cons (.op .eq (.cons (.comp [("one", 13)] (.name 13) .many (.cons (.var 6) .nil) (.var 13) (.cons (.not_ (.call "_law_holds" (.cons (.op .idx (.cons (.var 13) (.cons (.cst (.int (0))) .nil))) (.cons (.op .idx (.cons (.var 13) (.cons (.cst (.int (1))) .nil))) (.cons (.var 7) .nil))) [])) .nil)) (.cons (.lst .nil) .nil))) .nil))) (.cons (.ite (.or_ (.and_ (.op .ne (.cons (.op .idx (.cons (.var 3) (.cons (.cst (.int (0))) .nil))) (.cons (.cst (.str "tried")) .nil))) (.op .ne (.cons (.call "_law_holds" (.cons (.var 0) (.cons (.var 1) (.cons (.var 7) .nil))) []) (.cons (.op .ne (.cons (.var 10) (.cons (.lst .nil) .nil))) .nil)))) (.and_ (.op .eq (.cons (.op .idx (.cons (.var 3) (.cons (.cst (.int (0))) .nil))) (.cons (.cst (.str "tried")) .nil))) (.and_ (.op .ne (.cons (.var 10) (.cons (.lst .nil) .nil))) (.not_ (.call "_law_holds" (.cons (.var 0) (.cons (.var 1) (.cons (.var 7) .nil))) []))))) (.cons (.ret (.cst (.bl false))) .nil) .nil) .nil)))) (.cons (.expr (.appP 3 [1] (.cst (.int (0))))) (.cons (.ite (.brw (.and_ (.op .ne (.cons (.op .idx (.cons (.op .idx (.cons (.var 3) (.cons (.cst (.int (1))) .nil))) (.cons (.cst (.int (0))) .nil))) (.cons (.cst (.int (0))) .nil))) (.op .ne (.cons (.op .idx (.cons (.op .idx (.cons (.var 3) (.cons (.cst (.int (1))) .nil))) (.cons (.cst (.int (0))) .nil))) (.cons (.lst .nil) .nil))))) (.cons (.expr (.appP 3 [1, 0, 0, 0] (.cst (.int (0))))) .nil) .nil) (.cons (.ret (.call "_law_exact" (.cons (.lst (.cons (.call "rule_at" (.cons (.var 0) (.cons (.var 1) .nil)) []) (.cons (.lst (.cons (.var 0) (.cons (.var 1) .nil))) .nil))) (.cons (.lst (.cons (.mv 9) (.cons (.mv 8) .nil))) .nil)) [])) .nil)))))))))) }
def d__law_down_right : Fd := { name := "_law_down_right", np := 3, N := ["generator", "left", "right", "cases", "turn", "ways", "way"], muts := [0], body := (.cons (.set (.name 3) (.call "_law_cases" (.cons (.lst (.cons (.cst (.str "a")) (.cons (.cst (.str "b")) .nil))) .nil) [])) (.cons (.for_ (.name 4) .rng1 (.cons (.cst (.int (9))) .nil) (.cons (.ite (.not_ (.call "_law_sequent_right" (.cons (.var 1) (.cons (.var 2) (.cons (.var 3) .nil))) [])) (.cons (.ret (.cst (.bl false))) .nil) .nil) (.cons (.set (.name 5) (.comp [("way", 6)] (.name 6) .many (.cons (.op .idx (.cons (.call "_law_rule" (.cons (.var 1) (.cons (.var 2) .nil)) []) (.cons (.cst (.int (1))) .nil))) .nil) (.var 6) (.cons (.op .ne (.cons (.var 6) (.cons (.lst .nil) .nil))) .nil))) (.cons (.ite (.op .eq (.cons (.var 5) (.cons (.lst .nil) .nil))) (.cons (.ret (.cst (.bl true))) .nil) .nil) (.cons (.set (.tup [1, 2]) (.callL "_law_pick" 0 (.cons (.call "_law_pick" (.cons (.mv 0) (.cons (.var 5) .nil)) []) .nil))) .nil))))) (.cons (.ret (.cst (.bl true))) .nil))) }
def d_law : Fd := { name := "law", np := 1, N := ["script", "generator", "turn", "told", "left", "a", "b", "c", "no", "around", "formula", "program", "place"], muts := [], body := (.cons (.set (.name 1) (.call "_law_generator" (.cons (.var 0) (.cons (.cst (.int (0))) .nil)) [])) (.cons (.for_ (.name 2) .rng1 (.cons (.cst (.int (6))) .nil) (.cons (.set (.name 4) (.comp [("place", 12)] (.name 12) .rng1 (.cons (.call "_law_random" (.cons (.mv 1) (.cons (.cst (.int (6))) .nil)) []) .nil) (.call "_law_formula" (.cons (.mv 1) (.cons (.lst (.cons (.cst (.str "a")) (.cons (.cst (.str "b")) .nil))) (.cons (.cst (.int (2))) .nil))) []) .nil)) (.cons (.ite (.not_ (.callL "_law_down_right" 1 (.cons (.var 4) (.cons (.call "_law_formula" (.cons (.mv 1) (.cons (.lst (.cons (.cst (.str "a")) (.cons (.cst (.str "b")) .nil))) (.cons (.cst (.int (3))) .nil))) []) .nil)))) (.cons (.ret (.cst (.bl false))) .nil) .nil) (.cons (.set (.tup [9, 10, 11]) (.call "_law_some_proof" (.cons (.mv 1) (.cons (.lst (.cons (.cst (.str "a")) (.cons (.cst (.str "b")) .nil))) (.cons (.cst (.int (1))) .nil))) [])) (.cons (.ite (.not_ (.call "_law_down_right" (.cons (.mv 1) (.cons (.var 9) (.cons (.var 10) .nil))) [])) (.cons (.ret (.cst (.bl false))) .nil) .nil) .nil))))) (.cons (.set (.tup [5, 6, 7, 8]) (.tup (.cons (.tup (.cons (.cst (.str "is")) (.cons (.cst (.str "a")) .nil))) (.cons (.tup (.cons (.cst (.str "is")) (.cons (.cst (.str "b")) .nil))) (.cons (.tup (.cons (.cst (.str "is")) (.cons (.cst (.str "c")) .nil))) (.cons (.tup (.cons (.cst (.str "no")) .nil)) .nil)))))) (.cons (.set (.name 3) (.lst (.cons (.call "rule_at" (.cons (.lst (.cons (.tup (.cons (.cst (.str "then")) (.cons (.var 5) (.cons (.var 6) .nil)))) (.cons (.var 5) .nil))) (.cons (.var 6) .nil)) []) (.cons (.call "rule_at" (.cons (.lst .nil) (.cons (.tup (.cons (.cst (.str "then")) (.cons (.var 5) (.cons (.var 5) .nil)))) .nil)) []) (.cons (.call "rule_at" (.cons (.lst (.cons (.tup (.cons (.cst (.str "then")) (.cons (.tup (.cons (.cst (.str "then")) (.cons (.var 5) (.cons (.var 6) .nil)))) (.cons (.var 7) .nil)))) .nil)) (.cons (.var 7) .nil)) []) (.cons (.call "rule_at" (.cons (.lst (.cons (.var 8) .nil)) (.cons (.var 5) .nil)) []) (.cons (.call "rule_at" (.cons (.lst (.cons (.var 5) .nil)) (.cons (.var 6) .nil)) []) (.cons (.call "weight_of" (.cons (.tup (.cons (.cst (.str "and")) (.cons (.var 5) (.cons (.var 6) .nil)))) .nil) []) .nil)))))))) (.cons (.ret (.call "_law_exact" (.cons (.mv 3) (.cons (.lst (.cons (.tup (.cons (.cst (.str "taken")) (.cons (.lst (.cons (.lst (.cons (.tup (.cons (.lst (.cons (.var 6) (.cons (.var 5) .nil))) (.cons (.var 6) .nil))) .nil)) .nil)) .nil))) (.cons (.tup (.cons (.cst (.str "then")) (.cons (.lst (.cons (.lst (.cons (.tup (.cons (.lst (.cons (.var 5) .nil)) (.cons (.var 5) .nil))) .nil)) .nil)) .nil))) (.cons (.tup (.cons (.cst (.str "tried")) (.cons (.lst (.cons (.lst (.cons (.tup (.cons (.lst (.cons (.var 5) (.cons (.tup (.cons (.cst (.str "then")) (.cons (.var 6) (.cons (.var 7) .nil)))) .nil))) (.cons (.var 6) .nil))) (.cons (.tup (.cons (.lst (.cons (.var 7) .nil)) (.cons (.var 7) .nil))) .nil))) .nil)) .nil))) (.cons (.tup (.cons (.cst (.str "false")) (.cons (.lst (.cons (.lst .nil) .nil)) .nil))) (.cons (.tup (.cons (.cst (.str "tried")) (.cons (.lst .nil) .nil))) (.cons (.cst (.int (4))) .nil))))))) .nil)) [])) .nil))))) }
def defs : List Fd := [d_is_name_in, d_is_shaped, d_inner_of, d_levels_of, d_is_formula_in, d_check_formula, d_parts_in, d_is_sequent, d_is_taken, d_put_for, d_is_nested, d_nested_way, d_rule_in, d_check_sequents, d_rule_at, d_weight_of, d__law_hash, d__law_random, d__law_cell, d__law_generator, d__law_pick, d__law_drawn_order, d__law_exact, d__law_copied, d__law_inner, d__law_places, d__law_kind_parts, d__law_formula, d__law_proved, d__law_detour, d__law_used, d__law_led, d__law_known_proofs, d__law_some_proof, d__law_put_ones, d__law_rule, d__law_weight, d__law_true_by, d__law_cases, d__law_is_less, d__law_holds, d__law_sequent_right, d__law_down_right, d_law]
def mo : Mo := { fns := ([("is_name_in", 1), ("is_shaped", 1), ("inner_of", 1), ("levels_of", 1), ("is_formula_in", 1), ("check_formula", 1), ("parts_in", 1), ("is_sequent", 2), ("is_taken", 2), ("put_for", 1)] : List (Str × Nat)) ++ ([("is_nested", 1), ("nested_way", 3), ("rule_in", 2), ("check_sequents", 1), ("rule_at", 2), ("weight_of", 1), ("_law_hash", 2), ("_law_random", 2), ("_law_cell", 2), ("_law_generator", 2)] : List (Str × Nat)) ++ ([("_law_pick", 2), ("_law_drawn_order", 2), ("_law_exact", 2), ("_law_copied", 1), ("_law_inner", 1), ("_law_places", 2), ("_law_kind_parts", 1), ("_law_formula", 3), ("_law_proved", 4), ("_law_detour", 4)] : List (Str × Nat)) ++ ([("_law_used", 4), ("_law_led", 6), ("_law_known_proofs", 2), ("_law_some_proof", 3), ("_law_put_ones", 2), ("_law_rule", 2), ("_law_weight", 1), ("_law_true_by", 2), ("_law_cases", 1), ("_law_is_less", 2)] : List (Str × Nat)) ++ ([("_law_holds", 3), ("_law_sequent_right", 3), ("_law_down_right", 3), ("law", 1)] : List (Str × Nat)), free := (["all", "bool", "dict", "enumerate", "int", "isinstance", "len", "list", "max", "range"] : List Str) ++ (["sorted", "str", "sum", "tuple"] : List Str), con := ([("MOST_LETTERS", (.int (12))), ("MOST_SIGNS", (.int (200))), ("MOST_DEEP", (.int (60))), ("JOINERS", (.tup [(.str "and"), (.str "or"), (.str "then")])), ("NO", (.tup [(.str "no")])), ("SMALL", (.str "abcdefghijklmnopqrstuvwxyz")), ("FIGURES", (.str "0123456789")), ("MOST_LEFT", (.int (40)))] : List (Str × D)), kws := ([("rule_at", ["right", "left"], [1, 0]), ("weight_of", ["formula"], [0])] : List (Str × List Str × List Nat)) }
end Ir
/- is_name_in:13 is_shaped:14 inner_of:15 levels_of:16 is_formula_in:17 check_formula:18 parts_in:19 is_sequent:22 is_taken:23 put_for:24 is_nested:25 nested_way:26 rule_in:27 check_sequents:28 rule_at:29 weight_of:30 _law_hash:32 _law_random:33 _law_cell:34 _law_generator:35 _law_pick:36 _law_drawn_order:37 _law_exact:38 _law_copied:39 _law_inner:40 _law_places:41 _law_kind_parts:42 _law_formula:43 _law_proved:44 _law_detour:45 _law_used:46 _law_led:47 _law_known_proofs:48 _law_some_proof:49 _law_put_ones:50 _law_rule:51 _law_weight:52 _law_true_by:53 _law_cases:54 _law_is_less:55 _law_holds:56 _law_sequent_right:57 _law_down_right:58 law:59 -/

namespace Cl
open Pv PySem
theorem f_is_name_in : Ir.defs.find? (fun fd => fd.name == ("is_name_in" : Str)) = some Ir.d_is_name_in := rfl
theorem c_is_name_in (n : Nat) (u0 : U) : callF Ir.defs (n + 1) "is_name_in" [u0] = finF Ir.d_is_name_in (evSs (callF Ir.defs n) Ir.d_is_name_in.body [] [some u0, none]) := by
  unfold callF
  rw [f_is_name_in]
  rfl
theorem f_is_shaped : Ir.defs.find? (fun fd => fd.name == ("is_shaped" : Str)) = some Ir.d_is_shaped := rfl
theorem c_is_shaped (n : Nat) (u0 : U) : callF Ir.defs (n + 1) "is_shaped" [u0] = finF Ir.d_is_shaped (evSs (callF Ir.defs n) Ir.d_is_shaped.body [] [some u0]) := by
  unfold callF
  rw [f_is_shaped]
  rfl
theorem f_inner_of : Ir.defs.find? (fun fd => fd.name == ("inner_of" : Str)) = some Ir.d_inner_of := rfl
theorem c_inner_of (n : Nat) (u0 : U) : callF Ir.defs (n + 1) "inner_of" [u0] = finF Ir.d_inner_of (evSs (callF Ir.defs n) Ir.d_inner_of.body [] [some u0]) := by
  unfold callF
  rw [f_inner_of]
  rfl
theorem f_levels_of : Ir.defs.find? (fun fd => fd.name == ("levels_of" : Str)) = some Ir.d_levels_of := rfl
theorem c_levels_of (n : Nat) (u0 : U) : callF Ir.defs (n + 1) "levels_of" [u0] = finF Ir.d_levels_of (evSs (callF Ir.defs n) Ir.d_levels_of.body [] [some u0, none, none, none, none, none]) := by
  unfold callF
  rw [f_levels_of]
  rfl
theorem f_is_formula_in : Ir.defs.find? (fun fd => fd.name == ("is_formula_in" : Str)) = some Ir.d_is_formula_in := rfl
theorem c_is_formula_in (n : Nat) (u0 : U) : callF Ir.defs (n + 1) "is_formula_in" [u0] = finF Ir.d_is_formula_in (evSs (callF Ir.defs n) Ir.d_is_formula_in.body [] [some u0]) := by
  unfold callF
  rw [f_is_formula_in]
  rfl
theorem f_check_formula : Ir.defs.find? (fun fd => fd.name == ("check_formula" : Str)) = some Ir.d_check_formula := rfl
theorem c_check_formula (n : Nat) (u0 : U) : callF Ir.defs (n + 1) "check_formula" [u0] = finF Ir.d_check_formula (evSs (callF Ir.defs n) Ir.d_check_formula.body [] [some u0]) := by
  unfold callF
  rw [f_check_formula]
  rfl
theorem f_parts_in : Ir.defs.find? (fun fd => fd.name == ("parts_in" : Str)) = some Ir.d_parts_in := rfl
theorem c_parts_in (n : Nat) (u0 : U) : callF Ir.defs (n + 1) "parts_in" [u0] = finF Ir.d_parts_in (evSs (callF Ir.defs n) Ir.d_parts_in.body [] [some u0, none, none, none]) := by
  unfold callF
  rw [f_parts_in]
  rfl
theorem f_is_sequent : Ir.defs.find? (fun fd => fd.name == ("is_sequent" : Str)) = some Ir.d_is_sequent := rfl
theorem c_is_sequent (n : Nat) (u0 u1 : U) : callF Ir.defs (n + 1) "is_sequent" [u0, u1] = finF Ir.d_is_sequent (evSs (callF Ir.defs n) Ir.d_is_sequent.body [] [some u0, some u1, none]) := by
  unfold callF
  rw [f_is_sequent]
  rfl
theorem f_is_taken : Ir.defs.find? (fun fd => fd.name == ("is_taken" : Str)) = some Ir.d_is_taken := rfl
theorem c_is_taken (n : Nat) (u0 u1 : U) : callF Ir.defs (n + 1) "is_taken" [u0, u1] = finF Ir.d_is_taken (evSs (callF Ir.defs n) Ir.d_is_taken.body [] [some u0, some u1]) := by
  unfold callF
  rw [f_is_taken]
  rfl
theorem f_put_for : Ir.defs.find? (fun fd => fd.name == ("put_for" : Str)) = some Ir.d_put_for := rfl
theorem c_put_for (n : Nat) (u0 : U) : callF Ir.defs (n + 1) "put_for" [u0] = finF Ir.d_put_for (evSs (callF Ir.defs n) Ir.d_put_for.body [] [some u0, none, none]) := by
  unfold callF
  rw [f_put_for]
  rfl
theorem f_is_nested : Ir.defs.find? (fun fd => fd.name == ("is_nested" : Str)) = some Ir.d_is_nested := rfl
theorem c_is_nested (n : Nat) (u0 : U) : callF Ir.defs (n + 1) "is_nested" [u0] = finF Ir.d_is_nested (evSs (callF Ir.defs n) Ir.d_is_nested.body [] [some u0]) := by
  unfold callF
  rw [f_is_nested]
  rfl
theorem f_nested_way : Ir.defs.find? (fun fd => fd.name == ("nested_way" : Str)) = some Ir.d_nested_way := rfl
theorem c_nested_way (n : Nat) (u0 u1 u2 : U) : callF Ir.defs (n + 1) "nested_way" [u0, u1, u2] = finF Ir.d_nested_way (evSs (callF Ir.defs n) Ir.d_nested_way.body [] [some u0, some u1, some u2, none, none, none]) := by
  unfold callF
  rw [f_nested_way]
  rfl
theorem f_rule_in : Ir.defs.find? (fun fd => fd.name == ("rule_in" : Str)) = some Ir.d_rule_in := rfl
theorem c_rule_in (n : Nat) (u0 u1 : U) : callF Ir.defs (n + 1) "rule_in" [u0, u1] = finF Ir.d_rule_in (evSs (callF Ir.defs n) Ir.d_rule_in.body [] [some u0, some u1, none, none, none, none, none]) := by
  unfold callF
  rw [f_rule_in]
  rfl
theorem f_check_sequents : Ir.defs.find? (fun fd => fd.name == ("check_sequents" : Str)) = some Ir.d_check_sequents := rfl
theorem c_check_sequents (n : Nat) (u0 : U) : callF Ir.defs (n + 1) "check_sequents" [u0] = finF Ir.d_check_sequents (evSs (callF Ir.defs n) Ir.d_check_sequents.body [] [some u0, none, none, none]) := by
  unfold callF
  rw [f_check_sequents]
  rfl
theorem f_rule_at : Ir.defs.find? (fun fd => fd.name == ("rule_at" : Str)) = some Ir.d_rule_at := rfl
theorem c_rule_at (n : Nat) (u0 u1 : U) : callF Ir.defs (n + 1) "rule_at" [u0, u1] = finF Ir.d_rule_at (evSs (callF Ir.defs n) Ir.d_rule_at.body [] [some u0, some u1, none, none, none, none, none, none]) := by
  unfold callF
  rw [f_rule_at]
  rfl
theorem f_weight_of : Ir.defs.find? (fun fd => fd.name == ("weight_of" : Str)) = some Ir.d_weight_of := rfl
theorem c_weight_of (n : Nat) (u0 : U) : callF Ir.defs (n + 1) "weight_of" [u0] = finF Ir.d_weight_of (evSs (callF Ir.defs n) Ir.d_weight_of.body [] [some u0, none, none]) := by
  unfold callF
  rw [f_weight_of]
  rfl
theorem f__law_hash : Ir.defs.find? (fun fd => fd.name == ("_law_hash" : Str)) = some Ir.d__law_hash := rfl
theorem c__law_hash (n : Nat) (u0 u1 : U) : callF Ir.defs (n + 1) "_law_hash" [u0, u1] = finF Ir.d__law_hash (evSs (callF Ir.defs n) Ir.d__law_hash.body [] [some u0, some u1, none]) := by
  unfold callF
  rw [f__law_hash]
  rfl
theorem f__law_random : Ir.defs.find? (fun fd => fd.name == ("_law_random" : Str)) = some Ir.d__law_random := rfl
theorem c__law_random (n : Nat) (u0 u1 : U) : callF Ir.defs (n + 1) "_law_random" [u0, u1] = finF Ir.d__law_random (evSs (callF Ir.defs n) Ir.d__law_random.body [0] [some u0, some u1, none, none]) := by
  unfold callF
  rw [f__law_random]
  rfl
theorem f__law_cell : Ir.defs.find? (fun fd => fd.name == ("_law_cell" : Str)) = some Ir.d__law_cell := rfl
theorem c__law_cell (n : Nat) (u0 u1 : U) : callF Ir.defs (n + 1) "_law_cell" [u0, u1] = finF Ir.d__law_cell (evSs (callF Ir.defs n) Ir.d__law_cell.body [] [some u0, some u1]) := by
  unfold callF
  rw [f__law_cell]
  rfl
theorem f__law_generator : Ir.defs.find? (fun fd => fd.name == ("_law_generator" : Str)) = some Ir.d__law_generator := rfl
theorem c__law_generator (n : Nat) (u0 u1 : U) : callF Ir.defs (n + 1) "_law_generator" [u0, u1] = finF Ir.d__law_generator (evSs (callF Ir.defs n) Ir.d__law_generator.body [] [some u0, some u1, none]) := by
  unfold callF
  rw [f__law_generator]
  rfl
theorem f__law_pick : Ir.defs.find? (fun fd => fd.name == ("_law_pick" : Str)) = some Ir.d__law_pick := rfl
theorem c__law_pick (n : Nat) (u0 u1 : U) : callF Ir.defs (n + 1) "_law_pick" [u0, u1] = finF Ir.d__law_pick (evSs (callF Ir.defs n) Ir.d__law_pick.body [0] [some u0, some u1]) := by
  unfold callF
  rw [f__law_pick]
  rfl
theorem f__law_drawn_order : Ir.defs.find? (fun fd => fd.name == ("_law_drawn_order" : Str)) = some Ir.d__law_drawn_order := rfl
theorem c__law_drawn_order (n : Nat) (u0 u1 : U) : callF Ir.defs (n + 1) "_law_drawn_order" [u0, u1] = finF Ir.d__law_drawn_order (evSs (callF Ir.defs n) Ir.d__law_drawn_order.body [0] [some u0, some u1, none, none]) := by
  unfold callF
  rw [f__law_drawn_order]
  rfl
theorem f__law_exact : Ir.defs.find? (fun fd => fd.name == ("_law_exact" : Str)) = some Ir.d__law_exact := rfl
theorem c__law_exact (n : Nat) (u0 u1 : U) : callF Ir.defs (n + 1) "_law_exact" [u0, u1] = finF Ir.d__law_exact (evSs (callF Ir.defs n) Ir.d__law_exact.body [] [some u0, some u1, none, none]) := by
  unfold callF
  rw [f__law_exact]
  rfl
theorem f__law_copied : Ir.defs.find? (fun fd => fd.name == ("_law_copied" : Str)) = some Ir.d__law_copied := rfl
theorem c__law_copied (n : Nat) (u0 : U) : callF Ir.defs (n + 1) "_law_copied" [u0] = finF Ir.d__law_copied (evSs (callF Ir.defs n) Ir.d__law_copied.body [] [some u0, none, none]) := by
  unfold callF
  rw [f__law_copied]
  rfl
theorem f__law_inner : Ir.defs.find? (fun fd => fd.name == ("_law_inner" : Str)) = some Ir.d__law_inner := rfl
theorem c__law_inner (n : Nat) (u0 : U) : callF Ir.defs (n + 1) "_law_inner" [u0] = finF Ir.d__law_inner (evSs (callF Ir.defs n) Ir.d__law_inner.body [] [some u0]) := by
  unfold callF
  rw [f__law_inner]
  rfl
theorem f__law_places : Ir.defs.find? (fun fd => fd.name == ("_law_places" : Str)) = some Ir.d__law_places := rfl
theorem c__law_places (n : Nat) (u0 u1 : U) : callF Ir.defs (n + 1) "_law_places" [u0, u1] = finF Ir.d__law_places (evSs (callF Ir.defs n) Ir.d__law_places.body [] [some u0, some u1, none, none, none]) := by
  unfold callF
  rw [f__law_places]
  rfl
theorem f__law_kind_parts : Ir.defs.find? (fun fd => fd.name == ("_law_kind_parts" : Str)) = some Ir.d__law_kind_parts := rfl
theorem c__law_kind_parts (n : Nat) (u0 : U) : callF Ir.defs (n + 1) "_law_kind_parts" [u0] = finF Ir.d__law_kind_parts (evSs (callF Ir.defs n) Ir.d__law_kind_parts.body [] [some u0]) := by
  unfold callF
  rw [f__law_kind_parts]
  rfl
theorem f__law_formula : Ir.defs.find? (fun fd => fd.name == ("_law_formula" : Str)) = some Ir.d__law_formula := rfl
theorem c__law_formula (n : Nat) (u0 u1 u2 : U) : callF Ir.defs (n + 1) "_law_formula" [u0, u1, u2] = finF Ir.d__law_formula (evSs (callF Ir.defs n) Ir.d__law_formula.body [0] [some u0, some u1, some u2, none]) := by
  unfold callF
  rw [f__law_formula]
  rfl
theorem f__law_proved : Ir.defs.find? (fun fd => fd.name == ("_law_proved" : Str)) = some Ir.d__law_proved := rfl
theorem c__law_proved (n : Nat) (u0 u1 u2 u3 : U) : callF Ir.defs (n + 1) "_law_proved" [u0, u1, u2, u3] = finF Ir.d__law_proved (evSs (callF Ir.defs n) Ir.d__law_proved.body [0] [some u0, some u1, some u2, some u3, none, none, none]) := by
  unfold callF
  rw [f__law_proved]
  rfl
theorem f__law_detour : Ir.defs.find? (fun fd => fd.name == ("_law_detour" : Str)) = some Ir.d__law_detour := rfl
theorem c__law_detour (n : Nat) (u0 u1 u2 u3 : U) : callF Ir.defs (n + 1) "_law_detour" [u0, u1, u2, u3] = finF Ir.d__law_detour (evSs (callF Ir.defs n) Ir.d__law_detour.body [0] [some u0, some u1, some u2, some u3, none, none, none, none, none, none, none]) := by
  unfold callF
  rw [f__law_detour]
  rfl
theorem f__law_used : Ir.defs.find? (fun fd => fd.name == ("_law_used" : Str)) = some Ir.d__law_used := rfl
theorem c__law_used (n : Nat) (u0 u1 u2 u3 : U) : callF Ir.defs (n + 1) "_law_used" [u0, u1, u2, u3] = finF Ir.d__law_used (evSs (callF Ir.defs n) Ir.d__law_used.body [0] [some u0, some u1, some u2, some u3, none, none, none, none]) := by
  unfold callF
  rw [f__law_used]
  rfl
theorem f__law_led : Ir.defs.find? (fun fd => fd.name == ("_law_led" : Str)) = some Ir.d__law_led := rfl
theorem c__law_led (n : Nat) (u0 u1 u2 u3 u4 u5 : U) : callF Ir.defs (n + 1) "_law_led" [u0, u1, u2, u3, u4, u5] = finF Ir.d__law_led (evSs (callF Ir.defs n) Ir.d__law_led.body [0] [some u0, some u1, some u2, some u3, some u4, some u5, none, none, none, none]) := by
  unfold callF
  rw [f__law_led]
  rfl
theorem f__law_known_proofs : Ir.defs.find? (fun fd => fd.name == ("_law_known_proofs" : Str)) = some Ir.d__law_known_proofs := rfl
theorem c__law_known_proofs (n : Nat) (u0 u1 : U) : callF Ir.defs (n + 1) "_law_known_proofs" [u0, u1] = finF Ir.d__law_known_proofs (evSs (callF Ir.defs n) Ir.d__law_known_proofs.body [0] [some u0, some u1, none, none, none, none, none, none, none]) := by
  unfold callF
  rw [f__law_known_proofs]
  rfl
theorem f__law_some_proof : Ir.defs.find? (fun fd => fd.name == ("_law_some_proof" : Str)) = some Ir.d__law_some_proof := rfl
theorem c__law_some_proof (n : Nat) (u0 u1 u2 : U) : callF Ir.defs (n + 1) "_law_some_proof" [u0, u1, u2] = finF Ir.d__law_some_proof (evSs (callF Ir.defs n) Ir.d__law_some_proof.body [0] [some u0, some u1, some u2, none, none, none, none, none]) := by
  unfold callF
  rw [f__law_some_proof]
  rfl
theorem f__law_put_ones : Ir.defs.find? (fun fd => fd.name == ("_law_put_ones" : Str)) = some Ir.d__law_put_ones := rfl
theorem c__law_put_ones (n : Nat) (u0 u1 : U) : callF Ir.defs (n + 1) "_law_put_ones" [u0, u1] = finF Ir.d__law_put_ones (evSs (callF Ir.defs n) Ir.d__law_put_ones.body [] [some u0, some u1, none, none]) := by
  unfold callF
  rw [f__law_put_ones]
  rfl
theorem f__law_rule : Ir.defs.find? (fun fd => fd.name == ("_law_rule" : Str)) = some Ir.d__law_rule := rfl
theorem c__law_rule (n : Nat) (u0 u1 : U) : callF Ir.defs (n + 1) "_law_rule" [u0, u1] = finF Ir.d__law_rule (evSs (callF Ir.defs n) Ir.d__law_rule.body [] [some u0, some u1, none, none, none, none, none, none, none]) := by
  unfold callF
  rw [f__law_rule]
  rfl
theorem f__law_weight : Ir.defs.find? (fun fd => fd.name == ("_law_weight" : Str)) = some Ir.d__law_weight := rfl
theorem c__law_weight (n : Nat) (u0 : U) : callF Ir.defs (n + 1) "_law_weight" [u0] = finF Ir.d__law_weight (evSs (callF Ir.defs n) Ir.d__law_weight.body [] [some u0]) := by
  unfold callF
  rw [f__law_weight]
  rfl
theorem f__law_true_by : Ir.defs.find? (fun fd => fd.name == ("_law_true_by" : Str)) = some Ir.d__law_true_by := rfl
theorem c__law_true_by (n : Nat) (u0 u1 : U) : callF Ir.defs (n + 1) "_law_true_by" [u0, u1] = finF Ir.d__law_true_by (evSs (callF Ir.defs n) Ir.d__law_true_by.body [] [some u0, some u1, none, none]) := by
  unfold callF
  rw [f__law_true_by]
  rfl
theorem f__law_cases : Ir.defs.find? (fun fd => fd.name == ("_law_cases" : Str)) = some Ir.d__law_cases := rfl
theorem c__law_cases (n : Nat) (u0 : U) : callF Ir.defs (n + 1) "_law_cases" [u0] = finF Ir.d__law_cases (evSs (callF Ir.defs n) Ir.d__law_cases.body [] [some u0, none, none, none]) := by
  unfold callF
  rw [f__law_cases]
  rfl
theorem f__law_is_less : Ir.defs.find? (fun fd => fd.name == ("_law_is_less" : Str)) = some Ir.d__law_is_less := rfl
theorem c__law_is_less (n : Nat) (u0 u1 : U) : callF Ir.defs (n + 1) "_law_is_less" [u0, u1] = finF Ir.d__law_is_less (evSs (callF Ir.defs n) Ir.d__law_is_less.body [] [some u0, some u1, none, none, none]) := by
  unfold callF
  rw [f__law_is_less]
  rfl
theorem f__law_holds : Ir.defs.find? (fun fd => fd.name == ("_law_holds" : Str)) = some Ir.d__law_holds := rfl
theorem c__law_holds (n : Nat) (u0 u1 u2 : U) : callF Ir.defs (n + 1) "_law_holds" [u0, u1, u2] = finF Ir.d__law_holds (evSs (callF Ir.defs n) Ir.d__law_holds.body [] [some u0, some u1, some u2, none]) := by
  unfold callF
  rw [f__law_holds]
  rfl
theorem f__law_sequent_right : Ir.defs.find? (fun fd => fd.name == ("_law_sequent_right" : Str)) = some Ir.d__law_sequent_right := rfl
theorem c__law_sequent_right (n : Nat) (u0 u1 u2 : U) : callF Ir.defs (n + 1) "_law_sequent_right" [u0, u1, u2] = finF Ir.d__law_sequent_right (evSs (callF Ir.defs n) Ir.d__law_sequent_right.body [] [some u0, some u1, some u2, none, none, none, none, none, none, none, none, none, none, none]) := by
  unfold callF
  rw [f__law_sequent_right]
  rfl
theorem f__law_down_right : Ir.defs.find? (fun fd => fd.name == ("_law_down_right" : Str)) = some Ir.d__law_down_right := rfl
theorem c__law_down_right (n : Nat) (u0 u1 u2 : U) : callF Ir.defs (n + 1) "_law_down_right" [u0, u1, u2] = finF Ir.d__law_down_right (evSs (callF Ir.defs n) Ir.d__law_down_right.body [0] [some u0, some u1, some u2, none, none, none, none]) := by
  unfold callF
  rw [f__law_down_right]
  rfl
theorem f_law : Ir.defs.find? (fun fd => fd.name == ("law" : Str)) = some Ir.d_law := rfl
theorem c_law (n : Nat) (u0 : U) : callF Ir.defs (n + 1) "law" [u0] = finF Ir.d_law (evSs (callF Ir.defs n) Ir.d_law.body [] [some u0, none, none, none, none, none, none, none, none, none, none, none, none]) := by
  unfold callF
  rw [f_law]
  rfl
end Cl

/-! Km: rules of sequents, plain. -/
namespace Km
open Pv Pv.Fm
abbrev Sq := List Fm × Fm
def Th (a b : Fm) : Fm := .bin .then a b
/-- what is put for a formula of the left list -/
def putOne (left : List Fm) : Fm → Option (List (List Fm))
  | .bin .and l r => some [[l, r]]
  | .bin .or l r => some [[l], [r]]
  | .bin .then .no _ => some [[]]
  | .bin .then (.bin .and x y) last => some [[Th x (Th y last)]]
  | .bin .then (.bin .or x y) last => some [[Th x last, Th y last]]
  | .bin .then (.bin .then _ _) _ => none
  | .bin .then (.is x) last => if Fm.is x ∈ left then some [[last]] else none
  | _ => none
def firstT (left : List Fm) : Nat → List Fm → Option (Nat × List (List Fm))
  | _, [] => none
  | i, f :: fs => match putOne left f with
    | some m => some (i, m)
    | none => firstT left (i + 1) fs
def sides (left : List Fm) : Fm → List (List Sq)
  | .bin .or l r => [[(left, l)], [(left, r)]]
  | _ => []
def nestOf : Fm → Option (Fm × Fm × Fm)
  | .bin .then (.bin .then a b) c => some (a, b, c)
  | _ => none
def nestWay (left : List Fm) (right : Fm) (i : Nat) (a b c : Fm) : List Sq :=
  [([a] ++ left.take i ++ [Th b c] ++ left.drop (i + 1), b), (left.take i ++ [c] ++ left.drop (i + 1), right)]
def nests (left : List Fm) (right : Fm) : List (List Sq) := left.zipIdx.filterMap fun p => (nestOf p.1).map fun q => nestWay left right p.2 q.1 q.2.1 q.2.2
def ruleM (left : List Fm) (right : Fm) : String × List (List Sq) :=
  if Fm.no ∈ left then ("false", [[]]) else if right ∈ left then ("there", [[]]) else
  match right with
  | .bin .then a b => ("then", [[(a :: left, b)]])
  | .bin .and a b => ("and", [[(left, a), (left, b)]])
  | _ => match firstT left 0 left with
    | some (i, more) => ("taken", [more.map fun m => (left.take i ++ m ++ left.drop (i + 1), right)])
    | none => ("tried", sides left right ++ nests left right)

theorem firstT_some {left : List Fm} : ∀ {fs : List Fm} {i j : Nat} {m : List (List Fm)}, firstT left i fs = some (j, m) → ∃ k f, j = i + k ∧ fs[k]? = some f ∧ putOne left f = some m
  | [], i, j, m, h => by simp [firstT] at h
  | f :: fs, i, j, m, h => by
    unfold firstT at h
    split at h
    · rename_i m' e
      cases h
      exact ⟨0, f, rfl, rfl, e⟩
    · obtain ⟨k, g, rfl, e, h⟩ := firstT_some h
      exact ⟨k + 1, g, by omega, by simpa using e, h⟩
theorem firstT_at {left : List Fm} {j : Nat} {m : List (List Fm)} (h : firstT left 0 left = some (j, m)) : ∃ f, left[j]? = some f ∧ putOne left f = some m := by
  obtain ⟨k, f, rfl, e, h⟩ := firstT_some h
  exact ⟨f, by simpa using e, h⟩
theorem split_at {left : List Fm} {j : Nat} {f : Fm} (h : left[j]? = some f) : left = left.take j ++ [f] ++ left.drop (j + 1) := by
  obtain ⟨hj, rfl⟩ := List.getElem?_eq_some_iff.mp h
  simp
/-! weights -/
def wt : Fm → Int
  | .is _ => 1
  | .no => 1
  | .bin .and l r => 2 + wt l + wt r
  | .bin _ l r => 1 + wt l + wt r
theorem wt_pos (f : Fm) : 0 < wt f := by
  induction f with
  | is _ => simp [wt]
  | no => simp [wt]
  | bin w l r h1 h2 => cases w <;> simp only [wt] <;> omega
def splitW : List Int → List Int → List Int → List Int × List Int
  | rest, more, [] => (rest, more)
  | rest, more, w :: ws => if w ∈ rest then splitW (rest.erase w) more ws else splitW rest (more ++ [w]) ws
theorem splitW_count (x : Int) : ∀ (ws rest more : List Int), (splitW rest more ws).1.count x = rest.count x - ws.count x ∧ (splitW rest more ws).2.count x = more.count x + (ws.count x - rest.count x)
  | [], rest, more => by simp [splitW]
  | w :: ws, rest, more => by
    unfold splitW
    split
    · rename_i h
      obtain ⟨h1, h2⟩ := splitW_count x ws (rest.erase w) more
      rw [h1, h2, List.count_erase, List.count_cons]
      have hp : 0 < rest.count w := List.count_pos_iff.mpr h
      by_cases e : w = x
      · subst e; simp; omega
      · have e' : ¬ x = w := fun q => e q.symm
        simp [e, e']
    · rename_i h
      obtain ⟨h1, h2⟩ := splitW_count x ws rest (more ++ [w])
      rw [h1, h2, List.count_append, List.count_cons, List.count_cons]
      have hp : rest.count w = 0 := List.count_eq_zero.mpr h
      by_cases e : w = x
      · subst e; simp; omega
      · have e' : ¬ x = w := fun q => e q.symm
        simp [e, e']
/-- less, as the law has it -/
def LessW (M N : List Int) : Prop := (splitW M [] N).1 ≠ [] ∧ ∃ x ∈ (splitW M [] N).1, ∀ y ∈ (splitW M [] N).2, y < x
theorem less_of {M N : List Int} (X Y : List Int) (x : Int) (hx : x ∈ X) (hy : ∀ y ∈ Y, y < x) (h : ∀ z, ∃ c, M.count z = c + X.count z ∧ N.count z = c + Y.count z) : LessW M N := by
  have hr : x ∈ (splitW M [] N).1 := by
    apply List.count_pos_iff.mp
    rw [(splitW_count x N M []).1]
    obtain ⟨c, h1, h2⟩ := h x
    have h3 : 0 < X.count x := List.count_pos_iff.mpr hx
    have h4 : Y.count x = 0 := List.count_eq_zero.mpr fun q => by have := hy x q; omega
    omega
  refine ⟨fun e => by rw [e] at hr; simp at hr, x, hr, fun y hm => ?_⟩
  have h1 := List.count_pos_iff.mpr hm
  rw [(splitW_count y N M []).2] at h1
  obtain ⟨c, h2, h3⟩ := h y
  simp only [List.count_nil] at h1
  exact hy y (List.count_pos_iff.mp (by omega))
def wts (l : List Fm) : List Int := l.map wt
def SqLess (l : List Fm) (r : Fm) (l' : List Fm) (r' : Fm) : Prop := LessW (wts (l ++ [r])) (wts (l' ++ [r']))
theorem put_less {left : List Fm} {f : Fm} {ms : List (List Fm)} (h : putOne left f = some ms) : ∀ m ∈ ms, ∀ g ∈ m, wt g < wt f := by
  have p := wt_pos
  unfold putOne at h
  split at h <;> (try cases h) <;> simp only [List.mem_cons, List.not_mem_nil, or_false, forall_eq_or_imp, forall_eq, Th, wt, false_implies, implies_true]
  · rename_i l r; have := p l; have := p r; omega
  · rename_i l r; have := p l; have := p r; omega
  · rename_i x y z; have := p x; have := p y; have := p z; omega
  · rename_i x y z; have := p x; have := p y; have := p z; omega
  · rename_i x last
    split at h
    · cases h
      simp only [List.mem_cons, List.not_mem_nil, or_false, forall_eq_or_imp, forall_eq]
      have := p last; omega
    · cases h
theorem rule_less (left : List Fm) (right : Fm) : ∀ way ∈ (ruleM left right).2, ∀ q ∈ way, SqLess left right q.1 q.2 := by
  have p := wt_pos
  unfold ruleM
  split
  · simp
  split
  · simp
  split
  · rename_i a b _
    simp only [List.mem_cons, List.not_mem_nil, or_false, forall_eq]
    refine less_of [wt (.bin .then a b)] [wt a, wt b] (wt (.bin .then a b)) (by simp) (by have := p a; have := p b; simp only [List.mem_cons, List.not_mem_nil, or_false, forall_eq_or_imp, forall_eq, wt]; omega) fun z => ⟨(wts left).count z, ?_, ?_⟩
    · simp [wts, List.count_cons]
    · simp only [wts, List.map_append, List.map_cons, List.count_append, List.count_cons, List.map_nil, List.count_nil, List.cons_append]; omega
  · rename_i a b _
    simp only [List.mem_cons, List.not_mem_nil, or_false, forall_eq_or_imp, forall_eq]
    have := p a; have := p b
    refine ⟨less_of [wt (.bin .and a b)] [wt a] (wt (.bin .and a b)) (by simp) (by simp only [List.mem_cons, List.not_mem_nil, or_false, forall_eq, wt]; omega) fun z => ⟨(wts left).count z, by simp [wts, List.count_cons], by simp [wts, List.count_cons]⟩, less_of [wt (.bin .and a b)] [wt b] (wt (.bin .and a b)) (by simp) (by simp only [List.mem_cons, List.not_mem_nil, or_false, forall_eq, wt]; omega) fun z => ⟨(wts left).count z, by simp [wts, List.count_cons], by simp [wts, List.count_cons]⟩⟩
  · split
    · rename_i i more e
      obtain ⟨f, ef, hp⟩ := firstT_at e
      have hl := put_less hp
      simp only [List.mem_cons, List.not_mem_nil, or_false, forall_eq]
      intro q hq
      obtain ⟨m, hm, rfl⟩ := List.mem_map.mp hq
      refine less_of [wt f] (wts m) (wt f) (by simp) (fun y hy => ?_) fun z => ⟨(wts (left.take i)).count z + (wts (left.drop (i + 1))).count z + [wt right].count z, ?_, ?_⟩
      · obtain ⟨g, hg, rfl⟩ := List.mem_map.mp hy
        exact hl m hm g hg
      · conv => lhs; rw [split_at ef]
        simp only [wts, List.map_append, List.map_cons, List.count_append, List.count_cons, List.map_nil, List.count_nil]; omega
      · simp only [wts, List.map_append, List.map_cons, List.count_append, List.count_cons, List.map_nil, List.count_nil]; omega
    · intro way hw q hq
      simp only [List.mem_append] at hw
      rcases hw with hw | hw
      · unfold sides at hw
        split at hw
        · rename_i l r _ _ _
          have := p l; have := p r
          simp only [List.mem_cons, List.not_mem_nil, or_false] at hw
          rcases hw with rfl | rfl <;> simp only [List.mem_cons, List.not_mem_nil, or_false] at hq <;> subst hq
          · exact less_of [wt (.bin .or l r)] [wt l] (wt (.bin .or l r)) (by simp) (by simp only [List.mem_cons, List.not_mem_nil, or_false, forall_eq, wt]; omega) fun z => ⟨(wts left).count z, by simp [wts, List.count_cons], by simp [wts, List.count_cons]⟩
          · exact less_of [wt (.bin .or l r)] [wt r] (wt (.bin .or l r)) (by simp) (by simp only [List.mem_cons, List.not_mem_nil, or_false, forall_eq, wt]; omega) fun z => ⟨(wts left).count z, by simp [wts, List.count_cons], by simp [wts, List.count_cons]⟩
        · simp at hw
      · unfold nests at hw
        obtain ⟨⟨f, i⟩, h1, h2⟩ := List.mem_filterMap.mp hw
        obtain ⟨⟨a, b, c⟩, h3, rfl⟩ := Option.map_eq_some_iff.mp h2
        simp only at h3 hq
        have ef : left[i]? = some f := by simpa using List.mem_zipIdx_iff_getElem?.mp h1
        unfold nestOf at h3
        split at h3
        · cases h3
          have := p a; have := p b; have := p c
          unfold nestWay at hq
          simp only [List.mem_cons, List.not_mem_nil, or_false] at hq
          rcases hq with rfl | rfl
          · refine less_of [wt (.bin .then (.bin .then a b) c), wt right] [wt a, wt (Th b c), wt b] (wt (.bin .then (.bin .then a b) c)) (by simp) (by simp only [List.mem_cons, List.not_mem_nil, or_false, forall_eq_or_imp, forall_eq, wt, Th]; omega) fun z => ⟨(wts (left.take i)).count z + (wts (left.drop (i + 1))).count z, ?_, ?_⟩
            · conv => lhs; rw [split_at ef]
              simp only [wts, List.map_append, List.map_cons, List.count_append, List.count_cons, List.map_nil, List.count_nil]; omega
            · simp only [wts, List.map_append, List.map_cons, List.count_append, List.count_cons, List.map_nil, List.count_nil]; omega
          · refine less_of [wt (.bin .then (.bin .then a b) c)] [wt c] (wt (.bin .then (.bin .then a b) c)) (by simp) (by simp only [List.mem_cons, List.not_mem_nil, or_false, forall_eq, wt]; omega) fun z => ⟨(wts (left.take i)).count z + (wts (left.drop (i + 1))).count z + [wt right].count z, ?_, ?_⟩
            · conv => lhs; rw [split_at ef]
              simp only [wts, List.map_append, List.map_cons, List.count_append, List.count_cons, List.map_nil, List.count_nil]; omega
            · simp only [wts, List.map_append, List.map_cons, List.count_append, List.count_cons, List.map_nil, List.count_nil]; omega
        · cases h3
/-! truth by cases -/
def tr (c : Lt → Bool) : Fm → Bool
  | .is x => c x
  | .no => false
  | .bin .and l r => tr c l && tr c r
  | .bin .or l r => tr c l || tr c r
  | .bin .then l r => tr c r || !tr c l
def holds (c : Lt → Bool) (l : List Fm) (r : Fm) : Bool := l.any (fun f => !tr c f) || tr c r
def stand (c : Lt → Bool) (ways : List (List Sq)) : Bool := ways.any fun way => way.all fun q => holds c q.1 q.2
theorem holds_app (c : Lt → Bool) (a b : List Fm) (r : Fm) : holds c (a ++ b) r = (a.any (fun f => !tr c f) || holds c b r) := by
  simp [holds, Bool.or_assoc]
theorem anyn (c : Lt → Bool) (l : List Fm) : l.any (fun f => !tr c f) = !(l.all (tr c)) := by
  induction l with
  | nil => rfl
  | cons f l ih => simp only [List.any_cons, List.all_cons, ih, Bool.not_and]
/-- a formula taken says what is put for it says -/
theorem put_eq {left : List Fm} {f : Fm} {ms : List (List Fm)} (c : Lt → Bool) (h : putOne left f = some ms) (A : Bool) (hx : ∀ x, Fm.is x ∈ left → tr c (.is x) = false → A = true) (R : Bool) : ((!tr c f) || A || R) = ms.all fun m => (m.any fun f => !tr c f) || A || R := by
  unfold putOne at h
  split at h <;> (try cases h)
  · rename_i l r
    simp only [List.all_cons, List.all_nil, List.any_cons, List.any_nil, tr]
    cases tr c l <;> cases tr c r <;> cases A <;> cases R <;> rfl
  · rename_i l r
    simp only [List.all_cons, List.all_nil, List.any_cons, List.any_nil, tr]
    cases tr c l <;> cases tr c r <;> cases A <;> cases R <;> rfl
  · rename_i z
    simp only [List.all_cons, List.all_nil, List.any_cons, List.any_nil, tr]
    cases tr c z <;> cases A <;> cases R <;> rfl
  · rename_i x y z
    simp only [List.all_cons, List.all_nil, List.any_cons, List.any_nil, tr, Th]
    cases tr c x <;> cases tr c y <;> cases tr c z <;> cases A <;> cases R <;> rfl
  · rename_i x y z
    simp only [List.all_cons, List.all_nil, List.any_cons, List.any_nil, tr, Th]
    cases tr c x <;> cases tr c y <;> cases tr c z <;> cases A <;> cases R <;> rfl
  · rename_i x last
    split at h
    · rename_i hm
      cases h
      have q := hx x hm
      simp only [List.all_cons, List.all_nil, List.any_cons, List.any_nil, tr] at q ⊢
      cases hc : c x <;> simp [hc] at q ⊢
      simp [q]
    · cases h
theorem rule_true (c : Lt → Bool) (left : List Fm) (right : Fm) : ((ruleM left right).1 ≠ "tried" → holds c left right = stand c (ruleM left right).2) ∧ ((ruleM left right).1 = "tried" → stand c (ruleM left right).2 = true → holds c left right = true) := by
  unfold ruleM
  split
  · rename_i h
    refine ⟨fun _ => ?_, fun e => by simp at e⟩
    simp only [stand, List.any_cons, List.all_nil, List.any_nil, Bool.or_false, holds, Bool.or_eq_true, List.any_eq_true]
    exact .inl ⟨_, h, rfl⟩
  split
  · rename_i h
    refine ⟨fun _ => ?_, fun e => by simp at e⟩
    simp only [stand, List.any_cons, List.all_nil, List.any_nil, Bool.or_false, holds, Bool.or_eq_true, List.any_eq_true]
    by_cases k : tr c right = true
    · exact .inr k
    · exact .inl ⟨_, h, by simpa using k⟩
  split
  · rename_i a b _
    refine ⟨fun _ => ?_, fun e => by simp at e⟩
    simp only [stand, List.any_cons, List.all_cons, List.all_nil, List.any_nil, Bool.or_false, Bool.and_true, holds, tr]
    cases (left.any fun f => !tr c f) <;> cases tr c a <;> cases tr c b <;> rfl
  · rename_i a b _
    refine ⟨fun _ => ?_, fun e => by simp at e⟩
    simp only [stand, List.any_cons, List.all_cons, List.all_nil, List.any_nil, Bool.or_false, Bool.and_true, holds, tr]
    cases (left.any fun f => !tr c f) <;> cases tr c a <;> cases tr c b <;> rfl
  · split
    · rename_i i more e
      refine ⟨fun _ => ?_, fun e => by simp at e⟩
      obtain ⟨f, ef, hp⟩ := firstT_at e
      have sp := split_at ef
      simp only [stand, List.any_cons, List.all_map, List.any_nil, Bool.or_false]
      have key := put_eq c hp ((left.take i).any (fun f => !tr c f) || (left.drop (i + 1)).any (fun f => !tr c f)) (fun x hm ht => ?_) (tr c right)
      · have e1 : holds c left right = (!tr c f || ((left.take i).any (fun f => !tr c f) || (left.drop (i + 1)).any (fun f => !tr c f)) || tr c right) := by
          conv => lhs; rw [sp]
          simp only [holds, List.any_append, List.any_cons, List.any_nil, Bool.or_false]
          cases tr c f <;> cases (left.take i).any (fun f => !tr c f) <;> cases (left.drop (i + 1)).any (fun f => !tr c f) <;> rfl
        rw [e1, key]
        congr 1
        funext m
        simp only [Function.comp, holds, List.any_append]
        cases m.any (fun f => !tr c f) <;> cases (left.take i).any (fun f => !tr c f) <;> cases (left.drop (i + 1)).any (fun f => !tr c f) <;> rfl
      · rw [sp] at hm
        simp only [List.mem_append, List.mem_singleton] at hm
        simp only [Bool.or_eq_true, List.any_eq_true]
        rcases hm with (hm | hm) | hm
        · exact .inl ⟨_, hm, by rw [ht]; rfl⟩
        · exfalso
          subst hm
          simp [putOne] at hp
        · exact .inr ⟨_, hm, by rw [ht]; rfl⟩
    · refine ⟨fun e => absurd rfl e, fun _ h => ?_⟩
      simp only [stand, List.any_eq_true, List.all_eq_true, List.mem_append] at h
      obtain ⟨way, hw, ha⟩ := h
      rcases hw with hw | hw
      · unfold sides at hw
        split at hw
        · simp only [List.mem_cons, List.not_mem_nil, or_false] at hw
          rcases hw with rfl | rfl
          · have := ha _ (List.mem_singleton.mpr rfl)
            simp only [holds, tr, Bool.or_eq_true] at this ⊢
            rcases this with h | h
            · exact .inl h
            · exact .inr (.inl h)
          · have := ha _ (List.mem_singleton.mpr rfl)
            simp only [holds, tr, Bool.or_eq_true] at this ⊢
            rcases this with h | h
            · exact .inl h
            · exact .inr (.inr h)
        · simp at hw
      · unfold nests at hw
        obtain ⟨⟨f, i⟩, h1, h2⟩ := List.mem_filterMap.mp hw
        obtain ⟨⟨a, b, d⟩, h3, rfl⟩ := Option.map_eq_some_iff.mp h2
        simp only at h3 ha
        have ef : left[i]? = some f := by simpa using List.mem_zipIdx_iff_getElem?.mp h1
        have sp := split_at ef
        unfold nestOf at h3
        split at h3
        · cases h3
          have k1 := ha ([a] ++ left.take i ++ [Th b d] ++ left.drop (i + 1), b) (by simp [nestWay])
          have k2 := ha (left.take i ++ [d] ++ left.drop (i + 1), right) (by simp [nestWay])
          rw [sp]
          simp only [holds, List.any_append, List.any_cons, List.any_nil, Bool.or_false, Th, tr] at k1 k2 ⊢
          revert k1 k2
          cases tr c a <;> cases tr c b <;> cases tr c d <;> cases tr c right <;> cases (left.take i).any (fun f => !tr c f) <;> cases (left.drop (i + 1)).any (fun f => !tr c f) <;> simp
        · cases h3
/-! sizes -/
def Fits (n k : Nat) (l : List Fm) (r : Fm) : Prop := l.length ≤ n ∧ (∀ f ∈ l, f.sz ≤ k) ∧ r.sz ≤ k
theorem put_sz {left : List Fm} {f : Fm} {ms : List (List Fm)} (h : putOne left f = some ms) : ∀ m ∈ ms, m.length ≤ 2 ∧ ∀ g ∈ m, g.sz ≤ f.sz := by
  unfold putOne at h
  split at h <;> (try cases h) <;> simp only [List.mem_cons, List.not_mem_nil, or_false, forall_eq_or_imp, forall_eq, Th, sz, false_implies, implies_true, List.length_cons, List.length_nil] <;> (try omega) <;> (try simp)
  split at h
  · cases h
    simp only [List.mem_cons, List.not_mem_nil, or_false, forall_eq_or_imp, forall_eq, List.length_cons, List.length_nil]; omega
  · cases h
theorem fits_put {n k i : Nat} {l m : List Fm} {r : Fm} {f : Fm} (h : Fits n k l r) (ef : l[i]? = some f) (hm : m.length ≤ 2) (hs : ∀ g ∈ m, g.sz ≤ k) : Fits (n + 1) k (l.take i ++ m ++ l.drop (i + 1)) r := by
  obtain ⟨h1, h2, h3⟩ := h
  have hi : i < l.length := (List.getElem?_eq_some_iff.mp ef).1
  refine ⟨?_, fun g hg => ?_, h3⟩
  · simp only [List.length_append, List.length_take, List.length_drop]; omega
  · simp only [List.mem_append] at hg
    rcases hg with (hg | hg) | hg
    · exact h2 g (List.mem_of_mem_take hg)
    · exact hs g hg
    · exact h2 g (List.mem_of_mem_drop hg)
theorem rule_fits {n k : Nat} {l : List Fm} {r : Fm} (h : Fits n k l r) : ∀ way ∈ (ruleM l r).2, ∀ q ∈ way, Fits (n + 1) k q.1 q.2 := by
  obtain ⟨h1, h2, h3⟩ := h
  unfold ruleM
  split
  · simp
  split
  · simp
  split
  · rename_i a b _
    simp only [List.mem_cons, List.not_mem_nil, or_false, forall_eq]
    simp only [sz] at h3
    refine ⟨by simp only [List.length_cons]; omega, fun f hf => ?_, by omega⟩
    rcases List.mem_cons.mp hf with rfl | hf
    · omega
    · exact h2 f hf
  · rename_i a b _
    simp only [sz] at h3
    simp only [List.mem_cons, List.not_mem_nil, or_false, forall_eq_or_imp, forall_eq]
    exact ⟨⟨by omega, h2, by omega⟩, ⟨by omega, h2, by omega⟩⟩
  · split
    · rename_i i more e
      obtain ⟨f, ef, hp⟩ := firstT_at e
      have hz := put_sz hp
      have hf := h2 f (List.mem_of_getElem? ef)
      simp only [List.mem_cons, List.not_mem_nil, or_false, forall_eq]
      intro q hq
      obtain ⟨m, hm, rfl⟩ := List.mem_map.mp hq
      exact fits_put ⟨h1, h2, h3⟩ ef (hz m hm).1 fun g hg => Nat.le_trans ((hz m hm).2 g hg) hf
    · intro way hw q hq
      simp only [List.mem_append] at hw
      rcases hw with hw | hw
      · unfold sides at hw
        split at hw
        · simp only [sz] at h3
          simp only [List.mem_cons, List.not_mem_nil, or_false] at hw
          rcases hw with rfl | rfl <;> simp only [List.mem_cons, List.not_mem_nil, or_false] at hq <;> subst hq <;> exact ⟨by simp only; omega, h2, by simp only; omega⟩
        · simp at hw
      · unfold nests at hw
        obtain ⟨⟨f, i⟩, k1, k2⟩ := List.mem_filterMap.mp hw
        obtain ⟨⟨a, b, c⟩, k3, rfl⟩ := Option.map_eq_some_iff.mp k2
        simp only at k3 hq
        have ef : l[i]? = some f := by simpa using List.mem_zipIdx_iff_getElem?.mp k1
        have hf := h2 f (List.mem_of_getElem? ef)
        unfold nestOf at k3
        split at k3
        · cases k3
          simp only [sz] at hf
          unfold nestWay at hq
          simp only [List.mem_cons, List.not_mem_nil, or_false] at hq
          have hi : i < l.length := (List.getElem?_eq_some_iff.mp ef).1
          rcases hq with rfl | rfl
          · refine ⟨?_, fun g hg => ?_, by simp only; omega⟩
            · simp only [List.length_append, List.length_take, List.length_drop, List.length_cons, List.length_nil]; omega
            · simp only [List.mem_append, List.mem_singleton] at hg
              rcases hg with ((rfl | hg) | rfl) | hg
              · omega
              · exact h2 g (List.mem_of_mem_take hg)
              · simp only [Th, sz]; omega
              · exact h2 g (List.mem_of_mem_drop hg)
          · exact fits_put ⟨h1, h2, h3⟩ ef (by simp) (by simp only [List.mem_singleton, forall_eq]; omega)
        · cases k3
end Km

/-! Sp1: what the defs compute: formulas. -/
namespace Sp
open Pv PySem Pv.Fm
theorem eq_of {r : RC} {x : U} {y : List (Option U)} (h : r.G fun u os => u = x ∧ os = y) : r = .ok x y := by
  obtain ⟨u, os, e, rfl, rfl⟩ := h.ex
  exact e
theorem suc {n k : Nat} (h : k + 1 ≤ n) : ∃ m, n = m + 1 ∧ k ≤ m := ⟨n - 1, by omega, by omega⟩
def inner : Fm → List Fm
  | .bin _ l r => [l, r]
  | _ => []
theorem name_ok {n : Nat} (h : 1 ≤ n) (x : Lt) : callF Ir.defs n "is_name_in" [.fz (.str x.s)] = .ok (.fz (.bl true)) [none] := by
  obtain ⟨m, rfl, _⟩ := suc h
  cases x <;> kernel_rfl
theorem inner_ok {n : Nat} (h : 1 ≤ n) (f : Fm) : callF Ir.defs n "inner_of" [.fz f.enc] = .ok (.ul (fzs (encs (inner f)))) [none] := by
  obtain ⟨m, rfl, _⟩ := suc h
  cases f with
  | is x => cases x <;> kernel_rfl
  | no => kernel_rfl
  | bin w l r => cases w <;> kernel_rfl
/-! what simp is to know of formulas: they stay folded -/
@[simp] theorem lt_ok (x : Lt) : PyData.canLay0 (.str x.s) = true := by cases x <;> exact lit_ok _
@[simp] theorem j_ok (w : J) : PyData.canLay0 (.str w.s) = true := by cases w <;> exact lit_ok _
@[simp] theorem fm_good (f : Fm) : f.enc.good = true := good f
@[simp] theorem fm_dep (f : Fm) : f.enc.dep = f.dp := dep f
@[simp] theorem fms_good (l : List Fm) : Ds.good (encs l) = true := encs_good l
@[simp] theorem encs_nil : encs [] = [] := rfl
theorem encs_app (k l : List Fm) : encs (k ++ l) = encs k ++ encs l := by simp [encs]
@[simp] theorem encs_len (l : List Fm) : (encs l).length = l.length := by simp [encs]
theorem encs_cons (f : Fm) (l : List Fm) : encs (f :: l) = f.enc :: encs l := rfl
@[simp] theorem t_then (l r : Fm) : D.tup [.str (Str.ofString "then"), l.enc, r.enc] = (Fm.bin .then l r).enc := rfl
@[simp] theorem t_and (l r : Fm) : D.tup [.str (Str.ofString "and"), l.enc, r.enc] = (Fm.bin .and l r).enc := rfl
@[simp] theorem t_or (l r : Fm) : D.tup [.str (Str.ofString "or"), l.enc, r.enc] = (Fm.bin .or l r).enc := rfl
@[simp] theorem t_no : D.tup [.str (Str.ofString "no")] = Fm.no.enc := rfl
@[simp] theorem t_a : D.tup [.str (Str.ofString "is"), .str (Str.ofString "a")] = (Fm.is .a).enc := rfl
@[simp] theorem t_b : D.tup [.str (Str.ofString "is"), .str (Str.ofString "b")] = (Fm.is .b).enc := rfl
@[simp] theorem t_c : D.tup [.str (Str.ofString "is"), .str (Str.ofString "c")] = (Fm.is .c).enc := rfl
@[simp] theorem ix_b0 (w : J) (l r : Fm) : opIdx (Fm.bin w l r).enc (.int 0) = some (.fz (.str w.s)) := rfl
@[simp] theorem ix_b1 (w : J) (l r : Fm) : opIdx (Fm.bin w l r).enc (.int 1) = some (.fz l.enc) := rfl
@[simp] theorem ix_b2 (w : J) (l r : Fm) : opIdx (Fm.bin w l r).enc (.int 2) = some (.fz r.enc) := rfl
@[simp] theorem ix_i0 (x : Lt) : opIdx (Fm.is x).enc (.int 0) = some (.fz (.str (Str.ofString "is"))) := rfl
@[simp] theorem ix_i1 (x : Lt) : opIdx (Fm.is x).enc (.int 1) = some (.fz (.str x.s)) := rfl
@[simp] theorem ix_n0 : opIdx Fm.no.enc (.int 0) = some (.fz (.str (Str.ofString "no"))) := rfl
@[simp] theorem len_b (w : J) (l r : Fm) : opLen (Fm.bin w l r).enc = some (.fz (.int 3)) := rfl
@[simp] theorem len_i (x : Lt) : opLen (Fm.is x).enc = some (.fz (.int 2)) := rfl
@[simp] theorem len_n : opLen Fm.no.enc = some (.fz (.int 1)) := rfl
@[simp] theorem isa_fm (ts : List String) (f : Fm) : opIsa ts f.enc = some (.fz (.bl (ts.any (isaT "tuple")))) := by cases f <;> rfl
@[simp] theorem jand : J.and.s = Str.ofString "and" := rfl
@[simp] theorem jor : J.or.s = Str.ofString "or" := rfl
@[simp] theorem jthen : J.then.s = Str.ofString "then" := rfl
def Sm (l : List Fm) : Prop := ∀ f ∈ l, f.dp ≤ 60
@[simp] theorem Sm_nil : Sm [] ↔ True := by simp [Sm]
@[simp] theorem Sm_cons (f : Fm) (l : List Fm) : Sm (f :: l) ↔ f.dp ≤ 60 ∧ Sm l := by simp [Sm]
@[simp] theorem Sm_app (k l : List Fm) : Sm (k ++ l) ↔ Sm k ∧ Sm l := by simp [Sm, or_imp, forall_and]
theorem Sm.dep {l : List Fm} (h : Sm l) : Ds.dep (encs l) ≤ 60 := encs_dep h
@[simp] theorem eq_fm (f : Bool → Bool) (a b : Fm) (ha : a.dp ≤ 60) (hb : b.dp ≤ 60) : opEq f a.enc b.enc = some (.fz (.bl (f (decide (a = b))))) := by
  rw [opEq_good (by simp) (by simp) (by simp only [fm_dep]; omega) (by simp only [fm_dep]; omega), beq]; rfl
@[simp] theorem eq_fm0 (f : Bool → Bool) (a : Fm) (ha : a.dp ≤ 60) : opEq f a.enc (.tup []) = some (.fz (.bl (f false))) := by
  rw [opEq_good (by simp) (by simp) (by simp only [fm_dep]; omega) (by simp)]
  cases a <;> simp only [enc, D.beq, Ds.beq] <;> rfl
@[simp] theorem Sm_dep {l : List Fm} (h : Sm l) : Ds.dep (encs l) ≤ 60 := encs_dep h
@[simp] theorem encs_emp (l : List Fm) : (encs l).isEmpty = l.isEmpty := by cases l <;> rfl
@[simp] theorem in_fms (f : Bool → Bool) (a : Fm) (l : List Fm) (ha : a.dp ≤ 60) (h : Sm l) : opIn f a.enc (.lst (encs l)) = some (.fz (.bl (f (decide (a ∈ l))))) := by
  have := h.dep
  rw [opIn_good (by simp) (by simp) (by simp only [fm_dep]; omega) (by omega), encs_any]; rfl
@[simp] theorem dp_is (x : Lt) : (Fm.is x).dp ≤ 60 := by simp [dp]
@[simp] theorem dp_no : Fm.no.dp ≤ 60 := by simp [dp]
theorem dp_l {w : J} {l r : Fm} (h : (Fm.bin w l r).dp ≤ 60) : l.dp ≤ 60 := by simp only [dp] at h; omega
theorem dp_r {w : J} {l r : Fm} (h : (Fm.bin w l r).dp ≤ 60) : r.dp ≤ 60 := by simp only [dp] at h; omega
theorem shaped_ok {n : Nat} (h : 2 ≤ n) (f : Fm) (hd : f.dp ≤ 60) : callF Ir.defs n "is_shaped" [.fz f.enc] = .ok (.fz (.bl true)) [none] := by
  obtain ⟨m, rfl, _⟩ := suc h
  refine eq_of ?_
  rw [Cl.c_is_shaped]
  have hn := fun x => name_ok (n := m) (by omega) x
  cases f with
  | is x => simp [Ir.d_is_shaped, Kont_run, hn]
  | no => simp [Ir.d_is_shaped, Kont_run, hn]
  | bin w l r => cases w <;> simp [Ir.d_is_shaped, Kont_run, hn, hd]
/-! levels -/
def szs (l : List Fm) : Nat := (l.map sz).sum
theorem szs_mem {g : Fm} : ∀ {L : List Fm}, g ∈ L → g.sz ≤ szs L
  | [], h => by simp at h
  | f :: L, h => by
    simp only [szs, List.map_cons, List.sum_cons]
    rcases List.mem_cons.mp h with rfl | h
    · omega
    · have := szs_mem h; unfold szs at this; omega
theorem len_szs (L : List Fm) : L.length ≤ szs L := by
  induction L with
  | nil => simp
  | cons f L ih => simp only [szs, List.map_cons, List.sum_cons, List.length_cons] at ih ⊢; have := sz_pos f; omega
theorem szs_flat (L : List Fm) : szs (L.flatMap inner) + L.length = szs L := by
  induction L with
  | nil => rfl
  | cons f L ih =>
    simp only [List.flatMap_cons, szs, List.map_append, List.sum_append, List.length_cons, List.map_cons, List.sum_cons] at ih ⊢
    have h : ((inner f).map sz).sum + 1 = f.sz := by cases f <;> simp [inner, sz]
    omega
theorem levels_ok {n : Nat} (h : 3 ≤ n) (f : Fm) (hd : f.sz ≤ 50) : ∃ ds, callF Ir.defs n "levels_of" [.fz f.enc] = .ok (.ul ds) [none] := by
  obtain ⟨m, rfl, _⟩ := suc h
  suffices hs : (callF Ir.defs (m + 1) "levels_of" [.fz f.enc]).G fun u os => (∃ ds, u = .ul ds) ∧ os = [none] by
    obtain ⟨u, os, e, ⟨ds, rfl⟩, rfl⟩ := hs.ex
    exact ⟨ds, e⟩
  rw [Cl.c_levels_of]
  simp [Ir.d_levels_of, Kont_run]
  refine while_inv (fun k ρ => ∃ (L : List Fm) (told : List U) (sg : Int) (u : U), ρ = [some (.fz f.enc), some u, some (.ul told), some (.fz (.int sg)), none, none] ∧ u.d = .lst (encs L) ∧ szs L = k ∧ told.length + k ≤ 50 ∧ 0 ≤ sg ∧ sg + k ≤ 50) (fun k ρ h => ?_) FUEL f.sz _ ⟨[f], [], 0, .ul [.fz f.enc], rfl, rfl, by simp [szs], by simpa using hd, by omega, by omega⟩ (by unfold FUEL; omega)
  obtain ⟨L, told, sg, u, rfl, eu, hk, h1, h2, h3⟩ := h
  have hsm : Sm L := by
    intro g hg
    have := szs_mem hg
    have := dp_le g
    omega
  simp [eu, hsm]
  refine ite_mk (fun hb => ?_) (fun hb => ?_)
  · simp [Kont_run]
  · have hz := szs_flat L
    have hlen : 0 < L.length := List.length_pos_iff.mpr hb
    have c1 : ¬ (told.length : Int) = 60 := by omega
    have c2 : ¬ (200 : Int) < sg + L.length := by omega
    simp [hid_cons, c1, c2, Kont_run]
    refine comp_filt L enc (fun _ => false) (fun f => .fz f.enc) (by rw [lim_def]; omega) (fun g hg => ?_) ?_
    · simp [shaped_ok (n := m) (by omega) g (hsm g hg)]
    have c3 : told.length < LIM := by rw [lim_def]; omega
    simp [c3, hid_cons, Kont_run]
    refine comp_all L enc (fun f => .ul (fzs (encs (inner f)))) (by rw [lim_def]; omega) (fun g hg => ?_) ?_
    · simp [inner_ok (n := m) (by omega) g]
    rw [us_ul_map]
    have e : (L.map fun x => encs (inner x)).flatten = encs (L.flatMap inner) := by
      rw [encs, List.map_flatMap, List.flatMap_def]; rfl
    have hl2 := len_szs (L.flatMap inner)
    have hl3 : (L.map fun x => encs (inner x)).flatten.length ≤ LIM := by rw [e, encs_len, lim_def]; omega
    rw [sum2_ok _ _ hl3, e]
    simp
    exact ⟨szs (L.flatMap inner), by omega, L.flatMap inner, _, _, _, ⟨rfl, rfl, rfl⟩, rfl, rfl, by simp; omega, by omega, by omega⟩
theorem isf_ok {n : Nat} (h : 4 ≤ n) (f : Fm) (hd : f.sz ≤ 50) : callF Ir.defs n "is_formula_in" [.fz f.enc] = .ok (.fz (.bl true)) [none] := by
  obtain ⟨m, rfl, _⟩ := suc h
  obtain ⟨ds, e⟩ := levels_ok (n := m) (by omega) f hd
  refine eq_of ?_
  rw [Cl.c_is_formula_in]
  simp [Ir.d_is_formula_in, e]
theorem chk_ok {n : Nat} (h : 5 ≤ n) (f : Fm) (hd : f.sz ≤ 50) : callF Ir.defs n "check_formula" [.fz f.enc] = .ok (.fz .non) [none] := by
  obtain ⟨m, rfl, _⟩ := suc h
  refine eq_of ?_
  rw [Cl.c_check_formula]
  simp [Ir.d_check_formula, Kont_run, isf_ok (n := m) (by omega) f hd]
/-! parts -/
def parts : Fm → List Fm
  | .bin w l r => .bin w l r :: (parts l ++ parts r)
  | .is x => [.is x]
  | .no => [.no]
theorem parts_eq (f : Fm) : parts f = f :: (inner f).flatMap parts := by cases f <;> simp [parts, inner]
theorem parts_len (f : Fm) : (parts f).length = f.sz := by
  induction f with
  | is x => rfl
  | no => rfl
  | bin w l r h1 h2 => simp [parts, sz, h1, h2]
theorem parts_sz {g : Fm} : ∀ {f : Fm}, g ∈ parts f → g.sz ≤ f.sz
  | .is x, h => by simp [parts] at h; subst h; simp
  | .no, h => by simp [parts] at h; subst h; simp
  | .bin w l r, h => by
    simp [parts] at h
    rcases h with rfl | h | h
    · simp
    · have := parts_sz h; simp only [sz]; omega
    · have := parts_sz h; simp only [sz]; omega
theorem len_flat (S : List Fm) : S.length ≤ (S.flatMap parts).length := by
  induction S with
  | nil => simp
  | cons a S ih => simp only [List.flatMap_cons, List.length_append, List.length_cons, parts_len] at ih ⊢; have := sz_pos a; omega
theorem parts_ok {n : Nat} (h : 2 ≤ n) (f : Fm) (hd : f.sz ≤ 50) : callF Ir.defs n "parts_in" [.fz f.enc] = .ok (.ul (fzs (encs (parts f)))) [none] := by
  obtain ⟨m, rfl, _⟩ := suc h
  refine eq_of ?_
  rw [Cl.c_parts_in]
  simp [Ir.d_parts_in, Kont_run]
  refine while_inv (fun k ρ => ∃ (T S : List Fm) (x : Option U), ρ = [some (.fz f.enc), some (.ul (fzs (encs T))), some (.ul (fzs (encs S.reverse))), x] ∧ T ++ S.flatMap parts = parts f ∧ szs S = k) (fun k ρ h => ?_) FUEL f.sz _ ⟨[], [f], none, by simp [encs], by simp, by simp [szs]⟩ (by unfold FUEL; omega)
  obtain ⟨T, S, x, rfl, h1, hk⟩ := h
  have hlen := congrArg List.length h1
  rw [parts_len] at hlen
  simp at hlen
  have hsm : Sm S.reverse := by
    intro g hg
    have : g ∈ parts f := by
      rw [← h1]; simp
      exact .inr ⟨g, by simpa using hg, by rw [parts_eq]; simp⟩
    have := parts_sz this
    have := dp_le g
    omega
  cases S with
  | nil => simp [Kont_run] at h1 hlen ⊢; rw [h1]
  | cons g S =>
    simp only [List.reverse_cons, encs_app, encs_cons, fzs_append, encs_nil, fzs_cons, fzs_nil] at hsm ⊢
    have hz := szs_flat [g]
    simp [szs] at hz hk
    have e1 : encs S.reverse ++ [g.enc] = encs (S.reverse ++ [g]) := by simp [encs]
    simp at hsm
    have hi : (inner g).length ≤ 2 := by cases g <;> simp [inner]
    have hlen := congrArg List.length h1
    rw [parts_len, List.flatMap_cons, List.length_append, List.length_append, parts_len] at hlen
    have hq := len_flat S
    have c1 : T.length < LIM := by rw [lim_def]; omega
    have c2 : S.length + (inner g).length ≤ LIM := by rw [lim_def]; omega
    simp [hsm, inner_ok (n := m) (by omega) g, c1, c2, Kont_run]
    refine ⟨szs (inner g ++ S), by simp [szs]; omega, T ++ [g], inner g ++ S, ⟨by simp [encs], by simp [encs, fzs]⟩, ?_, rfl⟩
    rw [← h1, List.flatMap_cons, parts_eq g]
    simp
theorem inner_sum (w : Fm → Int) (c : Fm → Int) (hw : ∀ f, w f = c f + ((inner f).map w).sum) (f : Fm) : ((parts f).map c).sum = w f := by
  induction f with
  | is x => rw [hw]; simp [parts, inner]
  | no => rw [hw]; simp [parts, inner]
  | bin x l r h1 h2 => rw [hw]; simp [parts, inner, h1, h2]
end Sp

/-! Sp2: rules of sequents, as the program has them. -/
namespace Sp
open Pv PySem Pv.Fm Km
theorem tup_of {u : U} {ds : List D} (h : u.d = .tup ds) : ∃ us, tupU u = some us ∧ Us.d us = ds := by
  cases u with
  | fz d => simp at h; subst h; exact ⟨_, rfl, by simp⟩
  | ul us => simp at h
  | ut us => simp at h; exact ⟨_, rfl, h⟩
theorem tup2_of {u : U} {a b : D} (h : u.d = .tup [a, b]) : ∃ x y, tupU u = some [x, y] ∧ x.d = a ∧ y.d = b := by
  obtain ⟨us, e, h⟩ := tup_of h
  rcases us with _ | ⟨x, _ | ⟨y, _ | ⟨z, us⟩⟩⟩ <;> simp at h
  exact ⟨x, y, e, h.1, h.2⟩
theorem tup3_of {u : U} {a b c : D} (h : u.d = .tup [a, b, c]) : ∃ x y z, tupU u = some [x, y, z] ∧ x.d = a ∧ y.d = b ∧ z.d = c := by
  obtain ⟨us, e, h⟩ := tup_of h
  rcases us with _ | ⟨x, _ | ⟨y, _ | ⟨z, _ | ⟨w, us⟩⟩⟩⟩ <;> simp at h
  exact ⟨x, y, z, e, h.1, h.2.1, h.2.2⟩
def encSq (q : Sq) : D := .tup [.lst (encs q.1), q.2.enc]
def encWays (ws : List (List Sq)) : List D := ws.map fun w => .lst (w.map encSq)
def LN (l : List Fm) (k : Nat) : Prop := ∀ f ∈ l, f.sz ≤ k
theorem LN.sm {l : List Fm} (h : LN l 50) : Sm l := fun f hf => by have := h f hf; have := dp_le f; omega
theorem isq_ok {n : Nat} (h : 5 ≤ n) {u : U} (l : List Fm) (r : Fm) (hu : u.d = .lst (encs l)) (hl : l.length ≤ 40) (h1 : LN l 50) (h2 : r.sz ≤ 50) : callF Ir.defs n "is_sequent" [u, .fz r.enc] = .ok (.fz (.bl true)) [none, none] := by
  obtain ⟨m, rfl, _⟩ := suc h
  refine eq_of ?_
  rw [Cl.c_is_sequent]
  have c1 : ¬ (40 : Int) < l.length := by omega
  simp [Ir.d_is_sequent, hu, c1, hid_cons, Kont_run]
  refine comp_filt l enc (fun _ => false) (fun f => .fz f.enc) (by rw [lim_def]; omega) (fun g hg => ?_) ?_
  · simp [isf_ok (n := m) (by omega) g (h1 g hg)]
  simp [isf_ok (n := m) (by omega) r h2, Kont_run]
theorem tk_ok {n : Nat} (h : 1 ≤ n) (l : List Fm) (f : Fm) (h1 : Sm l) (h2 : f.dp ≤ 60) : callF Ir.defs n "is_taken" [.fz (.lst (encs l)), .fz f.enc] = .ok (.fz (.bl (putOne l f).isSome)) [none, none] := by
  obtain ⟨m, rfl, _⟩ := suc h
  refine eq_of ?_
  rw [Cl.c_is_taken]
  have key : ∀ (x : Lt), (Fm.is x) ∈ l ∨ ¬ (Fm.is x) ∈ l := fun x => Classical.em _
  cases f with
  | is x => simp [Ir.d_is_taken, Kont_run, putOne]
  | no => simp [Ir.d_is_taken, Kont_run, putOne]
  | bin w a b =>
    have ha := dp_l h2
    cases w with
    | and => simp [Ir.d_is_taken, Kont_run, putOne]
    | or => simp [Ir.d_is_taken, Kont_run, putOne]
    | «then» =>
      cases a with
      | is x => rcases key x with k | k <;> simp [Ir.d_is_taken, Kont_run, putOne, h1, k]
      | no => simp [Ir.d_is_taken, Kont_run, putOne]
      | bin w2 c d => cases w2 <;> simp [Ir.d_is_taken, Kont_run, putOne]
theorem pf_ok {n : Nat} (h : 1 ≤ n) (l : List Fm) (f : Fm) {ms : List (List Fm)} (h1 : putOne l f = some ms) : callF Ir.defs n "put_for" [.fz f.enc] = .ok (.ul (ms.map fun k => .ul (fzs (encs k)))) [none] := by
  obtain ⟨m, rfl, _⟩ := suc h
  refine eq_of ?_
  rw [Cl.c_put_for]
  cases f with
  | is x => simp [putOne] at h1
  | no => simp [putOne] at h1
  | bin w a b =>
    cases w with
    | and => simp [putOne] at h1; subst h1; simp [Ir.d_put_for, Kont_run, encs_cons]
    | or => simp [putOne] at h1; subst h1; simp [Ir.d_put_for, Kont_run, encs_cons]
    | «then» =>
      cases a with
      | is x => simp [putOne] at h1; obtain ⟨_, rfl⟩ := h1; simp [Ir.d_put_for, Kont_run, encs_cons]
      | no => simp [putOne] at h1; subst h1; simp [Ir.d_put_for, Kont_run, encs_cons]
      | bin w2 c d => cases w2 <;> simp [putOne] at h1 <;> subst h1 <;> simp [Ir.d_put_for, Kont_run, encs_cons, Th]
theorem nest_ok {n : Nat} (h : 1 ≤ n) (f : Fm) : callF Ir.defs n "is_nested" [.fz f.enc] = .ok (.fz (.bl (nestOf f).isSome)) [none] := by
  obtain ⟨m, rfl, _⟩ := suc h
  refine eq_of ?_
  rw [Cl.c_is_nested]
  cases f with
  | is x => simp [Ir.d_is_nested, Kont_run, nestOf]
  | no => simp [Ir.d_is_nested, Kont_run, nestOf]
  | bin w a b =>
    cases w with
    | and => simp [Ir.d_is_nested, Kont_run, nestOf]
    | or => simp [Ir.d_is_nested, Kont_run, nestOf]
    | «then» =>
      cases a with
      | is x => simp [Ir.d_is_nested, Kont_run, nestOf]
      | no => simp [Ir.d_is_nested, Kont_run, nestOf]
      | bin w2 c d => cases w2 <;> simp [Ir.d_is_nested, Kont_run, nestOf]
theorem at_encs {l : List Fm} {i : Nat} {f : Fm} (h : l[i]? = some f) : L2.atI (encs l) (i : Int) = some f.enc := atI_n (by simp [encs, h])
theorem put_len {l : List Fm} {f : Fm} {ms : List (List Fm)} (h : putOne l f = some ms) : ms.length ≤ 2 := by
  unfold putOne at h
  split at h
  all_goals first | (cases h; done) | (cases h; simp; done) | (split at h <;> cases h; simp)
theorem nw_ok {n : Nat} (h : 1 ≤ n) (l : List Fm) (r : Fm) (i : Nat) (a b c : Fm) (hi : l[i]? = some (.bin .then (.bin .then a b) c)) (hl : l.length ≤ 40) : (callF Ir.defs n "nested_way" [.fz (.lst (encs l)), .fz r.enc, .fz (.int i)]).G fun u os => u.d = .lst ((nestWay l r i a b c).map encSq) ∧ os = [none, none, none] := by
  obtain ⟨m, rfl, _⟩ := suc h
  rw [Cl.c_nested_way]
  have hi' : i < l.length := (List.getElem?_eq_some_iff.mp hi).1
  simp [Ir.d_nested_way, at_encs hi]
  refine Kont.mk ?_
  simp (disch := first | omega | (simp; done)) [limT]
  refine Kont.mk ?_
  simp (disch := first | omega | (simp; done)) [limT]
  simp [nestWay, encSq, encs, Th]
theorem zip_encs (l : List Fm) (k : Nat) : ((encs l).zipIdx k).map (fun p => D.tup [.int p.2, p.1]) = (l.zipIdx k).map fun p => D.tup [.int p.2, p.1.enc] := by
  induction l generalizing k with
  | nil => rfl
  | cons f l ih => simp [encs] at ih ⊢; exact ih (k + 1)
theorem firstT_zip (left : List Fm) (i : Nat) : ∀ fs : List Fm, firstT left i fs = ((fs.zipIdx i).filter (fun q => (putOne left q.1).isSome)).head?.bind fun q => (putOne left q.1).map fun m => (q.2, m)
  | [] => rfl
  | f :: fs => by
    simp only [firstT, List.zipIdx_cons, List.filter_cons]
    cases h : putOne left f with
    | none => simpa using firstT_zip left (i + 1) fs
    | some m => simp [h]
/-- the words of rules, as the program has them: with the place -/
def PlD : String × List (List Sq) → D → D := fun p at_ => .tup [.str (Str.ofString p.1), .lst (encWays p.2), at_]
theorem ri_tail {m : Nat} (h : 1 ≤ m) (l : List Fm) (r : Fm) (hl : l.length ≤ 40) (h1 : LN l 50) (hr : r.dp ≤ 60) {w : String} (h0 : opIdx r.enc (.int 0) = some (.fz (.str (Str.ofString w)))) (hs : (w = "or" ∧ ∃ a b, r = .bin .or a b) ∨ (w ≠ "or" ∧ sides l r = []))
    {T : U → Pv.Env → Prop} {N B C : Pv.Env → Prop} (hT : ∀ u ρ, (∃ a, u.d = PlD (match firstT l 0 l with
      | some (i, more) => ("taken", [more.map fun m => (l.take i ++ m ++ l.drop (i + 1), r)])
      | none => ("tried", sides l r ++ nests l r)) a) → T u ρ) : Kont (callF Ir.defs m) (sdrop 4 Ir.d_rule_in.body) [] N T B C [some (.fz (.lst (encs l))), some (.fz r.enc), none, none, none, none, none] := by
  have hsm := h1.sm
  have hz : ∀ q ∈ l.zipIdx, l[q.2]? = some q.1 := fun q hq => List.mem_zipIdx_iff_getElem?.mp hq
  have tk : ∀ q ∈ l.zipIdx, callF Ir.defs m "is_taken" [.fz (.lst (encs l)), .fz q.1.enc] = .ok (.fz (.bl (putOne l q.1).isSome)) [none, none] := fun q hq => tk_ok (by omega) l q.1 hsm (hsm _ (List.mem_of_getElem? (hz q hq)))
  have hft := firstT_zip l 0 l
  refine Kont.mk ?_
  simp only [sdrop, Ir.d_rule_in]
  simp [hid_cons, zip_encs]
  refine comp_filt l.zipIdx (fun p => .tup [.int p.2, p.1.enc]) (fun q => (putOne l q.1).isSome) (fun q => .fz (.int q.2)) (by rw [lim_def]; simp; omega) (fun q hq => ?_) ?_
  · simp [tk q hq]
  generalize e : l.zipIdx.filter (fun q => (putOne l q.1).isSome) = L at hft ⊢
  simp [us_fz_map]
  refine Kont.mk ?_
  simp [us_fz_map]
  cases L with
  | nil =>
    simp at hft
    rw [hft] at hT
    simp
    refine Kont.mk ?_
    have fin : ∀ (sd : U) (q : List (List Sq)), sd.d = .lst (encWays (sides l r)) → q = sides l r → Kont (callF Ir.defs m) (sdrop 7 Ir.d_rule_in.body) [] N T B C [some (.fz (.lst (encs l))), some (.fz r.enc), some (.fz (.lst [])), some sd, none, none, none] := by
      intro sd _ hsd _
      refine Kont.mk ?_
      simp only [sdrop, Ir.d_rule_in]
      simp [hid_cons, zip_encs]
      refine comp_filtD l.zipIdx (fun p => .tup [.int p.2, p.1.enc]) (fun q => (nestOf q.1).isSome) (fun p => (nestOf p.1).elim .non fun x => .lst ((nestWay l r p.2 x.1 x.2.1 x.2.2).map encSq)) (by rw [lim_def]; simp; omega) (fun q hq => ?_) ?_
      · simp [nest_ok (n := m) (by omega) q.1]
        intro hn
        obtain ⟨⟨a, b, c⟩, hx⟩ := Option.isSome_iff_exists.mp hn
        obtain ⟨u, os, e1, e2, e3⟩ := (nw_ok (n := m) (by omega) l r q.2 a b c (by
          rw [hz q hq]
          unfold nestOf at hx
          split at hx
          · rename_i e4
            cases hx
            rw [e4]
          · cases hx) hl).ex
        subst e3
        simp [e1, e2, hx]
      intro acc hacc
      have hacc2 : Us.d acc = encWays (nests l r) := by
        rw [hacc]
        exact filt_map (fun p : Fm × Nat => nestOf p.1) (fun p x => D.lst ((nestWay l r p.2 x.1 x.2.1 x.2.2).map encSq)) .non (fun p x => nestWay l r p.2 x.1 x.2.1 x.2.2) (fun w => D.lst (w.map encSq)) (fun p x _ => rfl) l.zipIdx
      have c1 : (encWays (sides l r)).length ≤ 2 := by
        unfold encWays sides
        split <;> simp
      have c2 : (encWays (nests l r)).length ≤ 40 := by
        unfold encWays nests
        have := List.length_filterMap_le (fun p : Fm × Nat => (nestOf p.1).map fun q => nestWay l r p.2 q.1 q.2.1 q.2.2) l.zipIdx
        simp at this ⊢
        omega
      rw [hacc2, hsd]
      simp (disch := first | omega | (simp; done)) only [o_addL, limT, if_true]
      refine hT _ _ ⟨.non, ?_⟩
      simp [PlD, encWays]
    simp [h0]
    rcases hs with ⟨rfl, a, b, rfl⟩ | ⟨hw, hs⟩
    · simp
      exact fin _ _ (by simp [sides, encWays, encSq]) rfl
    · simp [hw]
      exact fin _ _ (by simp [hs, encWays]) rfl
  | cons q L =>
    have hq : q ∈ l.zipIdx.filter (fun q => (putOne l q.1).isSome) := by rw [e]; simp
    obtain ⟨hq1, hq2⟩ := List.mem_filter.mp hq
    obtain ⟨ms, hms⟩ := Option.isSome_iff_exists.mp hq2
    have hq3 := hz q hq1
    have hqi : q.2 < l.length := (List.getElem?_eq_some_iff.mp hq3).1
    simp [hms] at hft
    rw [hft] at hT
    simp
    refine Kont.mk ?_
    simp
    refine Kont.mk ?_
    simp [at_encs hq3, pf_ok (n := m) (by omega) l q.1 hms, hid_cons]
    rw [us_ul_map]
    have hk := put_sz hms
    refine comp_allD ms (fun k => .lst (encs k)) (fun k => encSq (l.take q.2 ++ k ++ l.drop (q.2 + 1), r)) ?_ (fun k hk1 => ?_) ?_
    · have : ms.length ≤ 2 := put_len hms
      rw [lim_def]; omega
    · have hk2 := (hk k hk1).1
      simp (disch := first | omega | (simp; done)) [limT]
      simp [encSq, encs]
    · intro acc hacc
      simp
      refine hT _ _ ⟨.int q.2, ?_⟩
      simp [PlD, encWays, hacc]
theorem ri_ok {n : Nat} (h : 2 ≤ n) (l : List Fm) (r : Fm) (hl : l.length ≤ 40) (h1 : LN l 50) (h2 : r.sz ≤ 50) : (callF Ir.defs n "rule_in" [.fz (.lst (encs l)), .fz r.enc]).G fun u os => (∃ a, u.d = PlD (ruleM l r) a) ∧ os = [none, none] := by
  obtain ⟨m, rfl, _⟩ := suc h
  rw [Cl.c_rule_in]
  have hsm := h1.sm
  have hr : r.dp ≤ 60 := by have := dp_le r; omega
  simp [Ir.d_rule_in, hsm, hr]
  refine ite_mk (fun hn => ?_) (fun hn => ?_)
  · simp [Kont_run, ruleM, hn, PlD, encWays]
  refine Kont.mk ?_
  simp [hsm, hr]
  refine ite_mk (fun hn2 => ?_) (fun hn2 => ?_)
  · simp [Kont_run, ruleM, hn, hn2, PlD, encWays]
  cases r with
  | bin w a b =>
    cases w with
    | «then» =>
      refine Kont.mk ?_
      simp
      refine Kont.mk ?_
      simp (disch := first | omega | (simp; done)) [limT, ruleM, hn, hn2, PlD, encWays, encSq, encs]
    | and =>
      refine Kont.mk ?_
      simp
      refine Kont.mk ?_
      simp
      refine Kont.mk ?_
      simp [ruleM, hn, hn2, PlD, encWays, encSq, encs]
    | or =>
      refine Kont.mk ?_
      simp
      refine Kont.mk ?_
      simp
      refine ri_tail (by omega) l _ hl h1 hr (w := "or") rfl (.inl ⟨rfl, _, _, rfl⟩) fun u ρ hu => ?_
      cases e : firstT l 0 l with
      | none => simpa [ruleM, hn, hn2, e] using hu
      | some p => simpa [ruleM, hn, hn2, e] using hu
  | is x =>
    refine Kont.mk ?_
    simp
    refine Kont.mk ?_
    simp
    refine ri_tail (by omega) l _ hl h1 hr (w := "is") rfl (.inr ⟨by decide, rfl⟩) fun u ρ hu => ?_
    cases e : firstT l 0 l with
    | none => simpa [ruleM, hn, hn2, e] using hu
    | some p => simpa [ruleM, hn, hn2, e] using hu
  | no =>
    refine Kont.mk ?_
    simp
    refine Kont.mk ?_
    simp
    refine ri_tail (by omega) l _ hl h1 hr (w := "no") rfl (.inr ⟨by decide, rfl⟩) fun u ρ hu => ?_
    cases e : firstT l 0 l with
    | none => simpa [ruleM, hn, hn2, e] using hu
    | some p => simpa [ruleM, hn, hn2, e] using hu
end Sp

/-! Sp3: rule_at, weight_of. -/
namespace Sp
open Pv PySem Pv.Fm Km
def SqN (q : Sq) : Prop := q.1.length ≤ 40 ∧ LN q.1 50 ∧ q.2.sz ≤ 50
theorem cs_ok {n : Nat} (h : 4 ≤ n) (qs : List Sq) (hq : ∀ q ∈ qs, SqN q) (hl : qs.length ≤ 1000) : callF Ir.defs n "check_sequents" [.fz (.lst (qs.map encSq))] = .ok (.fz .non) [none] := by
  obtain ⟨m, rfl, _⟩ := suc h
  refine eq_of ?_
  rw [Cl.c_check_sequents]
  simp [Ir.d_check_sequents, hid_cons]
  refine comp_filt qs encSq (fun _ => false) (fun q => .fz (.lst (encs q.1))) (by rw [lim_def]; omega) (fun q hq1 => ?_) ?_
  · obtain ⟨h1, h2, h3⟩ := hq q hq1
    simp [encSq]
    omega
  simp
  refine Kont.mk ?_
  simp
  refine for_inv (fun r ρ => ∃ r' x y, r = r'.map encSq ∧ (∀ q ∈ r', SqN q) ∧ ρ = [some (.fz (.lst (qs.map encSq))), x, y, none]) (fun ρ h => ?_) (fun d r ρ h => ?_) _ _ ⟨qs, none, none, rfl, hq, rfl⟩
  · obtain ⟨r', x, y, e1, e2, rfl⟩ := h
    simp
  · obtain ⟨r', x, y, e1, e2, rfl⟩ := h
    cases r' with
    | nil => simp at e1
    | cons q r' =>
      simp only [List.map_cons, List.cons.injEq] at e1
      obtain ⟨rfl, rfl⟩ := e1
      obtain ⟨h1, h2, h3⟩ := e2 q (by simp)
      have e3 : encs q.1 ++ [q.2.enc] = encs (q.1 ++ [q.2]) := by simp [encs]
      simp (disch := omega) [encSq, hid_cons, limT]
      rw [e3]
      refine comp_filt (q.1 ++ [q.2]) enc (fun _ => false) (fun f => .fz f.enc) (by rw [lim_def]; simp; omega) (fun f hf => ?_) ?_
      · have hs : f.sz ≤ 50 := by
          rcases List.mem_append.mp hf with h | h
          · exact h2 f h
          · simp at h; subst h; exact h3
        obtain ⟨ds, e⟩ := levels_ok (n := m) (by omega) f hs
        simp [e]
      simp
      exact ⟨r', rfl, fun a b hq => e2 (a, b) (by simp [hq])⟩
/-- what rule_at gives -/
def uSq (q : Sq) : U := .ut [.ul (fzs (encs q.1)), .fz q.2.enc]
def uWays (ws : List (List Sq)) : U := .ul (ws.map fun w => .ul (w.map uSq))
def uRule (p : String × List (List Sq)) : U := .ut [.fz (.str (Str.ofString p.1)), uWays p.2]
theorem way_len (l : List Fm) (r : Fm) : ∀ w ∈ (ruleM l r).2, w.length ≤ 2 := by
  unfold ruleM
  split
  · simp
  split
  · simp
  split
  · simp
  · simp
  · split
    · rename_i i more e
      obtain ⟨f, ef, hp⟩ := firstT_at e
      have := put_len hp
      simpa using this
    · intro w hw
      rcases List.mem_append.mp hw with hw | hw
      · unfold sides at hw
        split at hw
        · simp at hw; rcases hw with rfl | rfl <;> simp
        · simp at hw
      · unfold nests at hw
        obtain ⟨p, _, h2⟩ := List.mem_filterMap.mp hw
        obtain ⟨x, _, rfl⟩ := Option.map_eq_some_iff.mp h2
        simp [nestWay]
theorem ways_len2 (l : List Fm) (r : Fm) (hl : l.length ≤ 39) : (ruleM l r).2.length ≤ 100 := by
  unfold ruleM
  split
  · simp
  split
  · simp
  split
  · simp
  · simp
  · split
    · simp
    · have h1 : (sides l r).length ≤ 2 := by unfold sides; split <;> simp
      have h2 : (nests l r).length ≤ l.zipIdx.length := List.length_filterMap_le _ _
      simp at h2 ⊢
      omega
theorem flat_len {α : Type} {k : Nat} : ∀ {ws : List (List α)}, (∀ w ∈ ws, w.length ≤ k) → ws.flatten.length ≤ k * ws.length
  | [], _ => by simp
  | w :: ws, h => by
    have h1 := h w (by simp)
    have h2 := flat_len (ws := ws) fun x hx => h x (by simp [hx])
    simp only [List.flatten_cons, List.length_append, List.length_cons, Nat.mul_succ]; omega
theorem ways_len (l : List Fm) (r : Fm) (hl : l.length ≤ 39) : (ruleM l r).2.flatten.length ≤ 1000 := by
  have h1 := flat_len (way_len l r)
  have h2 := ways_len2 l r hl
  omega
theorem ra_ok {n : Nat} (h : 6 ≤ n) {ul : U} (l : List Fm) (r : Fm) (hu : ul.d = .lst (encs l)) (hl : l.length ≤ 39) (h1 : LN l 50) (h2 : r.sz ≤ 50) : callF Ir.defs n "rule_at" [ul, .fz r.enc] = .ok (uRule (ruleM l r)) [none, none] := by
  obtain ⟨m, rfl, _⟩ := suc h
  refine eq_of ?_
  rw [Cl.c_rule_at]
  have hf : ∀ w ∈ (ruleM l r).2, ∀ q ∈ w, SqN q := fun w hw q hq => rule_fits (n := 39) ⟨hl, h1, h2⟩ w hw q hq
  simp [Ir.d_rule_at, hu, isq_ok (n := m) (u := .fz (.lst (encs l))) (by omega) l r rfl (by omega) h1 h2]
  refine Kont.mk ?_
  obtain ⟨u, os, e1, ⟨a, e2⟩, rfl⟩ := (ri_ok (n := m) (by omega) l r (by omega) h1 h2).ex
  obtain ⟨x, y, z, e3, e4, e5, e6⟩ := tup3_of e2
  have ex := fz_str e4
  subst ex
  simp [e1, e3]
  refine Kont.mk ?_
  simp [e5]
  have hfl : ((ruleM l r).2.map fun w => w.map encSq).flatten = (ruleM l r).2.flatten.map encSq := by
    rw [List.map_flatten]
  have hln := ways_len l r hl
  have hfn : ((ruleM l r).2.map fun w => w.map encSq).flatten.length ≤ LIM := by rw [hfl, List.length_map, lim_def]; omega
  have hs := sum2_ok (fun w : List Sq => w.map encSq) (ruleM l r).2 hfn
  rw [hfl] at hs
  unfold encWays
  rw [hs]
  have hcs := cs_ok (n := m) (by omega) (ruleM l r).2.flatten (fun q hq => by
    obtain ⟨w, hw, hq⟩ := List.mem_flatten.mp hq
    exact hf w hw q hq) (by omega)
  simp [hcs, -List.map_flatten]
  refine Kont.mk ?_
  simp [hid_cons]
  have hwl : (ruleM l r).2.length ≤ 100 := ways_len2 l r hl
  refine comp_all (ruleM l r).2 (fun w => .lst (w.map encSq)) (fun w => .ul (w.map uSq)) (by rw [lim_def]; omega) (fun w hw => ?_) ?_
  · simp [hid_cons]
    have hwl2 : w.length ≤ 2 := way_len l r w hw
    refine comp_all w encSq uSq (by rw [lim_def]; omega) (fun q hq => ?_) ?_
    · simp [encSq, uSq]; rfl
    · simp
  · simp [uRule, uWays]; rfl
def cw : Fm → Int
  | .bin .and _ _ => 2
  | _ => 1
theorem wo_ok {n : Nat} (h : 6 ≤ n) (f : Fm) (hd : f.sz ≤ 50) : callF Ir.defs n "weight_of" [.fz f.enc] = .ok (.fz (.int (wt f))) [none] := by
  obtain ⟨m, rfl, _⟩ := suc h
  refine eq_of ?_
  rw [Cl.c_weight_of]
  simp [Ir.d_weight_of, chk_ok (n := m) (by omega) f hd]
  refine Kont.mk ?_
  simp
  refine Kont.mk ?_
  simp [parts_ok (n := m) (by omega) f hd]
  have hw : ((parts f).map cw).sum = wt f := inner_sum wt cw (fun g => by
    cases g with
    | is x => simp [wt, cw, inner]
    | no => simp [wt, cw, inner]
    | bin w a b => cases w <;> simp [wt, cw, inner] <;> omega) f
  refine for_inv (fun r ρ => ∃ r' x k, r = encs r' ∧ ρ = [some (.fz f.enc), some (.fz (.int k)), x] ∧ k + (r'.map cw).sum = wt f) (fun ρ h => ?_) (fun d r ρ h => ?_) _ _ ⟨parts f, none, 0, rfl, rfl, by omega⟩
  · obtain ⟨r', x, k, e1, rfl, e2⟩ := h
    have : r' = [] := by cases r' with
      | nil => rfl
      | cons a b => simp [encs] at e1
    subst this
    simp at e2
    simp [Kont_run, e2]
  · obtain ⟨r', x, k, e1, rfl, e2⟩ := h
    cases r' with
    | nil => simp at e1
    | cons g r' =>
      simp only [encs_cons, List.cons.injEq] at e1
      obtain ⟨rfl, rfl⟩ := e1
      simp only [List.map_cons, List.sum_cons] at e2
      cases g with
      | is y => simp; exact ⟨r', rfl, _, _, ⟨rfl, rfl⟩, by simp only [cw] at e2; omega⟩
      | no => simp; exact ⟨r', rfl, _, _, ⟨rfl, rfl⟩, by simp only [cw] at e2; omega⟩
      | bin w a b => cases w <;> simp <;> exact ⟨r', rfl, _, _, ⟨rfl, rfl⟩, by simp only [cw] at e2; omega⟩
end Sp

/-! Sp4: told and due, copies. -/
namespace Sp
open Pv PySem
mutual
/-- the longest row -/
def wd : D → Nat
  | .tup ds => max ds.length (wds ds)
  | .lst ds => max ds.length (wds ds)
  | _ => 0
def wds : List D → Nat
  | [] => 0
  | d :: ds => max (wd d) (wds ds)
end
@[simp] theorem wd_tup (ds : List D) : wd (.tup ds) = max ds.length (wds ds) := by simp only [wd]
@[simp] theorem wd_lst (ds : List D) : wd (.lst ds) = max ds.length (wds ds) := by simp only [wd]
@[simp] theorem wd_str (s : Str) : wd (.str s) = 0 := by simp only [wd]
@[simp] theorem wd_int (s : Int) : wd (.int s) = 0 := by simp only [wd]
@[simp] theorem wd_non : wd .non = 0 := by simp only [wd]
@[simp] theorem wds_nil : wds [] = 0 := by simp only [wds]
@[simp] theorem wds_cons (d : D) (ds : List D) : wds (d :: ds) = max (wd d) (wds ds) := by simp only [wds]
@[simp] theorem wds_app (a b : List D) : wds (a ++ b) = max (wds a) (wds b) := by
  induction a with
  | nil => simp
  | cons x a ih => simp [ih, Nat.max_assoc]
theorem mem_le {x : D} : ∀ {ds : List D}, x ∈ ds → wd x ≤ wds ds ∧ x.dep ≤ Ds.dep ds ∧ (Ds.good ds = true → x.good = true)
  | [], h => by simp at h
  | d :: ds, h => by
    rcases List.mem_cons.mp h with rfl | h
    · simp only [wds, Ds.dep, Ds.good, Bool.and_eq_true]; exact ⟨by omega, by omega, fun h => h.1⟩
    · obtain ⟨h1, h2, h3⟩ := mem_le h
      simp only [wds, Ds.dep, Ds.good, Bool.and_eq_true]
      exact ⟨by omega, by omega, fun h => h3 h.2⟩
theorem enum_mem {ds : List D} {p : D × Nat} (h : p ∈ ds.zipIdx) : ds[p.2]? = some p.1 ∧ p.1 ∈ ds := by
  have := List.mem_zipIdx_iff_getElem?.mp h
  exact ⟨this, List.mem_of_getElem? this⟩
theorem all_true (l : List Bool) (h : ∀ b ∈ l, b = true) : l.all id = true := by
  simpa using h
theorem ex_ok : ∀ (k : Nat) {d : D} {n : Nat} {u v : U}, d.dep ≤ k → k < n → d.good = true → wd d ≤ 1000 → k ≤ 60 → u.d = d → v.d = d → callF Ir.defs n "_law_exact" [u, v] = .ok (.fz (.bl true)) [none, none] := by
  intro k
  induction k with
  | zero =>
    intro d n u v h1 h2 h3 h4 h6 hu hv
    obtain ⟨m, rfl, _⟩ := suc (n := n) (k := 0) (by omega)
    refine eq_of ?_
    rw [Cl.c__law_exact]
    cases d with
    | non => simp [Ir.d__law_exact, hu, hv, Kont_run]
    | int i => simp [Ir.d__law_exact, hu, hv, Kont_run]
    | str i => simp at h3; simp [Ir.d__law_exact, hu, hv, Kont_run, eq_str' _ _ _ h3 h3]
    | tup ds => simp at h1
    | lst ds => simp at h1
    | _ => simp [D.good] at h3
  | succ k ih =>
    intro d n u v h1 h2 h3 h4 h6 hu hv
    obtain ⟨m, rfl, hm⟩ := suc (n := n) (k := k + 1) (by omega)
    have many : ∀ (ds : List D), Ds.dep ds ≤ k → Ds.good ds = true → ds.length ≤ 1000 → wds ds ≤ 1000 → ∀ (t : D), (t = .lst ds ∨ t = .tup ds) → ∀ (Q : List U → Pv.Env → Prop), (∀ acc, Us.d acc = ds.map (fun _ => .bl true) → Q acc [some (.fz t), some (.fz t), none, none]) →
        (evComp [] (Tg.tup [2, 3]) [2, 3] (fun ρ => evEs (callF Ir.defs m) [] Es.nil ρ) (fun ρ => evE (callF Ir.defs m) [] (.call "_law_exact" (.cons (.op .idx (.cons (.var 0) (.cons (.var 2) .nil))) (.cons (.var 3) .nil)) []) ρ) (ds.zipIdx.map fun p => D.tup [.int p.2, p.1]) [some (.fz t), some (.fz t), none, none] []).G Q := by
      intro ds g1 g2 g3 g4 t ht Q hq
      refine comp_allD ds.zipIdx (fun p => D.tup [.int p.2, p.1]) (fun _ => .bl true) (by rw [lim_def]; simp; omega) (fun p hp => ?_) (fun acc hacc => hq acc ?_)
      · obtain ⟨e1, e2⟩ := enum_mem hp
        obtain ⟨e3, e4, e5⟩ := mem_le e2
        have e6 := ih (d := p.1) (n := m) (u := .fz p.1) (v := .fz p.1) (by omega) (by omega) (e5 g2) (by omega) (by omega) rfl rfl
        have e7 := atI_n e1
        rcases ht with rfl | rfl <;> simp [e6, e7]
      · rw [hacc, List.map_const', List.map_const', List.length_zipIdx]
    have fin : ∀ (ds : List D) (acc : List U), Us.d acc = ds.map (fun _ => .bl true) → opF .all1 [.lst (Us.d acc)] = some (.fz (.bl true)) := by
      intro ds acc e
      rw [e]
      have : ds.map (fun _ => D.bl true) = (ds.map fun _ => true).map D.bl := by simp
      rw [this]
      simp only [opF, boolsD_map]
      simp
    refine eq_of ?_
    rw [Cl.c__law_exact]
    cases d with
    | tup ds =>
      simp at h1 h3 h4
      simp [Ir.d__law_exact, hu, hv]
      refine Kont.mk ?_
      simp [hu]
      refine Kont.mk ?_
      simp [hid_cons]
      refine many ds h1 h3 h4.1 h4.2 _ (.inr rfl) _ fun acc hacc => ?_
      simp [fin ds acc hacc]
    | lst ds =>
      simp at h1 h3 h4
      simp [Ir.d__law_exact, hu, hv]
      refine Kont.mk ?_
      simp [hu]
      refine Kont.mk ?_
      simp [hid_cons]
      refine many ds h1 h3 h4.1 h4.2 _ (.inl rfl) _ fun acc hacc => ?_
      simp [fin ds acc hacc]
    | non => simp [Ir.d__law_exact, hu, hv, Kont_run]
    | int i => simp [Ir.d__law_exact, hu, hv, Kont_run]
    | str i => simp at h3; simp [Ir.d__law_exact, hu, hv, Kont_run, eq_str' _ _ _ h3 h3]
    | _ => simp [D.good] at h3
theorem cp_ok : ∀ (k : Nat) {d : D} {n : Nat} {u : U}, d.dep ≤ k → k < n → d.good = true → wd d ≤ 1000 → k ≤ 60 → u.d = d → (callF Ir.defs n "_law_copied" [u]).G fun v os => v.d = d ∧ os = [none] := by
  intro k
  induction k with
  | zero =>
    intro d n u h1 h2 h3 h4 h6 hu
    obtain ⟨m, rfl, _⟩ := suc (n := n) (k := 0) (by omega)
    rw [Cl.c__law_copied]
    cases d with
    | non => simp [Ir.d__law_copied, hu, Kont_run]
    | int i => simp [Ir.d__law_copied, hu, Kont_run]
    | str i => simp [Ir.d__law_copied, hu, Kont_run]
    | tup ds => simp at h1
    | lst ds => simp at h1
    | _ => simp [D.good] at h3
  | succ k ih =>
    intro d n u h1 h2 h3 h4 h6 hu
    obtain ⟨m, rfl, hm⟩ := suc (n := n) (k := k + 1) (by omega)
    have many : ∀ (ds : List D), Ds.dep ds ≤ k → Ds.good ds = true → ds.length ≤ 1000 → wds ds ≤ 1000 → ∀ (t : D), ∀ (Q : List U → Pv.Env → Prop), (∀ acc, Us.d acc = ds → Q acc [some (.fz t), none, none]) →
        (evComp [] (Tg.name 1) [1] (fun ρ => evEs (callF Ir.defs m) [] Es.nil ρ) (fun ρ => evE (callF Ir.defs m) [] (.call "_law_copied" (.cons (.var 1) .nil) []) ρ) ds [some (.fz t), none, none] []).G Q := by
      intro ds g1 g2 g3 g4 t Q hq
      have e0 : ds = ds.map id := by simp
      rw [e0]
      refine comp_allD ds id id (by rw [lim_def]; omega) (fun p hp => ?_) (fun acc hacc => hq acc (by simpa using hacc))
      obtain ⟨e3, e4, e5⟩ := mem_le hp
      obtain ⟨w, os, e6, e7, rfl⟩ := (ih (d := p) (n := m) (u := .fz p) (by omega) (by omega) (e5 g2) (by omega) (by omega) rfl).ex
      simp [e6, e7]
    rw [Cl.c__law_copied]
    cases d with
    | tup ds =>
      simp at h1 h3 h4
      simp [Ir.d__law_copied, hu]
      refine Kont.mk ?_
      simp [hu]
      refine Kont.mk ?_
      simp [hid_cons]
      refine many ds h1 h3 h4.1 h4.2 _ _ fun acc hacc => ?_
      simp [opF, isMany, hacc]
    | lst ds =>
      simp at h1 h3 h4
      simp [Ir.d__law_copied, hu]
      refine Kont.mk ?_
      simp [hid_cons]
      refine many ds h1 h3 h4.1 h4.2 _ _ fun acc hacc => ?_
      simp [hacc]
    | non => simp [Ir.d__law_copied, hu, Kont_run]
    | int i => simp [Ir.d__law_copied, hu, Kont_run]
    | str i => simp [Ir.d__law_copied, hu, Kont_run]
    | _ => simp [D.good] at h3
end Sp

/-! Sp5: the law's own. -/
namespace Sp
open Pv PySem Pv.Fm Km
def encC (cs : List Lt) : D := .lst (cs.map fun x => .str x.s)
def inC (cs : List Lt) : Lt → Bool := fun x => decide (x ∈ cs)
theorem lts_good (cs : List Lt) : Ds.good (cs.map fun x => D.str x.s) = true ∧ Ds.dep (cs.map fun x => D.str x.s) = 0 := by
  induction cs with
  | nil => simp
  | cons x cs ih => simp [ih]
theorem lt_inj {x y : Lt} (h : x.s = y.s) : x = y := by
  cases x <;> cases y <;> first | rfl | (exact absurd h (by decide +kernel))
theorem in_case (x : Lt) (cs : List Lt) : opIn id (.str x.s) (.lst (cs.map fun x => .str x.s)) = some (.fz (.bl (inC cs x))) := by
  obtain ⟨h1, h2⟩ := lts_good cs
  rw [opIn_good (by simp) h1 (by simp) (by omega)]
  have : (cs.map fun x => D.str x.s).any (fun z => D.beq z (.str x.s)) = inC cs x := by
    unfold inC
    clear h1 h2
    induction cs with
    | nil => rfl
    | cons y cs ih =>
      simp only [List.map_cons, List.any_cons, ih, bq_str]
      by_cases e : x = y
      · subst e; simp
      · have : ¬ y.s = x.s := fun q => e (lt_inj q).symm
        simp [e, this]
  rw [this]; rfl
theorem tb_ok (cs : List Lt) : ∀ (f : Fm) {n : Nat}, f.dp ≤ n → callF Ir.defs n "_law_true_by" [.fz f.enc, .fz (encC cs)] = .ok (.fz (.bl (tr (inC cs) f))) [none, none] := by
  intro f
  induction f with
  | is x =>
    intro n h
    obtain ⟨m, rfl, _⟩ := suc (n := n) (k := 0) (by simp [dp] at h; omega)
    refine eq_of ?_
    rw [Cl.c__law_true_by]
    simp [Ir.d__law_true_by, Kont_run, encC, in_case, tr]
  | no =>
    intro n h
    obtain ⟨m, rfl, _⟩ := suc (n := n) (k := 0) (by simp [dp] at h; omega)
    refine eq_of ?_
    rw [Cl.c__law_true_by]
    simp [Ir.d__law_true_by, Kont_run, tr]
  | bin w a b h1 h2 =>
    intro n h
    simp only [dp] at h
    obtain ⟨m, rfl, _⟩ := suc (n := n) (k := 0) (by omega)
    have e1 := h1 (n := m) (by omega)
    have e2 := h2 (n := m) (by omega)
    refine eq_of ?_
    rw [Cl.c__law_true_by]
    cases w <;> simp [Ir.d__law_true_by, Kont_run, tr, e1, e2]
    all_goals (cases tr (inC cs) a <;> cases tr (inC cs) b <;> simp)
theorem ho_ok {n : Nat} (cs : List Lt) (l : List Fm) (r : Fm) (hl : l.length ≤ 40) (h1 : LN l 50) (h2 : r.sz ≤ 50) (h : 51 ≤ n) : callF Ir.defs n "_law_holds" [.fz (.lst (encs l)), .fz r.enc, .fz (encC cs)] = .ok (.fz (.bl (holds (inC cs) l r))) [none, none, none] := by
  obtain ⟨m, rfl, _⟩ := suc h
  refine eq_of ?_
  rw [Cl.c__law_holds]
  have hr := dp_le r
  simp [Ir.d__law_holds, hid_cons]
  refine comp_filt l enc (fun f => !tr (inC cs) f) (fun f => .fz f.enc) (by rw [lim_def]; omega) (fun f hf => ?_) ?_
  · have h3 := h1 f hf
    have h4 := dp_le f
    simp [tb_ok cs f (n := m) (by omega)]
  have e : (l.filter (fun f => !tr (inC cs) f)).map enc = encs (l.filter (fun f => !tr (inC cs) f)) := rfl
  have hsm : Sm (l.filter (fun f => !tr (inC cs) f)) := fun f hf => h1.sm f (List.mem_filter.mp hf).1
  rw [us_fz_map, e]
  simp [hsm, tb_ok cs r (n := m) (by omega)]
  refine ite_mk (fun h => ?_) (fun h => ?_)
  · obtain ⟨x, hx, ht⟩ := h
    simp only [holds, Bool.or_eq_true, List.any_eq_true]
    exact .inl ⟨x, hx, by simp [ht]⟩
  · have : (l.any fun f => !tr (inC cs) f) = false := by
      rw [List.any_eq_false]
      intro x hx
      cases ht : tr (inC cs) x with
      | true => simp
      | false => exact absurd ⟨x, hx, ht⟩ h
    simp [holds, this]
theorem for_eq {P : List Nat} {tg : Tg} {b : Pv.Env → RS} {ds : List D} {ρ0 ρ : Pv.Env} {N B C : Pv.Env → Prop} {T : U → Pv.Env → Prop} (h : evFor P tg b ds ρ0 = .nx ρ) (q : N ρ) : ForG P tg b ds ρ0 N T B C := by rw [ForG_eq, h]; exact q
theorem le1 : PySem.W.dataLe false encD (.lst []) (.lst [.str (Str.ofString "a")]) = true := by decide +kernel
theorem le2 : PySem.W.dataLe false encD (.lst [.str (Str.ofString "b")]) (.lst [.str (Str.ofString "a"), .str (Str.ofString "b")]) = false := by decide +kernel
theorem le3 : PySem.W.dataLe false encD (.lst []) (.lst [.str (Str.ofString "a"), .str (Str.ofString "b")]) = true := by decide +kernel
theorem le4 : PySem.W.dataLe false encD (.lst [.str (Str.ofString "a")]) (.lst [.str (Str.ofString "a"), .str (Str.ofString "b")]) = true := by decide +kernel
theorem srt_ok : opF .sorted [.lst [.lst [], .lst [.str (Str.ofString "a")], .lst [.str (Str.ofString "b")], .lst [.str (Str.ofString "a"), .str (Str.ofString "b")]]] = some (.ul (fzs [.lst [], .lst [.str (Str.ofString "a")], .lst [.str (Str.ofString "a"), .str (Str.ofString "b")], .lst [.str (Str.ofString "b")]])) := by
  have h : sortOk [.lst [], .lst [.str (Str.ofString "a")], .lst [.str (Str.ofString "b")], .lst [.str (Str.ofString "a"), .str (Str.ofString "b")]] = true := by decide +kernel
  simp only [opF, h, if_true]
  simp [List.mergeSort, List.merge, le1, le2, le3, le4]
theorem ca_ok {n : Nat} (h : 1 ≤ n) : (callF Ir.defs n "_law_cases" [.ul [.fz (.str "a"), .fz (.str "b")]]).G fun u os => u.d = .lst ([[], [.a], [.a, .b], [.b]].map encC) ∧ os = [none] := by
  obtain ⟨m, rfl, _⟩ := suc h
  rw [Cl.c__law_cases]
  simp [Ir.d__law_cases]
  refine Kont.mk ?_
  simp
  refine for_eq (ρ := [some (.fz (.lst [.str "a", .str "b"])), some (.ul (fzs [.lst [], .lst [.str (Str.ofString "a")], .lst [.str (Str.ofString "b")], .lst [.str (Str.ofString "a"), .str (Str.ofString "b")]])), some (.fz (.str "b")), none]) (by kernel_rfl) ?_
  refine Kont.mk ?_
  simp [srt_ok]
  simp [encC, Lt.s]
/-! weights taken apart -/
theorem maxs_ge (l : List Int) (i x : Int) : x ≤ l.foldl max i ↔ x ≤ i ∨ ∃ y ∈ l, x ≤ y := by
  induction l generalizing i with
  | nil => simp
  | cons y l ih =>
    simp only [List.foldl_cons, ih, List.mem_cons, exists_eq_or_imp]
    constructor
    · rintro (h | h)
      · by_cases q : x ≤ i
        · exact .inl q
        · exact .inr (.inl (by omega))
      · exact .inr (.inr h)
    · rintro (h | h | h)
      · exact .inl (by omega)
      · exact .inl (by omega)
      · exact .inr h
theorem lt_max {l : List Int} (h : l ≠ []) : ∃ m, opMaxs l = some m ∧ ∀ x, x < m ↔ ∃ y ∈ l, x < y := by
  cases l with
  | nil => exact absurd rfl h
  | cons i l =>
    refine ⟨_, rfl, fun x => ?_⟩
    have := maxs_ge l i (x + 1)
    simp only [List.mem_cons, exists_eq_or_imp]
    constructor
    · intro h
      rcases this.mp (by omega) with h | ⟨y, hy, h⟩
      · exact .inl (by omega)
      · exact .inr ⟨y, hy, by omega⟩
    · rintro (h | ⟨y, hy, h⟩)
      · have := this.mpr (.inl (by omega)); omega
      · have := this.mpr (.inr ⟨y, hy, by omega⟩); omega
def iD (l : List Int) : List D := l.map D.int
@[simp] theorem iD_nil : iD [] = [] := rfl
@[simp] theorem iD_good (l : List Int) : Ds.good (iD l) = true := good_ints id l
@[simp] theorem iD_dep (l : List Int) : Ds.dep (iD l) = 0 := dep_ints id l
@[simp] theorem iD_len (l : List Int) : (iD l).length = l.length := by simp [iD]
@[simp] theorem iD_emp (l : List Int) : (iD l).isEmpty = l.isEmpty := by cases l <;> rfl
@[simp] theorem intsD_iD (l : List Int) : intsD (iD l) = some l := intsD_map l
theorem in_iD (x : Int) (l : List Int) : opIn id (.int x) (.lst (iD l)) = some (.fz (.bl (decide (x ∈ l)))) := by
  rw [opIn_good (by simp) (by simp) (by simp) (by simp)]
  have : (iD l).any (fun z => D.beq z (.int x)) = decide (x ∈ l) := by
    induction l with
    | nil => rfl
    | cons y l ih =>
      simp only [iD, List.map_cons, List.any_cons, bq_int] at ih ⊢
      rw [ih]
      by_cases e : x = y
      · subst e; simp
      · have : ¬ y = x := fun q => e q.symm
        simp [e, this]
  rw [this]; rfl
theorem le_ok {n : Nat} (h : 1 ≤ n) (M N : List Int) {u v : U} (hu : u.d = .lst (iD M)) (hv : v.d = .lst (iD N)) (hl : M.length ≤ 1000) (hl2 : N.length ≤ 1000) (hless : LessW M N) : callF Ir.defs n "_law_is_less" [u, v] = .ok (.fz (.bl true)) [none, none] := by
  obtain ⟨m, rfl, _⟩ := suc h
  refine eq_of ?_
  rw [Cl.c__law_is_less]
  simp [Ir.d__law_is_less, hu, hv]
  refine Kont.mk ?_
  simp [hu, hv]
  refine for_inv (fun r ρ => ∃ ws R A x, r = iD ws ∧ ρ = [some (.fz (.lst (iD M))), some (.fz (.lst (iD N))), x, some (.ul (fzs (iD R))), some (.ul (fzs (iD A)))] ∧ (x = none ∨ ∃ w, x = some (.fz (.int w))) ∧ splitW R A ws = splitW M [] N ∧ A.length + ws.length ≤ 1000) (fun ρ h => ?_) (fun d r ρ h => ?_) _ _ ⟨N, M, [], none, rfl, by simp, .inl rfl, rfl, by simpa using hl2⟩
  · obtain ⟨ws, R, A, x, e1, rfl, hx, e2, e3⟩ := h
    have : ws = [] := by cases ws with
      | nil => rfl
      | cons a b => simp [iD] at e1
    subst this
    simp only [splitW] at e2
    unfold LessW at hless
    rw [← e2] at hless
    obtain ⟨h1, y, hy, h2⟩ := hless
    obtain ⟨mx, e4, e5⟩ := lt_max h1
    simp at h1 e4 e5 h2 e3 hy
    refine Kont.mk ?_
    have hmax : opF .max1 [.lst (iD R)] = some (.fz (.int mx)) := by
      simp [opF, e4]
    have step : ∀ Q : List U → Pv.Env → Prop, Q [] [some (U.fz (D.lst (iD M))), some (U.fz (D.lst (iD N))), none, some (.fz (.lst (iD R))), some (.fz (.lst (iD A)))] → (evComp [] (Tg.name 2) [2] (fun ρ => evEs (callF Ir.defs m) [] (Es.cons (E.op O.ge (Es.cons (E.var 2) (Es.cons (E.op O.max1 (Es.cons (E.var 3) Es.nil)) Es.nil))) Es.nil) ρ) (fun ρ => evE (callF Ir.defs m) [] (E.var 2) ρ) (iD A)
        [some (U.fz (D.lst (iD M))), some (U.fz (D.lst (iD N))), none, some (.fz (.lst (iD R))), some (.fz (.lst (iD A)))] []).G Q := by
      intro Q hQ
      refine comp_filt A D.int (fun _ => false) (fun w => .fz (.int w)) (by rw [lim_def]; omega) (fun w hw => ?_) ?_
      · have : ¬ mx ≤ w := by have := (e5 w).mpr ⟨y, hy, h2 w hw⟩; omega
        simp [hmax, this]
      · simpa using hQ
    rcases hx with rfl | ⟨w, rfl⟩
    · simp [h1, hid_cons]
      refine step _ ?_
      simp
    · simp [h1, hid_cons]
      refine step _ ?_
      simp
  · obtain ⟨ws, R, A, x, e1, rfl, hx, e2, e3⟩ := h
    cases ws with
    | nil => simp at e1
    | cons w ws =>
      simp only [iD, List.map_cons, List.cons.injEq] at e1
      obtain ⟨rfl, rfl⟩ := e1
      have e4 : splitW R A (w :: ws) = if w ∈ R then splitW (R.erase w) A ws else splitW R (A ++ [w]) ws := rfl
      rw [e4] at e2
      simp [in_iD]
      refine ite_mk (fun hw => ?_) (fun hw => ?_)
      · rw [if_pos hw] at e2
        refine Kont.mk ?_
        simp [hw]
        exact ⟨ws, rfl, _, _, _, ⟨rfl, by rw [← List.erase_eq_eraseIdx_of_idxOf rfl]; rfl, rfl⟩, .inr ⟨w, rfl⟩, e2, by simp at e3; omega⟩
      · rw [if_neg hw] at e2
        have c1 : A.length < LIM := by simp at e3; rw [lim_def]; omega
        refine Kont.mk ?_
        simp [c1]
        exact ⟨ws, rfl, R, A ++ [w], _, ⟨rfl, rfl, by simp [iD, fzs]⟩, .inr ⟨w, rfl⟩, e2, by simp at e3 ⊢; omega⟩
end Sp

/-! Sp6: the law's own rules. -/
namespace Sp
open Pv PySem Pv.Fm Km
def putD (o : Option (List (List Fm))) : D := o.elim .non fun ms => .lst (ms.map fun k => .lst (encs k))
theorem po_ok {n : Nat} (h : 1 ≤ n) (l : List Fm) (f : Fm) (h1 : Sm l) (h2 : f.dp ≤ 60) : (callF Ir.defs n "_law_put_ones" [.fz f.enc, .fz (.lst (encs l))]).G fun u os => u.d = putD (putOne l f) ∧ os = [none, none] := by
  obtain ⟨m, rfl, _⟩ := suc h
  rw [Cl.c__law_put_ones]
  have key : ∀ (x : Lt), (Fm.is x) ∈ l ∨ ¬ (Fm.is x) ∈ l := fun x => Classical.em _
  cases f with
  | is x => simp [Ir.d__law_put_ones, putOne, Kont_run, putD]
  | no => simp [Ir.d__law_put_ones, putOne, Kont_run, putD]
  | bin w a b =>
    have ha := dp_l h2
    cases w with
    | and => simp [Ir.d__law_put_ones, putOne, Kont_run, putD, encs_cons]
    | or => simp [Ir.d__law_put_ones, putOne, Kont_run, putD, encs_cons]
    | «then» =>
      cases a with
      | is x => rcases key x with k | k <;> simp [Ir.d__law_put_ones, putOne, Kont_run, putD, encs_cons, h1, k]
      | no => simp [Ir.d__law_put_ones, putOne, Kont_run, putD, encs_cons]
      | bin w2 c d => cases w2 <;> simp [Ir.d__law_put_ones, putOne, Kont_run, putD, encs_cons, Th]
theorem we_ok : ∀ (f : Fm) {n : Nat}, f.dp ≤ n → callF Ir.defs n "_law_weight" [.fz f.enc] = .ok (.fz (.int (wt f))) [none] := by
  intro f
  induction f with
  | is x =>
    intro n h
    obtain ⟨m, rfl, _⟩ := suc (n := n) (k := 0) (by simp [dp] at h; omega)
    refine eq_of ?_
    rw [Cl.c__law_weight]
    simp [Ir.d__law_weight, Kont_run, wt]
  | no =>
    intro n h
    obtain ⟨m, rfl, _⟩ := suc (n := n) (k := 0) (by simp [dp] at h; omega)
    refine eq_of ?_
    rw [Cl.c__law_weight]
    simp [Ir.d__law_weight, Kont_run, wt]
  | bin w a b h1 h2 =>
    intro n h
    simp only [dp] at h
    obtain ⟨m, rfl, _⟩ := suc (n := n) (k := 0) (by omega)
    have e1 := h1 (n := m) (by omega)
    have e2 := h2 (n := m) (by omega)
    refine eq_of ?_
    rw [Cl.c__law_weight]
    cases w <;> simp [Ir.d__law_weight, Kont_run, wt, e1, e2]
def RuD (p : String × List (List Sq)) : D := .tup [.str (Str.ofString p.1), .lst (encWays p.2)]
def EnL (k : Nat) (fs : List Fm) : List D := (fs.zipIdx k).map fun p => D.tup [.int p.2, p.1.enc]
theorem EnL_cons (k : Nat) (f : Fm) (fs : List Fm) : EnL k (f :: fs) = .tup [.int k, f.enc] :: EnL (k + 1) fs := rfl
def nestsFrom (l : List Fm) (r : Fm) (k : Nat) (fs : List Fm) : List (List Sq) := (fs.zipIdx k).filterMap fun p => (nestOf p.1).map fun q => nestWay l r p.2 q.1 q.2.1 q.2.2
theorem nestsFrom_cons (l : List Fm) (r : Fm) (k : Nat) (f : Fm) (fs : List Fm) : nestsFrom l r k (f :: fs) = ((nestOf f).elim [] fun q => [nestWay l r k q.1 q.2.1 q.2.2]) ++ nestsFrom l r (k + 1) fs := by
  simp only [nestsFrom, List.zipIdx_cons, List.filterMap_cons]
  cases nestOf f <;> rfl
theorem take_at {l fs : List Fm} {k : Nat} {f : Fm} (h : l = l.take k ++ f :: fs) : l[k]? = some f ∧ l = l.take (k + 1) ++ fs := by
  have hk : k ≤ l.length := by
    have := congrArg List.length h
    simp at this
    omega
  have h1 : l[k]? = some f := by
    rw [h, List.getElem?_append_right (by rw [List.length_take]; exact Nat.min_le_left _ _)]
    simp [Nat.min_eq_left hk]
  refine ⟨h1, ?_⟩
  have h2 : l.drop k = f :: fs := by
    have := congrArg (List.drop k) h
    rw [List.drop_append, List.drop_take] at this
    simpa [Nat.min_eq_left hk] using this
  have h3 : l.drop (k + 1) = fs := by
    rw [← List.drop_drop, h2]; rfl
  rw [← h3, List.take_append_drop]
/-- the second row of turns -/
theorem ru_two {m : Nat} (l : List Fm) (r : Fm) (hl : l.length ≤ 40) (h1 : LN l 50) {T : U → Pv.Env → Prop} {N B C : Pv.Env → Prop} (hT : ∀ u ρ, u.d = RuD ("tried", sides l r ++ nests l r) → T u ρ) (ws : List U) (hw : Us.d ws = encWays (sides l r)) (hwl : ws.length ≤ 2) (x3 x4 x5 : Option U) :
    Kont (callF Ir.defs m) (sdrop 5 Ir.d__law_rule.body) [] N T B C [some (.fz (.lst (encs l))), some (.fz r.enc), some (.ul ws), x3, x4, x5, none, none, none] := by
  refine Kont.mk ?_
  simp only [sdrop, Ir.d__law_rule]
  simp [zip_encs]
  refine for_inv (fun q ρ => ∃ k fs ws x3 x4 x6 x7, q = EnL k fs ∧ l = l.take k ++ fs ∧ ρ = [some (.fz (.lst (encs l))), some (.fz r.enc), some (.ul ws), x3, x4, x5, x6, x7, none] ∧ Us.d ws ++ encWays (nestsFrom l r k fs) = encWays (sides l r ++ nests l r) ∧ ws.length ≤ k + 2) (fun ρ h => ?_) (fun d q ρ h => ?_) _ _ ⟨0, l, ws, x3, x4, none, none, rfl, by simp, rfl, by rw [hw]; simp [encWays, nests, nestsFrom], by omega⟩
  · obtain ⟨k, fs, ws, x3, x4, x6, x7, e1, e2, rfl, e3, e4⟩ := h
    have : fs = [] := by cases fs with
      | nil => rfl
      | cons a b => simp [EnL] at e1
    subst this
    simp [nestsFrom, encWays] at e3
    refine Kont.mk ?_
    simp
    refine hT _ _ ?_
    simp [RuD, encWays, e3]
  · obtain ⟨k, fs, ws, x3, x4, x6, x7, e1, e2, rfl, e3, e4⟩ := h
    cases fs with
    | nil => simp [EnL] at e1
    | cons f fs =>
      rw [EnL_cons] at e1
      simp only [List.cons.injEq] at e1
      obtain ⟨rfl, rfl⟩ := e1
      obtain ⟨e5, e6⟩ := take_at e2
      have hk : k < l.length := (List.getElem?_eq_some_iff.mp e5).1
      rw [nestsFrom_cons] at e3
      have skip : nestOf f = none → ∃ k_1 fs_1 ws_1 x3_1 x4_1 x6_1 x7_1, EnL (k + 1) fs = EnL k_1 fs_1 ∧ l = List.take k_1 l ++ fs_1 ∧ [some (U.fz (D.lst (encs l))), some (U.fz r.enc), some (U.ul ws), some (.fz (.int k)), some (.fz f.enc), x5, x6, x7, none] = [some (U.fz (D.lst (encs l))), some (U.fz r.enc), some (U.ul ws_1), x3_1, x4_1, x5, x6_1, x7_1, none] ∧ Us.d ws_1 ++ encWays (nestsFrom l r k_1 fs_1) = encWays (sides l r ++ nests l r) ∧ ws_1.length ≤ k_1 + 2 := by
        intro hn
        simp only [hn, Option.elim_none, List.nil_append] at e3
        exact ⟨k + 1, fs, ws, _, _, x6, x7, rfl, e6, rfl, e3, by omega⟩
      cases f with
      | is x =>
        simp
        simpa using skip rfl
      | no =>
        simp
        simpa using skip rfl
      | bin w a b =>
        cases w with
        | and =>
          simp
          simpa using skip rfl
        | or =>
          simp
          simpa using skip rfl
        | «then» =>
          cases a with
          | is x =>
            simp
            simpa using skip rfl
          | no =>
            simp
            simpa using skip rfl
          | bin w2 c d =>
            cases w2 with
            | and =>
              simp
              simpa using skip rfl
            | or =>
              simp
              simpa using skip rfl
            | «then» =>
              simp
              refine Kont.mk ?_
              simp
              refine Kont.mk ?_
              have hwl : ws.length < LIM := by rw [lim_def]; omega
              simp (disch := omega) [limT, hwl]
              exact ⟨k + 1, fs, rfl, e6, by rw [← e3]; simp [nestOf, encWays, nestWay, encSq, encs, Th], by omega⟩
/-- the first row of turns -/
theorem ru_one {m : Nat} (h : 1 ≤ m) (l : List Fm) (r : Fm) (hl : l.length ≤ 40) (h1 : LN l 50) (hr : r.dp ≤ 60) {w : String} (h0 : opIdx r.enc (.int 0) = some (.fz (.str (Str.ofString w)))) (hs : (w = "or" ∧ ∃ a b, r = .bin .or a b) ∨ (w ≠ "or" ∧ sides l r = []))
    {T : U → Pv.Env → Prop} {N B C : Pv.Env → Prop} (hT : ∀ u ρ, u.d = RuD (match firstT l 0 l with
      | some (i, more) => ("taken", [more.map fun m => (l.take i ++ m ++ l.drop (i + 1), r)])
      | none => ("tried", sides l r ++ nests l r)) → T u ρ) : Kont (callF Ir.defs m) (sdrop 3 Ir.d__law_rule.body) [] N T B C [some (.fz (.lst (encs l))), some (.fz r.enc), none, none, none, none, none, none, none] := by
  have hsm := h1.sm
  refine Kont.mk ?_
  simp only [sdrop, Ir.d__law_rule]
  simp [zip_encs]
  refine for_inv (fun q ρ => ∃ k fs x3 x4 x5, q = EnL k fs ∧ l = l.take k ++ fs ∧ ρ = [some (.fz (.lst (encs l))), some (.fz r.enc), none, x3, x4, x5, none, none, none] ∧ firstT l k fs = firstT l 0 l) (fun ρ h => ?_) (fun d q ρ h => ?_) _ _ ⟨0, l, none, none, none, rfl, by simp, rfl, rfl⟩
  · obtain ⟨k, fs, x3, x4, x5, e1, e2, rfl, e3⟩ := h
    have : fs = [] := by cases fs with
      | nil => rfl
      | cons a b => simp [EnL] at e1
    subst this
    rw [← e3] at hT
    simp only [firstT] at hT
    refine Kont.mk ?_
    simp [h0]
    rcases hs with ⟨rfl, a, b, rfl⟩ | ⟨hw, hs⟩
    · simp
      exact ru_two l _ hl h1 hT _ (by simp [sides, encWays, encSq]) (by simp) _ _ _
    · simp [hw]
      exact ru_two l _ hl h1 hT _ (by simp [hs, encWays]) (by simp) _ _ _
  · obtain ⟨k, fs, x3, x4, x5, e1, e2, rfl, e3⟩ := h
    cases fs with
    | nil => simp [EnL] at e1
    | cons f fs =>
      rw [EnL_cons] at e1
      simp only [List.cons.injEq] at e1
      obtain ⟨rfl, rfl⟩ := e1
      obtain ⟨e5, e6⟩ := take_at e2
      have hk : k < l.length := (List.getElem?_eq_some_iff.mp e5).1
      obtain ⟨u, os, e7, e8, rfl⟩ := (po_ok (n := m) h l f hsm (hsm _ (List.mem_of_getElem? e5))).ex
      simp [e7]
      refine Kont.mk ?_
      have e3' : firstT l k (f :: fs) = (match putOne l f with
        | some m => some (k, m)
        | none => firstT l (k + 1) fs) := rfl
      rw [e3'] at e3
      cases hp : putOne l f with
      | none =>
        rw [hp] at e3
        simp only [putD, hp, Option.elim_none] at e8
        simp [e8]
        exact ⟨k + 1, fs, rfl, e6, e3⟩
      | some ms =>
        rw [hp] at e3
        simp only at e3
        rw [← e3] at hT
        simp only [putD, hp, Option.elim_some] at e8
        simp [e8]
        refine Kont.mk ?_
        simp [hid_cons]
        have hk2 := put_sz hp
        have hms := put_len hp
        refine comp_allD ms (fun k => .lst (encs k)) (fun q => encSq (l.take k ++ q ++ l.drop (k + 1), r)) (by rw [lim_def]; omega) (fun q hq => ?_) (fun acc hacc => ?_)
        · have hk3 := (hk2 q hq).1
          simp (disch := omega) [limT]
          simp [encSq, encs]
        · simp
          refine hT _ _ ?_
          simp [RuD, encWays, hacc]
theorem ru_ok {n : Nat} (h : 2 ≤ n) (l : List Fm) (r : Fm) (hl : l.length ≤ 40) (h1 : LN l 50) (h2 : r.sz ≤ 50) : (callF Ir.defs n "_law_rule" [.fz (.lst (encs l)), .fz r.enc]).G fun u os => u.d = RuD (ruleM l r) ∧ os = [none, none] := by
  obtain ⟨m, rfl, _⟩ := suc h
  rw [Cl.c__law_rule]
  have hsm := h1.sm
  have hr : r.dp ≤ 60 := by have := dp_le r; omega
  simp [Ir.d__law_rule, hsm, hr]
  by_cases hn : Fm.no ∈ l
  · simp [hn]
    refine Kont.mk ?_
    simp [hsm, hn, RuD, ruleM, encWays]
  by_cases hn2 : r ∈ l
  · simp [hn, hn2, hsm, hr]
    refine Kont.mk ?_
    simp [hsm, hn, hn2, RuD, ruleM, encWays]
  simp [hn, hn2, hsm, hr]
  refine Kont.mk ?_
  cases r with
  | bin w a b =>
    cases w with
    | «then» =>
      simp
      refine Kont.mk ?_
      simp (disch := omega) [limT]
      simp [ruleM, hn, hn2, RuD, encWays, encSq, encs]
    | and =>
      simp
      refine Kont.mk ?_
      simp
      refine Kont.mk ?_
      simp [ruleM, hn, hn2, RuD, encWays, encSq, encs]
    | or =>
      simp
      refine Kont.mk ?_
      simp
      refine ru_one (by omega) l _ hl h1 hr (w := "or") rfl (.inl ⟨rfl, _, _, rfl⟩) fun u ρ hu => ?_
      cases e : firstT l 0 l with
      | none => simpa [ruleM, hn, hn2, e] using hu
      | some p => simpa [ruleM, hn, hn2, e] using hu
  | is x =>
    simp
    refine Kont.mk ?_
    simp
    refine ru_one (by omega) l _ hl h1 hr (w := "is") rfl (.inr ⟨by decide, rfl⟩) fun u ρ hu => ?_
    cases e : firstT l 0 l with
    | none => simpa [ruleM, hn, hn2, e] using hu
    | some p => simpa [ruleM, hn, hn2, e] using hu
  | no =>
    simp
    refine Kont.mk ?_
    simp
    refine ru_one (by omega) l _ hl h1 hr (w := "no") rfl (.inr ⟨by decide, rfl⟩) fun u ρ hu => ?_
    cases e : firstT l 0 l with
    | none => simpa [ruleM, hn, hn2, e] using hu
    | some p => simpa [ruleM, hn, hn2, e] using hu
end Sp

set_option exponentiation.threshold 20000
/-! Sp7: drawn numbers. -/
namespace Sp
open Pv PySem Pv.Fm Km
@[irreducible] def TOP : Nat := 2 ^ 5000
theorem top_def : TOP = 2 ^ 5000 := by unfold TOP; rfl
def KK : Nat := 1048576
def gU (a b c : Int) : U := .ul [.fz (.int a), .fz (.int b), .fz (.int c)]
def Gn (B : Nat) (u : U) : Prop := ∃ a b c : Int, u = gU a b c ∧ 0 ≤ b ∧ b < 2147483648 ∧ 0 ≤ c ∧ c ≤ B
theorem Gn.mono {B B' : Nat} {u : U} (h : Gn B u) (hb : B ≤ B') : Gn B' u := by
  obtain ⟨a, b, c, rfl, h1, h2, h3, h4⟩ := h
  exact ⟨a, b, c, rfl, h1, h2, h3, by omega⟩
theorem lt31 {i : Int} (h : 0 ≤ i) (h2 : i < 2147483648) : i.natAbs < 2 ^ 31 := by omega
theorem nb {i : Int} {k : Nat} (h : 0 ≤ i) (h2 : i < (2 : Int) ^ k) : i.natAbs < 2 ^ k := by
  have : ((i.natAbs : Nat) : Int) < ((2 ^ k : Nat) : Int) := by
    rw [Int.natAbs_of_nonneg h]
    simpa using h2
  omega
theorem hash_ok {n : Nat} (h : 1 ≤ n) (s i : Int) (h1 : 0 ≤ s) (h2 : s < 2147483648) (h3 : 0 ≤ i) (h4 : i ≤ (TOP : Int)) : ∃ r : Int, callF Ir.defs n "_law_hash" [.fz (.int s), .fz (.int i)] = .ok (.fz (.int r)) [none, none] ∧ 0 ≤ r ∧ r < 2147483647 := by
  obtain ⟨m, rfl, _⟩ := suc h
  have hi : i.natAbs < 2 ^ 5001 := by
    have : i.natAbs ≤ 2 ^ 5000 := by rw [← top_def]; omega
    exact Nat.lt_of_le_of_lt this (Nat.pow_lt_pow_right (by omega) (by omega))
  have c1 := mul_ok (j := 1140671) (b := 21) (lt31 h1 h2) (by decide) (by decide)
  have c2 := mul_ok (i := 27644437) (a := 25) (by decide) hi (by decide)
  have hi2 : (27644437 * i).natAbs < 2 ^ 5026 := by
    rw [Int.natAbs_mul]
    calc (27644437 : Int).natAbs * i.natAbs < 2 ^ 25 * 2 ^ 5001 := Nat.mul_lt_mul'' (by decide) hi
      _ = 2 ^ 5026 := by rw [← Nat.pow_add]
  have c3 := mul_ok hi2 hi (by decide)
  have c4 := mul_ok (i := 131) (a := 8) (by decide) hi (by decide)
  suffices hs : (callF Ir.defs (m + 1) "_law_hash" [.fz (.int s), .fz (.int i)]).G fun u os => (∃ r : Int, u = .fz (.int r) ∧ 0 ≤ r ∧ r < 2147483647) ∧ os = [none, none] by
    obtain ⟨u, os, e, ⟨r, rfl, q⟩, rfl⟩ := hs.ex
    exact ⟨r, e, q⟩
  rw [Cl.c__law_hash]
  simp [Ir.d__law_hash, mul_go c1, mul_go c2, mul_go c3, mul_go c4]
  refine Kont.mk ?_
  generalize hq : (s * 1140671 + 27644437 * i * i + 131 * i + 19) % 2147483629 = q
  have q1 : 0 ≤ q := by rw [← hq]; exact Int.emod_nonneg _ (by omega)
  have q2 : q < 2147483648 := by rw [← hq]; have := Int.emod_lt_of_pos (s * 1140671 + 27644437 * i * i + 131 * i + 19) (b := 2147483629) (by omega); omega
  have c5 := mul_ok (lt31 q1 q2) (lt31 q1 q2) (by decide)
  have c6 := mul_ok (i := 62089) (a := 16) (by decide) hi (by decide)
  simp [mul_go c5, mul_go c6]
  refine Kont.mk ?_
  generalize hp : (q * q + 62089 * i + 32416187) % 2147483587 = p
  have p1 : 0 ≤ p := by rw [← hp]; exact Int.emod_nonneg _ (by omega)
  have p2 : p < 2147483648 := by rw [← hp]; have := Int.emod_lt_of_pos (q * q + 62089 * i + 32416187) (b := 2147483587) (by omega); omega
  have c7 := mul_ok (j := 48271) (b := 16) (lt31 p1 p2) (by decide) (by decide)
  simp [mul_go c7]
  exact ⟨Int.emod_nonneg _ (by omega), Int.emod_lt_of_pos _ (by omega)⟩
theorem bits_lt {b : Int} (h1 : 1 ≤ b) (h2 : b ≤ 1000) : ((Builtin.Int.intBits b : Nat) : Int) / 30 = 0 := by
  have : Builtin.Int.intBits b ≤ 10 := by
    unfold Builtin.Int.intBits
    split
    · omega
    · have h3 : b.natAbs.log2 < 10 := (Nat.log2_lt (by omega)).mpr (by omega)
      omega
  omega
theorem fd_ok {i j : Int} (h : 0 < j) (h2 : j ≤ 1000) : opF .fdiv [.int i, .int j] = some (.fz (.int (i / j))) := by
  have hb2 : j.natAbs.log2 < 9000 := by
    have h3 : j.natAbs.log2 < 10 := (Nat.log2_lt (by omega)).mpr (by omega)
    omega
  rw [o_fdiv, decide_eq_true h, decide_eq_true hb2]; rfl
theorem rnd_slow {m : Nat} (h : 1 ≤ m) (x y z b : Int) (h1 : 1 ≤ b) (h2 : b ≤ 1000) (g1 : 0 ≤ y) (g2 : y < 2147483648) (g3 : 0 ≤ z) (g4 : z + 1 ≤ TOP) {N B C : Pv.Env → Prop} {T : U → Pv.Env → Prop}
    (hT : ∀ (r : Int) (ρ : Pv.Env), 0 ≤ r → r < b → T (.fz (.int r)) (some (gU x y (z + 1)) :: ρ)) : Kont (callF Ir.defs m) (sdrop 1 Ir.d__law_random.body) [0] N T B C [some (gU x y z), some (.fz (.int b)), none, none] := by
  refine Kont.mk ?_
  simp only [sdrop, Ir.d__law_random]
  simp
  refine Kont.mk ?_
  have hf : opF .fdiv [.int ((Builtin.Int.intBits b : Nat) : Int), .int 30] = some (.fz (.int 0)) := by rw [fd_ok (by omega) (by omega), bits_lt h1 h2]
  simp [hf, -o_fdiv]
  obtain ⟨r, hr, r1, r2⟩ := hash_ok h y (z + 1) g1 g2 (by omega) g4
  have hrg : rgD 0 1 = [.int 0] := rfl
  rw [hrg]
  refine for_inv (fun q ρ => (q = [.int 0] ∧ ρ = [some (gU x y z), some (.fz (.int b)), some (.fz (.int 0)), none]) ∨ (q = [] ∧ ∃ x3 v, ρ = [some (gU x y (z + 1)), some (.fz (.int b)), some (.fz (.int v)), x3])) (fun ρ h => ?_) (fun d q ρ h => ?_) _ _ (.inl ⟨rfl, rfl⟩)
  · rcases h with ⟨h, _⟩ | ⟨_, x3, v, rfl⟩
    · simp at h
    · refine Kont.mk ?_
      have hb : decide (0 < b) = true := by simp; omega
      simp [hb]
      exact hT _ _ (Int.emod_nonneg _ (by omega)) (Int.emod_lt_of_pos _ (by omega))
  · rcases h with ⟨h, rfl⟩ | ⟨h, _⟩
    · simp only [List.cons.injEq] at h
      obtain ⟨rfl, rfl⟩ := h
      simp [gU]
      refine Kont.mk ?_
      have hm := mul_go (i := 0) (j := 2147483587) (by decide)
      simp [hm, hr]
    · simp at h
theorem rnd_ok {n : Nat} (h : 2 ≤ n) {B : Nat} {u : U} (hg : Gn B u) (hB : B + 1 ≤ TOP) (b : Int) (h1 : 1 ≤ b) (h2 : b ≤ 1000) : ∃ (r : Int) (u' : U), callF Ir.defs n "_law_random" [u, .fz (.int b)] = .ok (.fz (.int r)) [some u', none] ∧ 0 ≤ r ∧ r < b ∧ Gn (B + 1) u' := by
  obtain ⟨m, rfl, _⟩ := suc h
  obtain ⟨x, y, z, rfl, g1, g2, g3, g4⟩ := hg
  suffices hs : (callF Ir.defs (m + 1) "_law_random" [gU x y z, .fz (.int b)]).G fun v os => ∃ (r : Int) (u' : U), v = .fz (.int r) ∧ os = [some u', none] ∧ 0 ≤ r ∧ r < b ∧ Gn (B + 1) u' by
    obtain ⟨u, os, e, r, u', rfl, rfl, q⟩ := hs.ex
    exact ⟨r, u', e, q⟩
  rw [Cl.c__law_random]
  have hb : decide (0 < b) = true := by simp; omega
  simp [Ir.d__law_random, gU]
  refine ite_mk (fun hx => ?_) (fun hx => ?_)
  · refine Kont.mk ?_
    have hd : opF .fdiv [.int x, .int b] = some (.fz (.int (x / b))) := fd_ok (by omega) h2
    simp [hb, -o_fdiv]
    refine Kont.mk ?_
    simp [hd, -o_fdiv]
    refine Kont.mk ?_
    simp
    exact ⟨Int.emod_nonneg _ (by omega), Int.emod_lt_of_pos _ (by omega), _, _, _, rfl, g1, g2, g3, by omega⟩
  · refine rnd_slow (by omega) x y z b h1 h2 g1 g2 g3 (by omega) fun r ρ hr hr2 => ?_
    exact ⟨r, rfl, gU x y (z + 1), by simp, hr, hr2, _, _, _, rfl, g1, g2, by omega, by omega⟩
end Sp

/-! Sp8: what is drawn. -/
namespace Sp
open Pv PySem Pv.Fm Km
theorem kk_le (m : Nat) : 1048576 * KK ^ m = KK ^ (m + 1) := by rw [Nat.pow_succ, Nat.mul_comm]; rfl
theorem kk_pos (m : Nat) : 1 ≤ KK ^ m := Nat.one_le_pow _ _ (by decide)
theorem pick_ok {n : Nat} (h : 3 ≤ n) {B : Nat} {u v : U} (hg : Gn B u) (hB : B + 1 ≤ TOP) {ds : List D} (hv : v.d = .lst ds) (h1 : 1 ≤ ds.length) (h2 : ds.length ≤ 1000) : ∃ (d : D) (u' : U), callF Ir.defs n "_law_pick" [u, v] = .ok (.fz d) [some u', none] ∧ d ∈ ds ∧ Gn (B + 1) u' := by
  obtain ⟨m, rfl, _⟩ := suc h
  obtain ⟨r, u', e, r1, r2, g⟩ := rnd_ok (n := m) (by omega) hg hB (ds.length : Int) (by omega) (by omega)
  suffices hs : (callF Ir.defs (m + 1) "_law_pick" [u, v]).G fun w os => ∃ (d : D) (u' : U), w = .fz d ∧ os = [some u', none] ∧ d ∈ ds ∧ Gn (B + 1) u' by
    obtain ⟨w, os, e, d, u', rfl, rfl, q⟩ := hs.ex
    exact ⟨d, u', e, q⟩
  rw [Cl.c__law_pick]
  obtain ⟨k, rfl⟩ : ∃ k : Nat, r = k := ⟨r.toNat, by omega⟩
  have hk : k < ds.length := by omega
  have e2 := atI_n (l := ds) (i := k) (List.getElem?_eq_getElem hk)
  simp [Ir.d__law_pick, hv, e, e2]
  exact g
theorem pows : ∃ q w : Int, opF .pow [.int 10, .int 60] = some (.fz (.int q)) ∧ opF .pow [.int q, .int 10] = some (.fz (.int w)) ∧ 0 < w := ⟨10 ^ 60, (10 ^ 60) ^ 10, by kernel_rfl, by kernel_rfl, by decide +kernel⟩
theorem gen_ok {n : Nat} (h : 2 ≤ n) (ns : List Int) (hl : ns.length ≤ 63) : ∃ u, callF Ir.defs n "_law_generator" [.fz (.lst (ns.map D.int)), .fz (.int 0)] = .ok u [none, none] ∧ Gn 0 u := by
  obtain ⟨m, rfl, _⟩ := suc h
  obtain ⟨k, rfl, _⟩ := suc (n := m) (k := 0) (by omega)
  suffices hs : (callF Ir.defs (k + 1 + 1) "_law_generator" [.fz (.lst (ns.map D.int)), .fz (.int 0)]).G fun u os => os = [none, none] ∧ Gn 0 u by
    obtain ⟨u, os, e, rfl, q⟩ := hs.ex
    exact ⟨u, e, q⟩
  have hc : ∃ s : Int, callF Ir.defs (k + 1) "_law_cell" [.fz (.lst (ns.map D.int)), .fz (.int 0)] = .ok (.fz (.int s)) [none, none] := by
    suffices hs : (callF Ir.defs (k + 1) "_law_cell" [.fz (.lst (ns.map D.int)), .fz (.int 0)]).G fun u os => os = [none, none] ∧ ∃ s : Int, u = .fz (.int s) by
      obtain ⟨u, os, e, rfl, s, rfl⟩ := hs.ex
      exact ⟨s, e⟩
    rw [Cl.c__law_cell]
    cases ns with
    | nil =>
      have e : opF .sum1 [.lst (cutD [] none (some 1))] = some (.fz (.int 0)) := by kernel_rfl
      simp [Ir.d__law_cell, Kont_run, e]
    | cons x ns => simp [Ir.d__law_cell, Kont_run]
  obtain ⟨s, hs⟩ := hc
  obtain ⟨q, w, p1, p2, p3⟩ := pows
  have p0 : opF .pow [.int 10, .int 18] = some (.fz (.int (10 ^ 18))) := by kernel_rfl
  have pm := mul_go (i := 1000) (j := 0) (by decide)
  rw [Cl.c__law_generator]
  simp [Ir.d__law_generator, hs]
  refine Kont.mk ?_
  simp [p0, p1, p2, p3, pm]
  exact ⟨_, _, _, rfl, Int.emod_nonneg _ (by omega), by have := Int.emod_lt_of_pos s (b := 2147483647) (by omega); omega, by omega, by omega⟩
/-! formulas -/
def thenOf : Ss → Ss
  | .cons (.ite _ a _) _ => a
  | _ => .nil
theorem fo_leaf {m : Nat} (h : 4 ≤ m) {B : Nat} {u v : U} (hg : Gn B u) (hB : B + 3 ≤ TOP) (hv : v.d = .lst [.str "a", .str "b"]) (dk : U) {N B' C : Pv.Env → Prop} {T : U → Pv.Env → Prop} (hT : ∀ (f : Fm) (u' : U) (ρ : Pv.Env), f.sz = 1 → f.dp = 1 → Gn (B + 3) u' → T (.fz f.enc) (some u' :: ρ)) :
    Kont (callF Ir.defs m) (thenOf Ir.d__law_formula.body) [0] N T B' C [some u, some v, some dk, none] := by
  obtain ⟨r, u1, e1, r1, r2, g1⟩ := rnd_ok (n := m) (by omega) hg (by omega) 7 (by omega) (by omega)
  obtain ⟨d, u2, e2, d1, g2⟩ := pick_ok (n := m) (by omega) g1 (by omega) hv (by simp) (by simp)
  refine Kont.mk ?_
  simp only [thenOf, Ir.d__law_formula]
  simp [e1]
  refine ite_mk (fun hr => ?_) (fun hr => ?_)
  · simp [e2]
    simp at d1
    rcases d1 with rfl | rfl
    · simp
      exact hT (.is .a) u2 _ rfl rfl (g2.mono (by omega))
    · simp
      exact hT (.is .b) u2 _ rfl rfl (g2.mono (by omega))
  · exact hT .no u1 _ rfl rfl (g1.mono (by omega))
theorem fo_ok : ∀ (k : Nat) {n : Nat} {B : Nat} {u v : U}, 2 * k + 5 ≤ n → k ≤ 5 → Gn B u → B + KK ^ n ≤ TOP → v.d = .lst [.str "a", .str "b"] → ∃ (f : Fm) (u' : U), callF Ir.defs n "_law_formula" [u, v, .fz (.int k)] = .ok (.fz f.enc) [some u', none, none] ∧ f.sz < 2 ^ (k + 1) ∧ f.dp ≤ k + 1 ∧ Gn (B + KK ^ n) u' := by
  intro k
  induction k with
  | zero =>
    intro n B u v h hk hg hB hv
    obtain ⟨m, rfl, hm⟩ := suc (n := n) (k := 4) (by omega)
    have hkk := kk_le m
    have hp := kk_pos m
    suffices hs : (callF Ir.defs (m + 1) "_law_formula" [u, v, .fz (.int 0)]).G fun w os => ∃ (f : Fm) (u' : U), w = .fz f.enc ∧ os = [some u', none, none] ∧ f.sz < 2 ^ (0 + 1) ∧ f.dp ≤ 0 + 1 ∧ Gn (B + KK ^ (m + 1)) u' by
      obtain ⟨w, os, e, f, u', rfl, rfl, q⟩ := hs.ex
      exact ⟨f, u', e, q⟩
    rw [Cl.c__law_formula]
    simp [Ir.d__law_formula]
    refine fo_leaf hm hg (by omega) hv _ fun f u' ρ hf hd g => ?_
    exact ⟨f, rfl, u', by simp, by omega, by omega, g.mono (by omega)⟩
  | succ k ih =>
    intro n B u v h hk hg hB hv
    obtain ⟨m, rfl, hm⟩ := suc (n := n) (k := 2 * (k + 1) + 4) (by omega)
    have hkk := kk_le m
    have hp := kk_pos m
    suffices hs : (callF Ir.defs (m + 1) "_law_formula" [u, v, .fz (.int (k + 1 : Nat))]).G fun w os => ∃ (f : Fm) (u' : U), w = .fz f.enc ∧ os = [some u', none, none] ∧ f.sz < 2 ^ (k + 1 + 1) ∧ f.dp ≤ k + 1 + 1 ∧ Gn (B + KK ^ (m + 1)) u' by
      obtain ⟨w, os, e, f, u', rfl, rfl, q⟩ := hs.ex
      exact ⟨f, u', e, q⟩
    have hk0 : ¬ ((k : Int) + 1 = 0) := by omega
    have hkk2 : (k : Int) + 1 - 1 = k := by omega
    obtain ⟨r, u1, e1, r1, r2, g1⟩ := rnd_ok (n := m) (by omega) hg (by omega) 4 (by omega) (by omega)
    rw [Cl.c__law_formula]
    simp [Ir.d__law_formula, hk0, e1]
    refine ite_mk (fun hr => ?_) (fun hr => ?_)
    · refine fo_leaf (by omega) g1 (by omega) hv _ fun f u' ρ hf hd g => ?_
      have : 2 ≤ 2 ^ (k + 1 + 1) := by rw [Nat.pow_succ, Nat.pow_succ]; have := Nat.one_le_pow k 2 (by decide); omega
      exact ⟨f, rfl, u', by simp, by omega, by omega, g.mono (by omega)⟩
    · refine Kont.mk ?_
      obtain ⟨d, u2, e2, d1, g2⟩ := pick_ok (n := m) (by omega) g1 (by omega) (v := .ul [.fz (.str "then"), .fz (.str "then"), .fz (.str "and"), .fz (.str "or"), .fz (.str "then")]) rfl (by simp) (by simp)
      simp [e2]
      refine Kont.mk ?_
      obtain ⟨f1, u3, e3, s3, p3, g3⟩ := ih (n := m) (B := B + 1 + 1) (u := u2) (v := .fz v.d) (by omega) (by omega) g2 (by omega) (by simpa using hv)
      obtain ⟨f2, u4, e4, s4, p4, g4⟩ := ih (n := m) (B := B + 1 + 1 + KK ^ m) (u := u3) (v := .fz v.d) (by omega) (by omega) g3 (by omega) (by simpa using hv)
      simp [hkk2, e3, e4]
      have key : ∀ w : J, (Fm.bin w f1 f2).sz < 2 ^ (k + 1 + 1) ∧ (Fm.bin w f1 f2).dp ≤ k + 1 + 1 ∧ Gn (B + KK ^ (m + 1)) u4 := fun w => by
        simp only [sz, dp]
        rw [Nat.pow_succ 2 (k + 1)]
        exact ⟨by omega, by omega, g4.mono (by omega)⟩
      simp at d1
      rcases d1 with rfl | rfl | rfl | rfl
      · exact ⟨.bin .then f1 f2, by simp, key _⟩
      · exact ⟨.bin .and f1 f2, by simp, key _⟩
      · exact ⟨.bin .or f1 f2, by simp, key _⟩
      · exact ⟨.bin .then f1 f2, by simp, key _⟩
end Sp

/-! Sp9: programs drawn. -/
namespace Sp
open Pv PySem Pv.Fm Km
theorem erase_map {α β : Type} (g : α → β) : ∀ (l : List α) (j : Nat), (l.map g).eraseIdx j = (l.eraseIdx j).map g
  | [], _ => by simp
  | x :: l, 0 => by simp
  | x :: l, j + 1 => by simp [erase_map g l j]
/-- an order drawn: its things are those -/
theorem do_ok {n : Nat} (h : 3 ≤ n) {B : Nat} {u v : U} (hg : Gn B u) (is : List Int) (hv : v.d = .lst (iD is)) (hl : is.length ≤ 1000) (hB : B + 1000 ≤ TOP) : ∃ (rs : List Int) (u' : U), callF Ir.defs n "_law_drawn_order" [u, v] = .ok (.ul (fzs (iD rs))) [some u', none] ∧ (∀ r ∈ rs, r ∈ is) ∧ rs.length ≤ is.length ∧ Gn (B + 1000) u' := by
  obtain ⟨m, rfl, _⟩ := suc h
  suffices hs : (callF Ir.defs (m + 1) "_law_drawn_order" [u, v]).G fun w os => ∃ (rs : List Int) (u' : U), w = .ul (fzs (iD rs)) ∧ os = [some u', none] ∧ (∀ r ∈ rs, r ∈ is) ∧ rs.length ≤ is.length ∧ Gn (B + 1000) u' by
    obtain ⟨w, os, e, rs, u', rfl, rfl, q⟩ := hs.ex
    exact ⟨rs, u', e, q⟩
  rw [Cl.c__law_drawn_order]
  simp [Ir.d__law_drawn_order, hv]
  refine Kont.mk ?_
  simp
  refine while_inv (fun k ρ => ∃ (L F : List Int) (g : U) (c : Nat), ρ = [some g, some (.fz (.lst (iD is))), some (.ul (fzs (iD L))), some (.ul (fzs (iD F)))] ∧ L.length = k ∧ c + k ≤ is.length ∧ F.length ≤ c ∧ Gn (B + c) g ∧ (∀ r ∈ L, r ∈ is) ∧ (∀ r ∈ F, r ∈ is)) (fun k ρ h => ?_) FUEL is.length _ ⟨is, [], u, 0, by simp [hv], rfl, by omega, by simp, hg, fun _ h => h, by simp⟩ (by unfold FUEL; omega)
  obtain ⟨L, F, g, c, rfl, h1, h2, h3, h4, h5, h6⟩ := h
  simp
  refine ite_mk (fun hL => ?_) (fun hL => ?_)
  · refine Kont.mk ?_
    simp
    exact ⟨F, by simp, h6, by omega, h4.mono (by omega)⟩
  · have hl0 : 0 < L.length := List.length_pos_iff.mpr hL
    obtain ⟨r, u', e, r1, r2, g'⟩ := rnd_ok (n := m) (by omega) h4 (by omega) (L.length : Int) (by omega) (by omega)
    obtain ⟨j, rfl⟩ : ∃ j : Nat, r = j := ⟨r.toNat, by omega⟩
    have hj : j < L.length := by omega
    have e1 : L2.ixN L.length (j : Int) = some j := by
      unfold L2.ixN
      rw [if_pos (by omega), if_pos (by omega)]; simp
    have e2 : (fzs (iD L))[j]? = some (.fz (.int L[j])) := by
      simp [fzs, iD, hj]
    have c1 : L.length ≤ LIM := by rw [lim_def]; omega
    have c2 : F.length < LIM := by rw [lim_def]; omega
    simp [e, e1, e2, c1, c2]
    refine ⟨k - 1, by omega, L.eraseIdx j, F ++ [L[j]], u', ⟨rfl, ?_, by simp [iD, fzs]⟩, by rw [List.length_eraseIdx, if_pos hj]; omega, c + 1, by omega, by simp; omega, g', fun r hr => h5 r (List.mem_of_mem_eraseIdx hr), fun r hr => ?_⟩
    · simp only [fzs, iD, List.map_map]
      exact erase_map _ _ _
    · rcases List.mem_append.mp hr with h | h
      · exact h6 r h
      · simp at h
        subst h
        exact h5 _ (List.getElem_mem hj)
theorem kp_ok : ∀ (f : Fm) {n : Nat}, f.dp ≤ n → f.sz ≤ 50 → (callF Ir.defs n "_law_kind_parts" [.fz f.enc]).G fun u os => u.d = .lst (encs (parts f)) ∧ os = [none] := by
  intro f
  induction f with
  | is x =>
    intro n h hs
    obtain ⟨m, rfl, _⟩ := suc (n := n) (k := 0) (by simp [dp] at h; omega)
    rw [Cl.c__law_kind_parts]
    simp [Ir.d__law_kind_parts, Kont_run, parts, encs_cons]
  | no =>
    intro n h hs
    obtain ⟨m, rfl, _⟩ := suc (n := n) (k := 0) (by simp [dp] at h; omega)
    rw [Cl.c__law_kind_parts]
    simp [Ir.d__law_kind_parts, Kont_run, parts, encs_cons]
  | bin w a b h1 h2 =>
    intro n h hs
    simp only [dp] at h
    simp only [sz] at hs
    obtain ⟨m, rfl, _⟩ := suc (n := n) (k := 0) (by omega)
    obtain ⟨u1, o1, e1, e2, rfl⟩ := (h1 (n := m) (by omega) (by omega)).ex
    obtain ⟨u2, o2, e3, e4, rfl⟩ := (h2 (n := m) (by omega) (by omega)).ex
    have l1 := parts_len a
    have l2 := parts_len b
    rw [Cl.c__law_kind_parts]
    cases w <;> simp [Ir.d__law_kind_parts] <;> refine Kont.mk ?_ <;> simp (disch := omega) [e1, e2, e3, e4, limT, l1, l2] <;> simp [parts, encs_cons, encs_app]
/-! programs -/
inductive W1 where | func | first | second | left | right | absurd
inductive W2 where | call | pair
def W1.s : W1 → String | .func => "func" | .first => "first" | .second => "second" | .left => "left" | .right => "right" | .absurd => "absurd"
def W2.s : W2 → String | .call => "call" | .pair => "pair"
inductive Pr where
  | nm (i : Int) | n1 (w : W1) (p : Pr) | n2 (w : W2) (p q : Pr) | ch (p q r : Pr)
namespace Pr
def en : Pr → D
  | .nm i => .tup [.str (Str.ofString "name"), .int i]
  | .n1 w p => .tup [.str (Str.ofString w.s), p.en]
  | .n2 w p q => .tup [.str (Str.ofString w.s), p.en, q.en]
  | .ch p q r => .tup [.str (Str.ofString "choose"), p.en, q.en, r.en]
def size : Pr → Nat
  | .nm _ => 1
  | .n1 _ p => p.size + 1
  | .n2 _ p q => p.size + q.size + 1
  | .ch p q r => p.size + q.size + r.size + 1
def deep : Pr → Nat
  | .nm _ => 1
  | .n1 _ p => p.deep + 1
  | .n2 _ p q => max p.deep q.deep + 1
  | .ch p q r => max p.deep (max q.deep r.deep) + 1
def inn : Pr → List Pr
  | .nm _ => []
  | .n1 _ p => [p]
  | .n2 _ p q => [p, q]
  | .ch p q r => [p, q, r]
end Pr
theorem inn_ok {n : Nat} (h : 1 ≤ n) (p : Pr) : callF Ir.defs n "_law_inner" [.fz p.en] = .ok (.ul (fzs (p.inn.map Pr.en))) [none] := by
  obtain ⟨m, rfl, _⟩ := suc h
  cases p with
  | nm i => kernel_rfl
  | n1 w p => cases w <;> kernel_rfl
  | n2 w p q => cases w <;> kernel_rfl
  | ch p q r => kernel_rfl
def sizes (l : List Pr) : Nat := (l.map Pr.size).sum
theorem size_inn (p : Pr) : p.size = sizes p.inn + 1 := by cases p <;> simp [Pr.size, Pr.inn, sizes] <;> omega
theorem deep_inn {p q : Pr} (h : q ∈ p.inn) : q.deep + 1 ≤ p.deep := by
  cases p <;> simp [Pr.inn] at h
  · subst h; simp [Pr.deep]
  · rcases h with rfl | rfl <;> simp only [Pr.deep] <;> omega
  · rcases h with rfl | rfl | rfl <;> simp only [Pr.deep] <;> omega
theorem pl_ok : ∀ (k : Nat) {p : Pr} {n : Nat} {v : U} {ds : List D}, p.deep ≤ k → k < n → p.size ≤ 10000 → v.d = .tup ds → ds.length + k ≤ 1000 → (callF Ir.defs n "_law_places" [.fz p.en, v]).G fun u os => (∃ es, u.d = .lst es ∧ es.length = p.size) ∧ os = [none, none] := by
  intro k
  induction k with
  | zero => intro p n v ds h; cases p <;> simp [Pr.deep] at h
  | succ k ih =>
    intro p n v ds h1 h2 h3 h4 h5
    obtain ⟨m, rfl, hm⟩ := suc (n := n) (k := k + 1) (by omega)
    have hsz := size_inn p
    rw [Cl.c__law_places]
    simp [Ir.d__law_places, h4]
    refine Kont.mk ?_
    simp [inn_ok (n := m) (by omega) p, h4]
    refine for_inv (fun q ρ => ∃ (j : Nat) (ps : List Pr) (w : U) (es : List D) (x3 x4 : Option U), q = ((ps.map Pr.en).zipIdx j).map (fun p => D.tup [.int p.2, p.1]) ∧ (∀ q ∈ ps, q ∈ p.inn) ∧ ρ = [some (.fz p.en), some (.fz (.tup ds)), some w, x3, x4] ∧ w.d = .lst es ∧ es.length + sizes ps = p.size) (fun ρ h => ?_) (fun d q ρ h => ?_) _ _ ⟨0, p.inn, _, _, _, _, rfl, fun _ h => h, rfl, rfl, by simp; omega⟩
    · obtain ⟨j, ps, w, es, x3, x4, e1, e2, rfl, e3, e4⟩ := h
      have : ps = [] := by cases ps with
        | nil => rfl
        | cons a b => simp at e1
      subst this
      refine Kont.mk ?_
      simp
      exact ⟨es, e3, by simpa [sizes] using e4⟩
    · obtain ⟨j, ps, w, es, x3, x4, e1, e2, rfl, e3, e4⟩ := h
      cases ps with
      | nil => simp at e1
      | cons p1 ps =>
        simp only [List.map_cons, List.zipIdx_cons, List.cons.injEq] at e1
        obtain ⟨rfl, rfl⟩ := e1
        have hd := deep_inn (e2 p1 (by simp))
        simp only [sizes, List.map_cons, List.sum_cons] at e4
        obtain ⟨u, os, e5, ⟨fs, e6, e7⟩, rfl⟩ := (ih (p := p1) (n := m) (v := .fz (.tup (ds ++ [.int j]))) (ds := ds ++ [.int j]) (by omega) (by omega) (by omega) rfl (by simp; omega)).ex
        simp (disch := omega) [limT, e3, e5, e6]
        exact ⟨j + 1, ps, rfl, fun q hq => e2 q (by simp [hq]), by unfold sizes; omega⟩
end Sp

/-! Sp10: proofs drawn. -/
namespace Sp
open Pv PySem Pv.Fm Km
/-- None, or a program that is not too great; the generator comes back -/
def RP (S Dp B j : Nat) : U → List (Option U) → Prop := fun w os => (∃ d, w = .fz d ∧ (d = .non ∨ ∃ p : Pr, d = p.en ∧ p.size ≤ S ∧ p.deep ≤ Dp)) ∧ ∃ u', os = some u' :: List.replicate j none ∧ Gn B u'
theorem RP.mono {S S' Dp Dp' B B' j : Nat} {w : U} {os : List (Option U)} (h : RP S Dp B j w os) (h1 : S ≤ S') (h2 : Dp ≤ Dp') (h3 : B ≤ B') : RP S' Dp' B' j w os := by
  obtain ⟨⟨d, e, h4⟩, u', e2, g⟩ := h
  refine ⟨⟨d, e, ?_⟩, u', e2, g.mono h3⟩
  rcases h4 with h4 | ⟨p, e3, h5, h6⟩
  · exact .inl h4
  · exact .inr ⟨p, e3, by omega, by omega⟩
/-- a program, or none -/
theorem RP.cases {r : RC} {S Dp B j : Nat} (h : r.G (RP S Dp B j)) : (∃ u', r = .ok (.fz .non) (some u' :: List.replicate j none) ∧ Gn B u') ∨ ∃ (p : Pr) (u' : U), r = .ok (.fz p.en) (some u' :: List.replicate j none) ∧ Gn B u' ∧ p.size ≤ S ∧ p.deep ≤ Dp := by
  obtain ⟨u, os, e, ⟨d, rfl, h⟩, u', rfl, g⟩ := h.ex
  rcases h with rfl | ⟨p, rfl, h1, h2⟩
  · exact .inl ⟨u', e, g⟩
  · exact .inr ⟨p, u', e, g, h1, h2⟩
theorem RP.none' (S Dp : Nat) {B j : Nat} {u' : U} (g : Gn B u') : RP S Dp B j (.fz .non) (some u' :: List.replicate j none) := ⟨⟨_, rfl, .inl rfl⟩, u', rfl, g⟩
theorem RP.some' {S Dp B j : Nat} {u' : U} (p : Pr) (g : Gn B u') (h1 : p.size ≤ S) (h2 : p.deep ≤ Dp) : RP S Dp B j (.fz p.en) (some u' :: List.replicate j none) := ⟨⟨_, rfl, .inr ⟨p, rfl, h1, h2⟩⟩, u', rfl, g⟩
@[simp high] theorem notN_en (p : Pr) : opF .notN [p.en] = some (.fz (.bl true)) := by cases p <;> rfl
@[simp high] theorem isN_en (p : Pr) : opF .isN [p.en] = some (.fz (.bl false)) := by cases p <;> rfl
@[simp] theorem t_func (p : Pr) : D.tup [.str (Str.ofString "func"), p.en] = (Pr.n1 .func p).en := rfl
@[simp] theorem t_first (p : Pr) : D.tup [.str (Str.ofString "first"), p.en] = (Pr.n1 .first p).en := rfl
@[simp] theorem t_second (p : Pr) : D.tup [.str (Str.ofString "second"), p.en] = (Pr.n1 .second p).en := rfl
@[simp] theorem t_left (p : Pr) : D.tup [.str (Str.ofString "left"), p.en] = (Pr.n1 .left p).en := rfl
@[simp] theorem t_right (p : Pr) : D.tup [.str (Str.ofString "right"), p.en] = (Pr.n1 .right p).en := rfl
@[simp] theorem t_absurd (p : Pr) : D.tup [.str (Str.ofString "absurd"), p.en] = (Pr.n1 .absurd p).en := rfl
@[simp] theorem t_call (p q : Pr) : D.tup [.str (Str.ofString "call"), p.en, q.en] = (Pr.n2 .call p q).en := rfl
@[simp] theorem t_pair (p q : Pr) : D.tup [.str (Str.ofString "pair"), p.en, q.en] = (Pr.n2 .pair p q).en := rfl
@[simp] theorem t_choose (p q r : Pr) : D.tup [.str (Str.ofString "choose"), p.en, q.en, r.en] = (Pr.ch p q r).en := rfl
@[simp] theorem t_name (i : Int) : D.tup [.str (Str.ofString "name"), .int i] = (Pr.nm i).en := rfl
theorem led_stop {m : Nat} {B : Nat} {u : U} {A : List Fm} {f g : Fm} {p : Pr} (hg : Gn B u) (h1 : g.dp ≤ 60) (h2 : f.dp ≤ 60) (hb : ∀ a b, g ≠ .bin .and a b) (S Dp : Nat) (hS : p.size + 1 ≤ S) (hD : p.deep + 1 ≤ Dp) : (callF Ir.defs (m + 1) "_law_led" [u, .fz (.lst (encs A)), .fz p.en, .fz g.enc, .fz f.enc, .fz (.int 0)]).G (RP S Dp B 5) := by
  rw [Cl.c__law_led]
  simp [Ir.d__law_led, h1, h2]
  refine ite_mk (fun e => ?_) (fun e => ?_)
  · refine Kont.mk ?_
    simp
    exact RP.some' p hg (by omega) (by omega)
  refine Kont.mk ?_
  simp [h1]
  refine ite_mk (fun e => ?_) (fun e => ?_)
  · refine Kont.mk ?_
    simp
    exact RP.some' (.n1 .absurd p) hg (by simp only [Pr.size]; omega) (by simp only [Pr.deep]; omega)
  refine Kont.mk ?_
  cases g with
  | is x =>
    simp
    refine Kont.mk ?_
    simp
    refine Kont.mk ?_
    simp
    exact RP.none' _ _ hg
  | no => exact absurd rfl e
  | bin w a b =>
    cases w with
    | and => exact absurd rfl (hb a b)
    | or =>
      simp
      refine Kont.mk ?_
      simp
      refine Kont.mk ?_
      simp
      exact RP.none' _ _ hg
    | «then» =>
      simp
      refine Kont.mk ?_
      simp
      refine Kont.mk ?_
      simp
      exact RP.none' _ _ hg
/-- both sides of an "and" are gone into -/
theorem led_and {m : Nat} {u : U} {A : List Fm} {f a b : Fm} {p : Pr} (k : Int) (h1 : (Fm.bin .and a b).dp ≤ 60) (h2 : f.dp ≤ 60) (S Dp X : Nat) (hS : p.size + 1 ≤ S) (hD : p.deep + 1 ≤ Dp) (B1 B2 : Nat) (hg2 : Gn B2 u)
    (i1 : (callF Ir.defs m "_law_led" [u, .fz (.lst (encs A)), .fz (Pr.n1 .first p).en, .fz a.enc, .fz f.enc, .fz (.int k)]).G (RP S Dp B1 5))
    (i2 : ∀ u', Gn B1 u' → (callF Ir.defs m "_law_led" [u', .fz (.lst (encs A)), .fz (Pr.n1 .second p).en, .fz b.enc, .fz f.enc, .fz (.int k)]).G (RP S Dp B2 5)) (h12 : B1 ≤ B2) :
    (callF Ir.defs (m + 1) "_law_led" [u, .fz (.lst (encs A)), .fz p.en, .fz (Fm.bin .and a b).enc, .fz f.enc, .fz (.int k)]).G (RP S Dp B2 5) := by
  rw [Cl.c__law_led]
  simp [Ir.d__law_led, h1, h2]
  refine ite_mk (fun e => ?_) (fun e => ?_)
  · refine Kont.mk ?_
    simp
    exact RP.some' p hg2 (by omega) (by omega)
  refine Kont.mk ?_
  simp [h1]
  refine Kont.mk ?_
  simp
  refine Kont.mk ?_
  rcases RP.cases i1 with ⟨u1, e1, g1⟩ | ⟨q, u1, e1, g1, q1, q2⟩
  · simp [e1]
    refine Kont.mk ?_
    rcases RP.cases (i2 u1 g1) with ⟨u2, e2, g2⟩ | ⟨q, u2, e2, g2, q1, q2⟩
    · simp [e2]
      exact RP.none' _ _ g2
    · simp [e2]
      exact RP.some' q g2 (by omega) (by omega)
  · simp [e1]
    refine Kont.mk ?_
    simp
    exact RP.some' q (g1.mono h12) (by omega) (by omega)
/-- led, at the last level -/
theorem led0 : ∀ (g : Fm) {n : Nat} {B : Nat} {u : U} {A : List Fm} {f : Fm} {p : Pr}, g.dp + 1 ≤ n → Gn B u → g.dp ≤ 60 → f.dp ≤ 60 → (callF Ir.defs n "_law_led" [u, .fz (.lst (encs A)), .fz p.en, .fz g.enc, .fz f.enc, .fz (.int 0)]).G (RP (p.size + g.dp) (p.deep + g.dp) B 5) := by
  intro g
  induction g with
  | is x =>
    intro n B u A f p h hg h1 h2
    obtain ⟨m, rfl, _⟩ := suc (n := n) (k := 0) (by omega)
    exact led_stop hg h1 h2 (fun _ _ e => by cases e) _ _ (by simp [dp]) (by simp [dp])
  | no =>
    intro n B u A f p h hg h1 h2
    obtain ⟨m, rfl, _⟩ := suc (n := n) (k := 0) (by omega)
    exact led_stop hg h1 h2 (fun _ _ e => by cases e) _ _ (by simp [dp]) (by simp [dp])
  | bin w a b ha hb =>
    intro n B u A f p h hg h1 h2
    obtain ⟨m, rfl, _⟩ := suc (n := n) (k := 0) (by omega)
    cases w with
    | or => exact led_stop hg h1 h2 (fun _ _ e => by cases e) _ _ (by simp [dp]) (by simp [dp])
    | «then» => exact led_stop hg h1 h2 (fun _ _ e => by cases e) _ _ (by simp [dp]) (by simp [dp])
    | and =>
      have h3 := h1
      simp only [dp] at h h3
      refine led_and 0 h1 h2 _ _ 0 (by simp only [dp]; omega) (by simp only [dp]; omega) B B hg ?_ (fun u' g' => ?_) (Nat.le_refl _)
      · refine (ha (n := m) (A := A) (f := f) (p := .n1 .first p) (by omega) hg (by omega) h2).mono fun w os q => q.mono ?_ ?_ (Nat.le_refl _)
        · simp only [Pr.size, dp]; omega
        · simp only [Pr.deep, dp]; omega
      · refine (hb (n := m) (A := A) (f := f) (p := .n1 .second p) (by omega) g' (by omega) h2).mono fun w os q => q.mono ?_ ?_ (Nat.le_refl _)
        · simp only [Pr.size, dp]; omega
        · simp only [Pr.deep, dp]; omega
end Sp

/-! Sp11: proofs drawn: used. -/
namespace Sp
open Pv PySem Pv.Fm Km
abbrev eA (A : List Fm) : U := .fz (.lst (encs A))
/-- what a call of _law_proved does -/
def PrOk (m : Nat) (A : List Fm) (c : Fm) (k : Int) (S Dp : Nat) : Prop := ∀ (B : Nat) (u v : U), v.d = .lst (encs A) → Gn B u → B + KK ^ m ≤ TOP → (callF Ir.defs m "_law_proved" [u, v, .fz c.enc, .fz (.int k)]).G (RP S Dp (B + KK ^ m) 3)
def LdOk (m : Nat) (A : List Fm) (f : Fm) (k : Int) (S Dp : Nat) : Prop := ∀ (B : Nat) (u : U) (g : Fm) (i : Int), Gn B u → B + KK ^ m ≤ TOP → g ∈ A → (callF Ir.defs m "_law_led" [u, eA A, .fz (Pr.nm i).en, .fz g.enc, .fz f.enc, .fz (.int k)]).G (RP S Dp (B + KK ^ m) 5)
theorem us_three {m : Nat} {k : Int} (hk : k = 0 ∨ k = 1) {A : List Fm} {f : Fm} {S Dp : Nat} (hS : 1 ≤ S) (hD : 1 ≤ Dp)
    (hch : k = 1 → ∀ a b, f = .bin .or a b → PrOk m A a 0 (S - 1) (Dp - 1) ∧ PrOk m A b 0 (S - 1) (Dp - 1)) {N B' C : Pv.Env → Prop} {B X : Nat} {u : U} (hg : Gn B u) (hB : B + 2 * KK ^ m ≤ X) (hX : X ≤ TOP) (x4 x5 x6 x7 : Option U) :
    Kont (callF Ir.defs m) (sdrop 2 Ir.d__law_used.body) [0] N (fun u ρ => RP S Dp X 3 u (outs [0] 4 ρ)) B' C [some u, some (eA A), some (.fz f.enc), some (.fz (.int k)), x4, x5, x6, x7] := by
  refine Kont.mk ?_
  simp only [sdrop, Ir.d__law_used]
  have none' : ∀ (g : U) (x5 x6 : Option U), Gn X g → Kont (callF Ir.defs m) (.cons (.ret (.cst .non)) .nil) [0] N (fun u ρ => RP S Dp X 3 u (outs [0] 4 ρ)) B' C [some g, some (eA A), some (.fz f.enc), some (.fz (.int k)), x4, x5, x6, x7] := fun g x5 x6 hg => by
    refine Kont.mk ?_
    simp
    exact RP.none' _ _ hg
  cases f with
  | is x =>
    simp
    exact none' u _ _ (hg.mono (by omega))
  | no =>
    simp
    exact none' u _ _ (hg.mono (by omega))
  | bin w a b =>
    cases w with
    | and =>
      simp
      exact none' u _ _ (hg.mono (by omega))
    | «then» =>
      simp
      exact none' u _ _ (hg.mono (by omega))
    | or =>
      simp
      refine Kont.mk ?_
      simp
      refine for_inv (fun q ρ => ∃ (c : Nat) (g : U) (x5 x6 : Option U), ρ = [some g, some (eA A), some (.fz (Fm.bin .or a b).enc), some (.fz (.int k)), x4, x5, x6, x7] ∧ (q = [.int 0, .int 1] ∨ q = [.int 1] ∨ q = []) ∧ Gn c g ∧ c + q.length * KK ^ m ≤ X) (fun ρ h => ?_) (fun d q ρ h => ?_) _ _ ⟨B, u, x5, x6, rfl, .inl rfl, hg, by simp; omega⟩
      · obtain ⟨c, g, x5, x6, rfl, _, h1, h2⟩ := h
        exact none' g x5 x6 (h1.mono (by simp at h2; omega))
      · obtain ⟨c, g, x5, x6, rfl, hq, h1, h2⟩ := h
        have hm := Nat.succ_mul q.length (KK ^ m)
        simp only [List.length_cons, Nat.succ_eq_add_one] at h2 hm
        rw [hm] at h2
        have hq2 : (d = .int 0 ∧ q = [.int 1]) ∨ (d = .int 1 ∧ q = []) := by
          rcases hq with h | h | h
          · simp at h; exact .inl h
          · simp at h; exact .inr h
          · simp at h
        have hq3 : q = [.int 0, .int 1] ∨ q = [.int 1] ∨ q = [] := by
          rcases hq2 with h | h
          · exact .inr (.inl h.2)
          · exact .inr (.inr h.2)
        rcases hk with rfl | rfl
        · rcases hq2 with ⟨rfl, _⟩ | ⟨rfl, _⟩
          · simp
            refine Kont.mk ?_
            simp
            exact ⟨hq3, c, h1, by omega⟩
          · simp
            refine Kont.mk ?_
            simp
            exact ⟨hq3, c, h1, by omega⟩
        · obtain ⟨pa, pb⟩ := hch rfl a b rfl
          rcases hq2 with ⟨rfl, _⟩ | ⟨rfl, _⟩
          · rcases RP.cases (pa c g (eA A) rfl h1 (by omega)) with ⟨u1, e1, g1⟩ | ⟨p, u1, e1, g1, q1, q2⟩
            · simp [e1]
              refine Kont.mk ?_
              simp
              exact ⟨hq3, _, g1, by omega⟩
            · simp [e1]
              refine Kont.mk ?_
              simp
              refine Kont.mk ?_
              simp
              exact RP.some' (.n1 .left p) (g1.mono (by omega)) (by simp only [Pr.size]; omega) (by simp only [Pr.deep]; omega)
          · rcases RP.cases (pb c g (eA A) rfl h1 (by omega)) with ⟨u1, e1, g1⟩ | ⟨p, u1, e1, g1, q1, q2⟩
            · simp [e1]
              refine Kont.mk ?_
              simp
              exact ⟨hq3, _, g1, by omega⟩
            · simp [e1]
              refine Kont.mk ?_
              simp
              refine Kont.mk ?_
              simp
              exact RP.some' (.n1 .right p) (g1.mono (by omega)) (by simp only [Pr.size]; omega) (by simp only [Pr.deep]; omega)
def rl (n : Nat) : List Int := (List.range n).map Int.ofNat
theorem us_two {m : Nat} {k : Int} (hm3 : 3 ≤ m) (hk : k = 0 ∨ k = 1) {A : List Fm} {f : Fm} {S Dp : Nat} (hS : 1 ≤ S) (hD : 1 ≤ Dp) (hA : A.length ≤ 900) (hled : LdOk m A f k S Dp)
    (hch : k = 1 → ∀ a b, f = .bin .or a b → PrOk m A a 0 (S - 1) (Dp - 1) ∧ PrOk m A b 0 (S - 1) (Dp - 1)) {N B' C : Pv.Env → Prop} {B X : Nat} {u : U} (hg : Gn B u) (hB : B + 903 * KK ^ m + 1000 ≤ X) (hX : X ≤ TOP) (x5 x6 : Option U) :
    Kont (callF Ir.defs m) (sdrop 1 Ir.d__law_used.body) [0] N (fun u ρ => RP S Dp X 3 u (outs [0] 4 ρ)) B' C [some u, some (eA A), some (.fz f.enc), some (.fz (.int k)), none, x5, x6, none] := by
  refine Kont.mk ?_
  have hp := kk_pos m
  obtain ⟨rs, u1, e1, h1, hrl, g1⟩ := do_ok (n := m) (by omega) hg (rl A.length) (v := .ul (fzs (iD (rl A.length)))) (by simp) (by simp [rl]; omega) (by omega)
  have hrg : opF .rngl [.int (A.length : Int)] = some (.ul (fzs (iD (rl A.length)))) := by
    rw [o_rngl, if_pos ⟨by omega, by rw [lim_def]; omega⟩]
    simp [rgD, iD, rl]
    rfl
  have hrl2 : rs.length * KK ^ m ≤ 900 * KK ^ m := Nat.mul_le_mul_right _ (by simp [rl] at hrl; omega)
  simp only [sdrop, Ir.d__law_used]
  simp [hrg, e1]
  refine for_inv (fun q ρ => ∃ (c : Nat) (g : U) (rs' : List Int) (x4 x7 : Option U), q = iD rs' ∧ (∀ r ∈ rs', r ∈ rl A.length) ∧ ρ = [some g, some (eA A), some (.fz f.enc), some (.fz (.int k)), x4, x5, x6, x7] ∧ Gn c g ∧ c + rs'.length * KK ^ m + 2 * KK ^ m ≤ X) (fun ρ h => ?_) (fun d q ρ h => ?_) _ _ ⟨B + 1000, u1, rs, none, none, rfl, h1, rfl, g1, by omega⟩
  · obtain ⟨c, g, rs', x4, x7, e2, _, rfl, h2, h3⟩ := h
    exact us_three hk hS hD hch h2 (by omega) hX _ _ _ _
  · obtain ⟨c, g, rs', x4, x7, e2, h4, rfl, h2, h3⟩ := h
    cases rs' with
    | nil => simp at e2
    | cons r rs' =>
      simp only [iD, List.map_cons, List.cons.injEq] at e2
      obtain ⟨rfl, rfl⟩ := e2
      have hm := Nat.succ_mul rs'.length (KK ^ m)
      simp only [List.length_cons, Nat.succ_eq_add_one] at h3 hm
      rw [hm] at h3
      obtain ⟨j, hj, rfl⟩ : ∃ j : Nat, j < A.length ∧ (j : Int) = r := by simpa [rl] using h4 r (by simp)
      have e3 := at_encs (List.getElem?_eq_getElem hj)
      have h5 : ∀ r ∈ rs', r ∈ rl A.length := fun r hr => h4 r (by simp [hr])
      rcases RP.cases (hled c g A[j] (j : Int) h2 (by omega) (List.getElem_mem hj)) with ⟨u1, e1, g1⟩ | ⟨p, u1, e1, g1, q1, q2⟩
      · simp [e3, e1]
        refine Kont.mk ?_
        simp
        exact ⟨_, u1, rs', rfl, h5, rfl, g1, by omega⟩
      · simp [e3, e1]
        refine Kont.mk ?_
        simp
        refine Kont.mk ?_
        simp
        exact RP.some' p (g1.mono (by omega)) (by omega) (by omega)
theorem us_ok {m : Nat} {k : Int} (hm3 : 3 ≤ m) (hk : k = 0 ∨ k = 1) {A : List Fm} {f : Fm} {S Dp : Nat} (hS : 1 ≤ S) (hD : 1 ≤ Dp) (hA : A.length ≤ 900) (hled : LdOk m A f k S Dp)
    (hch1 : ∀ a b, f = .bin .or a b → PrOk m A a k (S - 1) (Dp - 1) ∧ PrOk m A b k (S - 1) (Dp - 1))
    (hch : k = 1 → ∀ a b, f = .bin .or a b → PrOk m A a 0 (S - 1) (Dp - 1) ∧ PrOk m A b 0 (S - 1) (Dp - 1)) {B : Nat} {u : U} (hg : Gn B u) (hB : B + KK ^ (m + 1) ≤ TOP) :
    (callF Ir.defs (m + 1) "_law_used" [u, eA A, .fz f.enc, .fz (.int k)]).G (RP S Dp (B + KK ^ (m + 1)) 3) := by
  have hkk := kk_le m
  have hp := kk_pos m
  have go : ∀ (B' : Nat) (g : U) (x5 x6 : Option U) (N C1 C2 : Pv.Env → Prop), Gn B' g → B' ≤ B + KK ^ m + 2 → Kont (callF Ir.defs m) (sdrop 1 Ir.d__law_used.body) [0] N (fun u ρ => RP S Dp (B + KK ^ (m + 1)) 3 u (outs [0] 4 ρ)) C1 C2 [some g, some (eA A), some (.fz f.enc), some (.fz (.int k)), none, x5, x6, none] := fun B' g x5 x6 N C1 C2 hg hB' => us_two hm3 hk hS hD hA hled hch hg (by omega) hB _ _
  rw [Cl.c__law_used]
  simp [Ir.d__law_used]
  cases f with
  | is x =>
    simp
    exact go _ _ _ _ _ _ _ hg (by omega)
  | no =>
    simp
    exact go _ _ _ _ _ _ _ hg (by omega)
  | bin w a b =>
    cases w with
    | and =>
      simp
      exact go _ _ _ _ _ _ _ hg (by omega)
    | «then» =>
      simp
      exact go _ _ _ _ _ _ _ hg (by omega)
    | or =>
      obtain ⟨pa, pb⟩ := hch1 a b rfl
      obtain ⟨r, u1, e1, r1, r2, g1⟩ := rnd_ok (n := m) (by omega) hg (by omega) 2 (by omega) (by omega)
      simp [e1]
      refine ite_mk (fun hr => ?_) (fun hr => ?_)
      · obtain ⟨s, u2, e2, s1, s2, g2⟩ := rnd_ok (n := m) (by omega) g1 (by omega) 2 (by omega) (by omega)
        refine Kont.mk ?_
        simp [e2]
        refine Kont.mk ?_
        have hs : s = 0 ∨ s = 1 := by omega
        rcases hs with rfl | rfl
        · rcases RP.cases (pa _ _ (eA A) rfl g2 (by omega)) with ⟨u3, e3, g3⟩ | ⟨p, u3, e3, g3, q1, q2⟩
          · simp [e3]
            refine Kont.mk ?_
            simp
            exact go _ _ _ _ _ _ _ g3 (by omega)
          · simp [e3]
            refine Kont.mk ?_
            simp
            refine Kont.mk ?_
            simp
            exact RP.some' (.n1 .left p) (g3.mono (by omega)) (by simp only [Pr.size]; omega) (by simp only [Pr.deep]; omega)
        · rcases RP.cases (pb _ _ (eA A) rfl g2 (by omega)) with ⟨u3, e3, g3⟩ | ⟨p, u3, e3, g3, q1, q2⟩
          · simp [e3]
            refine Kont.mk ?_
            simp
            exact go _ _ _ _ _ _ _ g3 (by omega)
          · simp [e3]
            refine Kont.mk ?_
            simp
            refine Kont.mk ?_
            simp
            exact RP.some' (.n1 .right p) (g3.mono (by omega)) (by simp only [Pr.size]; omega) (by simp only [Pr.deep]; omega)
      · exact go _ _ _ _ _ _ _ g1 (by omega)
end Sp

/-! Sp12: proofs drawn. -/
namespace Sp
open Pv PySem Pv.Fm Km
def DtOk (m : Nat) (A : List Fm) (f : Fm) (S Dp : Nat) : Prop := ∀ (B : Nat) (u : U), Gn B u → B + KK ^ m ≤ TOP → (callF Ir.defs m "_law_detour" [u, eA A, .fz f.enc, .fz (.int 0)]).G (RP S Dp (B + KK ^ m) 3)
def UsOk (m : Nat) (A : List Fm) (f : Fm) (k : Int) (S Dp : Nat) : Prop := ∀ (B : Nat) (u : U), Gn B u → B + KK ^ m ≤ TOP → (callF Ir.defs m "_law_used" [u, eA A, .fz f.enc, .fz (.int k)]).G (RP S Dp (B + KK ^ m) 3)
theorem index_ok {A : List Fm} {f : Fm} (hA : Sm A) (hf : f.dp ≤ 60) (h : f ∈ A) : ∃ i : Int, opF .index [.lst (encs A), f.enc] = some (.fz (.int i)) := by
  obtain ⟨p, e1, _⟩ := D.good_data (fm_good f)
  obtain ⟨qs, e2, _⟩ := Ds.good_data (fms_good A)
  have s1 := shaped_good (fm_good f) (by simp; omega) e1
  have s2 := shaped_good (d := .lst (encs A)) (p := .list qs) (by simp) (by simp; have := hA.dep; omega) (by simp [D.data, e2])
  have key : ∀ (l : List Fm) (qs : List PyData) (n : Nat), Ds.data (encs l) = some qs → f ∈ l → ∃ i, indexD p qs n = some i := by
    intro l
    induction l with
    | nil => intro qs n _ h; simp at h
    | cons g l ih =>
      intro qs n e h
      simp only [encs, List.map_cons, Ds.data] at e
      split at e
      · rename_i q qs' e3 e4
        cases e
        unfold indexD
        rw [D.eqv_beq (fm_good g) (fm_good f) e3 e1, Fm.beq]
        by_cases hgf : g = f
        · simp [hgf]
        · simp [hgf]
          rcases List.mem_cons.mp h with h | h
          · exact absurd h.symm hgf
          · exact ih qs' (n + 1) e4 h
      · cases e
  obtain ⟨i, hi⟩ := key A qs 0 e2 h
  exact ⟨(i : Int), by simp only [opF, e1, e2, s1, s2, hi]; rfl⟩
theorem pr_step {m : Nat} {k : Int} (hm : 2 ≤ m) (hk : k = 0 ∨ k = 1) {A : List Fm} {f : Fm} {S Dp : Nat} (hS : 1 ≤ S) (hD : 1 ≤ Dp) (hA : Sm A) (hf : f.dp ≤ 60) (hl : A.length ≤ 900) (hdt : k = 1 → DtOk m A f S Dp)
    (hthen : ∀ a b, f = .bin .then a b → PrOk m (a :: A) b k (S - 1) (Dp - 1)) (hand : ∀ a b, f = .bin .and a b → ∃ Sa Sb Da, PrOk m A a k Sa Da ∧ PrOk m A b k Sb Da ∧ Sa + Sb + 1 ≤ S ∧ Da + 1 ≤ Dp) (hused : UsOk m A f k S Dp) : PrOk (m + 1) A f k S Dp := by
  intro B u v hv hg hB
  have hkk := kk_le m
  have hp := kk_pos m
  have go2 : ∀ (B' : Nat) (g : U) (N C1 C2 : Pv.Env → Prop), Gn B' g → B' ≤ B + 2 → Kont (callF Ir.defs m) (sdrop 2 Ir.d__law_proved.body) [0] N (fun u ρ => RP S Dp (B + KK ^ (m + 1)) 3 u (outs [0] 4 ρ)) C1 C2 [some g, some (eA A), some (.fz f.enc), some (.fz (.int k)), none, none, none] := by
    intro B' g N C1 C2 hg hB'
    have fin : ∀ (N C1 C2 : Pv.Env → Prop), Kont (callF Ir.defs m) (sdrop 4 Ir.d__law_proved.body) [0] N (fun u ρ => RP S Dp (B + KK ^ (m + 1)) 3 u (outs [0] 4 ρ)) C1 C2 [some g, some (eA A), some (.fz f.enc), some (.fz (.int k)), none, none, none] := by
      intro N C1 C2
      obtain ⟨u, os, e, h⟩ := (hused B' g hg (by omega)).ex
      obtain ⟨h1, u', rfl, g'⟩ := h
      refine Kont.mk ?_
      simp only [sdrop, Ir.d__law_proved]
      simp [e]
      exact ⟨h1, u', rfl, g'.mono (by omega)⟩
    refine Kont.mk ?_
    simp only [sdrop, Ir.d__law_proved]
    cases f with
    | is x =>
      simp
      refine Kont.mk ?_
      simp
      exact fin _ _ _
    | no =>
      simp
      refine Kont.mk ?_
      simp
      exact fin _ _ _
    | bin w a b =>
      cases w with
      | or =>
        simp
        refine Kont.mk ?_
        simp
        exact fin _ _ _
      | «then» =>
        simp
        refine Kont.mk ?_
        have hl1 : 1 + A.length ≤ LIM := by rw [lim_def]; omega
        rcases RP.cases (hthen a b rfl B' g (.ul (.fz a.enc :: fzs (encs A))) (by simp [encs_cons]) hg (by omega)) with ⟨u1, e1, g1⟩ | ⟨p, u1, e1, g1, q1, q2⟩
        · simp [hl1, e1]
          refine Kont.mk ?_
          simp
          exact RP.none' _ _ (g1.mono (by omega))
        · simp [hl1, e1]
          refine Kont.mk ?_
          simp
          exact RP.some' (.n1 .func p) (g1.mono (by omega)) (by simp only [Pr.size]; omega) (by simp only [Pr.deep]; omega)
      | and =>
        obtain ⟨Sa, Sb, Da, pa, pb, s1, s2⟩ := hand a b rfl
        simp
        refine Kont.mk ?_
        simp
        refine Kont.mk ?_
        rcases RP.cases (pa B' g (eA A) rfl hg (by omega)) with ⟨u1, e1, g1⟩ | ⟨p, u1, e1, g1, q1, q2⟩
        · rcases RP.cases (pb _ u1 (eA A) rfl g1 (by omega)) with ⟨u2, e2, g2⟩ | ⟨q, u2, e2, g2, q3, q4⟩
          · simp [e1, e2]
            refine Kont.mk ?_
            simp
            exact RP.none' _ _ (g2.mono (by omega))
          · simp [e1, e2]
            refine Kont.mk ?_
            simp
            exact RP.none' _ _ (g2.mono (by omega))
        · rcases RP.cases (pb _ u1 (eA A) rfl g1 (by omega)) with ⟨u2, e2, g2⟩ | ⟨q, u2, e2, g2, q3, q4⟩
          · simp [e1, e2]
            refine Kont.mk ?_
            simp
            exact RP.none' _ _ (g2.mono (by omega))
          · simp [e1, e2]
            refine Kont.mk ?_
            simp
            exact RP.some' (.n2 .pair p q) (g2.mono (by omega)) (by simp only [Pr.size]; omega) (by simp only [Pr.deep]; omega)
  have nam : f ∈ A → ∀ (B' : Nat) (g : U) (N C1 C2 : Pv.Env → Prop), Gn B' g → B' ≤ B + 2 → Kont (callF Ir.defs m) (thenOf Ir.d__law_proved.body) [0] N (fun u ρ => RP S Dp (B + KK ^ (m + 1)) 3 u (outs [0] 4 ρ)) C1 C2 [some g, some (eA A), some (.fz f.enc), some (.fz (.int k)), none, none, none] := by
    intro hfA B' g N C1 C2 hg hB'
    obtain ⟨i, hi⟩ := index_ok hA hf hfA
    refine Kont.mk ?_
    simp only [thenOf, Ir.d__law_proved]
    simp [hi]
    exact RP.some' (.nm i) (hg.mono (by omega)) (by simp only [Pr.size]; omega) (by simp only [Pr.deep]; omega)
  have go1 : ∀ (B' : Nat) (g : U) (N C1 C2 : Pv.Env → Prop), Gn B' g → B' ≤ B + 1 → Kont (callF Ir.defs m) (sdrop 1 Ir.d__law_proved.body) [0] N (fun u ρ => RP S Dp (B + KK ^ (m + 1)) 3 u (outs [0] 4 ρ)) C1 C2 [some g, some (eA A), some (.fz f.enc), some (.fz (.int k)), none, none, none] := by
    intro B' g N C1 C2 hg hB'
    refine Kont.mk ?_
    simp only [sdrop, Ir.d__law_proved]
    rcases hk with rfl | rfl
    · simp
      exact go2 B' g _ _ _ hg (by omega)
    · obtain ⟨r, u1, e1, r1, r2, g1⟩ := rnd_ok (n := m) (by omega) hg (by omega) 4 (by omega) (by omega)
      simp [e1]
      refine ite_mk (fun hr => ?_) (fun hr => ?_)
      · refine Kont.mk ?_
        obtain ⟨u, os, e, h⟩ := (hdt rfl (B' + 1) u1 g1 (by omega)).ex
        obtain ⟨h1, u', rfl, g'⟩ := h
        simp [e]
        exact ⟨h1, u', rfl, g'.mono (by omega)⟩
      · exact go2 _ u1 _ _ _ g1 (by omega)
  rw [Cl.c__law_proved]
  by_cases hfA : f ∈ A
  · rcases hk with rfl | rfl
    · simp [Ir.d__law_proved, hv, hA, hf, hfA]
      exact nam hfA B u _ _ _ hg (by omega)
    · obtain ⟨r, u1, e1, r1, r2, g1⟩ := rnd_ok (n := m) (by omega) hg (by omega) 4 (by omega) (by omega)
      simp [Ir.d__law_proved, hv, hA, hf, hfA, e1]
      refine ite_mk (fun hr => ?_) (fun hr => ?_)
      · exact nam hfA _ u1 _ _ _ g1 (by omega)
      · exact go1 _ u1 _ _ _ g1 (by omega)
  · simp [Ir.d__law_proved, hv, hA, hf, hfA]
    exact go1 B u _ _ _ hg (by omega)
end Sp

/-! Sp13: proofs drawn, both levels. -/
namespace Sp
open Pv PySem Pv.Fm Km
theorem PrOk.mono {m : Nat} {A : List Fm} {c : Fm} {k : Int} {S Dp S' Dp' : Nat} (h : PrOk m A c k S Dp) (h1 : S ≤ S') (h2 : Dp ≤ Dp') : PrOk m A c k S' Dp' := fun B u v hv hg hB => RC.G.mono (h B u v hv hg hB) fun w os q => q.mono h1 h2 (Nat.le_refl _)
def D4 (A : List Fm) : Prop := ∀ f ∈ A, f.dp ≤ 4
theorem D4.sm {A : List Fm} (h : D4 A) : Sm A := fun f hf => by have := h f hf; omega
theorem D4.cons {A : List Fm} {f : Fm} (h : D4 A) (hf : f.dp ≤ 4) : D4 (f :: A) := fun g hg => by
  rcases List.mem_cons.mp hg with rfl | hg
  · exact hf
  · exact h g hg
theorem pr0 : ∀ (f : Fm) {n : Nat} {A : List Fm}, f.dp ≤ 4 → D4 A → A.length + f.dp ≤ 800 → 2 * f.dp + 12 ≤ n → PrOk n A f 0 (7 * f.sz) (f.dp + 7) := by
  intro f
  have ld : ∀ {m : Nat} {A : List Fm} (f : Fm) {S Dp : Nat}, 6 ≤ m → f.dp ≤ 60 → D4 A → 5 ≤ S → 5 ≤ Dp → LdOk m A f 0 S Dp := by
    intro m A f S Dp hm hf hA hS hD B u g i hg hB hgA
    have h4 := hA g hgA
    exact RC.G.mono (led0 g (n := m) (B := B) (u := u) (A := A) (f := f) (p := .nm i) (by omega) hg (by omega) hf) fun w os q => q.mono (by simp only [Pr.size]; omega) (by simp only [Pr.deep]; omega) (by omega)
  induction f with
  | is x =>
    intro n A hd hA hl hn
    obtain ⟨m, rfl, _⟩ := suc (n := n) (k := 0) (by omega)
    obtain ⟨m, rfl, _⟩ := suc (n := m) (k := 0) (by simp [dp] at hn; omega)
    simp only [dp] at hn hd hl
    refine pr_step (by omega) (.inl rfl) (by simp [sz]) (by simp [dp]) hA.sm (by simp [dp]) (by omega) (fun h => by omega) (fun _ _ e => by cases e) (fun _ _ e => by cases e) fun B u hg hB => ?_
    exact us_ok (by omega) (.inl rfl) (by simp [sz]) (by simp [dp]) (by omega) (ld _ (by omega) (by simp [dp]) hA (by simp [sz]) (by simp [dp])) (fun _ _ e => by cases e) (fun h => by omega) hg hB
  | no =>
    intro n A hd hA hl hn
    obtain ⟨m, rfl, _⟩ := suc (n := n) (k := 0) (by omega)
    obtain ⟨m, rfl, _⟩ := suc (n := m) (k := 0) (by simp [dp] at hn; omega)
    simp only [dp] at hn hd hl
    refine pr_step (by omega) (.inl rfl) (by simp [sz]) (by simp [dp]) hA.sm (by simp [dp]) (by omega) (fun h => by omega) (fun _ _ e => by cases e) (fun _ _ e => by cases e) fun B u hg hB => ?_
    exact us_ok (by omega) (.inl rfl) (by simp [sz]) (by simp [dp]) (by omega) (ld _ (by omega) (by simp [dp]) hA (by simp [sz]) (by simp [dp])) (fun _ _ e => by cases e) (fun h => by omega) hg hB
  | bin w a b ha hb =>
    intro n A hd hA hl hn
    have hd2 := hd
    simp only [dp] at hn hd hl
    obtain ⟨m, rfl, _⟩ := suc (n := n) (k := 0) (by omega)
    obtain ⟨m, rfl, _⟩ := suc (n := m) (k := 0) (by omega)
    refine pr_step (by omega) (.inl rfl) (by simp [sz]; omega) (by omega) hA.sm (by omega) (by omega) (fun h => by omega) (fun a' b' e => ?_) (fun a' b' e => ?_) fun B u hg hB => ?_
    · cases e
      refine (hb (n := m + 1) (A := a :: A) (by omega) (hA.cons (by omega)) (by simp; omega) (by omega)).mono ?_ ?_
      · simp only [sz]; omega
      · simp only [dp]; omega
    · cases e
      refine ⟨7 * a.sz, 7 * b.sz, max a.dp b.dp + 7, (ha (n := m + 1) (A := A) (by omega) hA (by omega) (by omega)).mono (by omega) (by omega), (hb (n := m + 1) (A := A) (by omega) hA (by omega) (by omega)).mono (by omega) (by omega), ?_, ?_⟩
      · simp only [sz]; omega
      · simp only [dp]; omega
    · refine us_ok (by omega) (.inl rfl) (by simp [sz]; omega) (by omega) (by omega) (ld _ (by omega) (by omega) hA (by simp only [sz]; have := sz_pos a; omega) (by simp only [dp]; omega)) (fun a' b' e => ?_) (fun h => by omega) hg hB
      cases e
      refine ⟨(ha (n := m) (A := A) (by omega) hA (by omega) (by omega)).mono ?_ ?_, (hb (n := m) (A := A) (by omega) hA (by omega) (by omega)).mono ?_ ?_⟩
      · simp only [sz]; omega
      · simp only [dp]; omega
      · simp only [sz]; omega
      · simp only [dp]; omega
/-- every formula at the last level -/
theorem pr0' {n : Nat} {A : List Fm} {f : Fm} (h1 : f.dp ≤ 4) (h2 : f.sz ≤ 15) (hA : D4 A) (hl : A.length ≤ 700) (hn : 20 ≤ n) : PrOk n A f 0 105 11 := (pr0 f h1 hA (by omega) (by omega)).mono (by omega) (by omega)
theorem dt_ok {m : Nat} (hm : 20 ≤ m) {A : List Fm} {f : Fm} (hA : D4 A) (hAs : ∀ g ∈ A, g.sz ≤ 15) (hf : f.dp ≤ 3) (hfs : f.sz ≤ 7) (hl : A.length ≤ 600) : DtOk (m + 1) A f 330 15 := by
  intro B u hg hB
  have hkk := kk_le m
  have hp := kk_pos m
  obtain ⟨way, u1, e1, w1, w2, g1⟩ := rnd_ok (n := m) (by omega) hg (by omega) 4 (by omega) (by omega)
  obtain ⟨d, u2, e2, d1, g2⟩ := pick_ok (n := m) (by omega) g1 (by omega) (v := .ul (fzs (encs A) ++ [.fz f.enc, .fz (Fm.bin .then f f).enc])) (ds := encs (A ++ [f, .bin .then f f])) (by simp [encs_app, encs_cons]) (by simp) (by simp; omega)
  obtain ⟨o, ho, rfl⟩ := List.mem_map.mp d1
  have ho1 : o.dp ≤ 4 ∧ o.sz ≤ 15 := by
    simp at ho
    rcases ho with ho | rfl | rfl
    · exact ⟨hA o ho, hAs o ho⟩
    · omega
    · simp only [dp, sz]; omega
  have c1 : A.length + 2 ≤ LIM := by rw [lim_def]; omega
  have c2 : 1 + A.length ≤ LIM := by rw [lim_def]; omega
  have pf : PrOk m A f 0 105 11 := pr0' (by omega) (by omega) hA (by omega) hm
  have po : PrOk m A o 0 105 11 := pr0' ho1.1 ho1.2 hA (by omega) hm
  have pof : ∀ (B : Nat) (u : U), Gn B u → B + KK ^ m ≤ TOP → (callF Ir.defs m "_law_proved" [u, .ul (.fz o.enc :: fzs (encs A)), .fz f.enc, .fz (.int 0)]).G (RP 105 11 (B + KK ^ m) 3) := fun B u hg hB => pr0' (A := o :: A) (by omega) (by omega) (hA.cons ho1.1) (by simp; omega) hm B u _ (by simp [encs_cons]) hg hB
  rw [Cl.c__law_detour]
  simp [Ir.d__law_detour, e1, c1, e2]
  refine Kont.mk ?_
  simp
  refine ite_mk (fun hw => ?_) (fun hw => ?_)
  · refine Kont.mk ?_
    rcases RP.cases (pof _ u2 g2 (by omega)) with ⟨u3, e3, g3⟩ | ⟨p, u3, e3, g3, q1, q2⟩ <;> rcases RP.cases (po _ u3 (eA A) rfl g3 (by omega)) with ⟨u4, e4, g4⟩ | ⟨q, u4, e4, g4, q3, q4⟩ <;> simp [c2, e3, e4] <;> refine Kont.mk ?_ <;> simp
    · exact RP.none' _ _ (g4.mono (by omega))
    · exact RP.none' _ _ (g4.mono (by omega))
    · exact RP.none' _ _ (g4.mono (by omega))
    · exact RP.some' (.n2 .call (.n1 .func p) q) (g4.mono (by omega)) (by simp only [Pr.size]; omega) (by simp only [Pr.deep]; omega)
  refine Kont.mk ?_
  simp
  refine ite_mk (fun hw => ?_) (fun hw => ?_)
  · refine Kont.mk ?_
    rcases RP.cases (pf _ u2 (eA A) rfl g2 (by omega)) with ⟨u3, e3, g3⟩ | ⟨p, u3, e3, g3, q1, q2⟩ <;> rcases RP.cases (po _ u3 (eA A) rfl g3 (by omega)) with ⟨u4, e4, g4⟩ | ⟨q, u4, e4, g4, q3, q4⟩ <;> simp [c2, e3, e4] <;> refine Kont.mk ?_ <;> simp
    · exact RP.none' _ _ (g4.mono (by omega))
    · exact RP.none' _ _ (g4.mono (by omega))
    · exact RP.none' _ _ (g4.mono (by omega))
    · obtain ⟨r, u5, e5, r1, r2, g5⟩ := rnd_ok (n := m) (by omega) g4 (by omega) 2 (by omega) (by omega)
      simp [e5]
      refine ite_mk (fun hr => ?_) (fun hr => ?_)
      · exact RP.some' (.n1 .first (.n2 .pair p q)) (g5.mono (by omega)) (by simp only [Pr.size]; omega) (by simp only [Pr.deep]; omega)
      · exact RP.some' (.n1 .second (.n2 .pair q p)) (g5.mono (by omega)) (by simp only [Pr.size]; omega) (by simp only [Pr.deep]; omega)
  refine Kont.mk ?_
  rcases RP.cases (po _ u2 (eA A) rfl g2 (by omega)) with ⟨u3, e3, g3⟩ | ⟨p, u3, e3, g3, q1, q2⟩ <;> rcases RP.cases (pof _ u3 g3 (by omega)) with ⟨u4, e4, g4⟩ | ⟨q, u4, e4, g4, q3, q4⟩ <;> rcases RP.cases (pof _ u4 g4 (by omega)) with ⟨u5, e5, g5⟩ | ⟨r, u5, e5, g5, q5, q6⟩ <;> simp [e3] <;> refine Kont.mk ?_ <;> simp [c2, e4, e5] <;> refine Kont.mk ?_ <;> simp
  · refine Kont.mk ?_
    simp
    exact RP.none' _ _ (g5.mono (by omega))
  · refine Kont.mk ?_
    simp
    exact RP.none' _ _ (g5.mono (by omega))
  · refine Kont.mk ?_
    simp
    exact RP.none' _ _ (g5.mono (by omega))
  · refine Kont.mk ?_
    simp
    exact RP.none' _ _ (g5.mono (by omega))
  · refine Kont.mk ?_
    simp
    exact RP.none' _ _ (g5.mono (by omega))
  · refine Kont.mk ?_
    simp
    exact RP.none' _ _ (g5.mono (by omega))
  · refine Kont.mk ?_
    simp
    exact RP.none' _ _ (g5.mono (by omega))
  · refine Kont.mk ?_
    obtain ⟨d2, u6, e6, d3, g6⟩ := pick_ok (n := m) (by omega) g5 (by omega) (v := .ul [.fz (.str "left"), .fz (.str "right")]) (ds := [.str "left", .str "right"]) (by simp) (by simp) (by simp)
    simp at d3
    rcases d3 with rfl | rfl
    · simp [e6]
      exact RP.some' (.ch (.n1 .left p) q r) (g6.mono (by omega)) (by simp only [Pr.size]; omega) (by simp only [Pr.deep]; omega)
    · simp [e6]
      exact RP.some' (.ch (.n1 .right p) q r) (g6.mono (by omega)) (by simp only [Pr.size]; omega) (by simp only [Pr.deep]; omega)
/-- led, with one more level -/
theorem led1 : ∀ (g : Fm) {n : Nat} {B : Nat} {u : U} {A : List Fm} {f : Fm} {p : Pr}, g.dp ≤ 4 → g.sz ≤ 15 → g.dp + 22 ≤ n → Gn B u → f.dp ≤ 4 → f.sz ≤ 15 → D4 A → A.length ≤ 600 → B + KK ^ n ≤ TOP →
    (callF Ir.defs n "_law_led" [u, eA A, .fz p.en, .fz g.enc, .fz f.enc, .fz (.int 1)]).G (RP (p.size + 220 + g.dp) (p.deep + 20 + g.dp) (B + KK ^ n) 5) := by
  intro g
  induction g with
  | is x =>
    intro n B u A f p h1 h2 hn hg h3 h4 hA hl hB
    obtain ⟨m, rfl, _⟩ := suc (n := n) (k := 21) (by omega)
    have hf : f.dp ≤ 60 := by omega
    rw [Cl.c__law_led]
    simp [Ir.d__law_led, hf]
    refine ite_mk (fun e => ?_) (fun e => ?_)
    · refine Kont.mk ?_
      simp
      exact RP.some' p (hg.mono (by omega)) (by omega) (by omega)
    refine Kont.mk ?_
    simp
    refine Kont.mk ?_
    simp
    refine Kont.mk ?_
    simp
    refine Kont.mk ?_
    simp
    refine Kont.mk ?_
    simp
    refine Kont.mk ?_
    simp
    exact RP.none' _ _ (hg.mono (by omega))
  | no =>
    intro n B u A f p h1 h2 hn hg h3 h4 hA hl hB
    obtain ⟨m, rfl, _⟩ := suc (n := n) (k := 21) (by omega)
    have hf : f.dp ≤ 60 := by omega
    rw [Cl.c__law_led]
    simp [Ir.d__law_led, hf]
    refine ite_mk (fun e => ?_) (fun e => ?_)
    · refine Kont.mk ?_
      simp
      exact RP.some' p (hg.mono (by omega)) (by omega) (by omega)
    refine Kont.mk ?_
    simp
    refine Kont.mk ?_
    simp
    exact RP.some' (.n1 .absurd p) (hg.mono (by omega)) (by simp only [Pr.size]; omega) (by simp only [Pr.deep]; omega)
  | bin w a b ha hb =>
    intro n B u A f p h1 h2 hn hg h3 h4 hA hl hB
    have h1' := h1
    have h2' := h2
    simp only [dp] at h1' hn
    simp only [sz] at h2'
    obtain ⟨m, rfl, _⟩ := suc (n := n) (k := 22) (by omega)
    have hkk := kk_le m
    have hp := kk_pos m
    have hf : f.dp ≤ 60 := by omega
    have hgd : (Fm.bin w a b).dp ≤ 60 := by omega
    cases w with
    | and =>
      refine led_and 1 hgd hf _ _ 0 (by omega) (by omega) (B + KK ^ m) (B + KK ^ (m + 1)) (hg.mono (by omega)) ?_ (fun u' g' => ?_) (by omega)
      · refine (ha (n := m) (A := A) (f := f) (p := .n1 .first p) (by omega) (by omega) (by omega) hg h3 h4 hA hl (by omega)).mono fun w os q => q.mono ?_ ?_ (Nat.le_refl _)
        · simp only [Pr.size, dp]; omega
        · simp only [Pr.deep, dp]; omega
      · refine (hb (n := m) (A := A) (f := f) (p := .n1 .second p) (by omega) (by omega) (by omega) g' h3 h4 hA hl (by omega)).mono fun w os q => q.mono ?_ ?_ (by omega)
        · simp only [Pr.size, dp]; omega
        · simp only [Pr.deep, dp]; omega
    | or =>
      have c2 : 1 + A.length ≤ LIM := by rw [lim_def]; omega
      have pa : ∀ (B : Nat) (u : U), Gn B u → B + KK ^ m ≤ TOP → (callF Ir.defs m "_law_proved" [u, .ul (.fz a.enc :: fzs (encs A)), .fz f.enc, .fz (.int 0)]).G (RP 105 11 (B + KK ^ m) 3) := fun B u hg hB => pr0' (A := a :: A) (by omega) (by omega) (hA.cons (by omega)) (by simp; omega) (by omega) B u _ (by simp [encs_cons]) hg hB
      have pb : ∀ (B : Nat) (u : U), Gn B u → B + KK ^ m ≤ TOP → (callF Ir.defs m "_law_proved" [u, .ul (.fz b.enc :: fzs (encs A)), .fz f.enc, .fz (.int 0)]).G (RP 105 11 (B + KK ^ m) 3) := fun B u hg hB => pr0' (A := b :: A) (by omega) (by omega) (hA.cons (by omega)) (by simp; omega) (by omega) B u _ (by simp [encs_cons]) hg hB
      rw [Cl.c__law_led]
      simp [Ir.d__law_led, hf, hgd]
      refine ite_mk (fun e => ?_) (fun e => ?_)
      · refine Kont.mk ?_
        simp
        exact RP.some' p (hg.mono (by omega)) (by omega) (by omega)
      refine Kont.mk ?_
      simp [hgd]
      refine Kont.mk ?_
      simp
      refine Kont.mk ?_
      simp
      refine Kont.mk ?_
      simp
      refine Kont.mk ?_
      simp
      refine Kont.mk ?_
      rcases RP.cases (pa _ u hg (by omega)) with ⟨u3, e3, g3⟩ | ⟨q, u3, e3, g3, q1, q2⟩
      · simp [c2, e3]
        refine Kont.mk ?_
        simp
        refine Kont.mk ?_
        simp
        exact RP.none' _ _ (g3.mono (by omega))
      · simp [c2, e3]
        refine Kont.mk ?_
        rcases RP.cases (pb _ u3 g3 (by omega)) with ⟨u4, e4, g4⟩ | ⟨r, u4, e4, g4, q3, q4⟩
        · simp [c2, e4]
          refine Kont.mk ?_
          simp
          exact RP.none' _ _ (g4.mono (by omega))
        · simp [c2, e4]
          refine Kont.mk ?_
          simp
          exact RP.some' (.ch p q r) (g4.mono (by omega)) (by simp only [Pr.size]; omega) (by simp only [Pr.deep]; omega)
    | «then» =>
      have pa : PrOk m A a 0 105 11 := pr0' (by omega) (by omega) hA (by omega) (by omega)
      obtain ⟨kp, os, k1, k2, rfl⟩ := (kp_ok b (n := m) (by omega) (by omega)).ex
      have hsm : Sm (parts b) := fun g hg => by have := parts_sz hg; have := dp_le g; omega
      have fin : ∀ (B' : Nat) (g : U) (N C1 C2 : Pv.Env → Prop), Gn B' g → B' ≤ B + KK ^ m → Kont (callF Ir.defs m) (sdrop 1 (thenOf (sdrop 4 Ir.d__law_led.body))) [0] N (fun u ρ => RP (p.size + 220 + (Fm.bin .then a b).dp) (p.deep + 20 + (Fm.bin .then a b).dp) (B + KK ^ (m + 1)) 5 u (outs [0] 6 ρ)) C1 C2 [some g, some (eA A), some (.fz p.en), some (.fz (Fm.bin .then a b).enc), some (.fz f.enc), some (.fz (.int 1)), none, some (.fz .non), none, none] := by
        intro B' g N C1 C2 hg hB'
        refine Kont.mk ?_
        simp only [sdrop, thenOf, Ir.d__law_led]
        simp
        exact RP.none' _ _ (hg.mono (by omega))
      have some_ : ∀ (B' : Nat) (g : U) (q : Pr) (N C1 C2 : Pv.Env → Prop), Gn B' g → B' ≤ B + KK ^ m → q.size ≤ 105 → q.deep ≤ 11 → Kont (callF Ir.defs m) (sdrop 1 (thenOf (sdrop 4 Ir.d__law_led.body))) [0] N (fun u ρ => RP (p.size + 220 + (Fm.bin .then a b).dp) (p.deep + 20 + (Fm.bin .then a b).dp) (B + KK ^ (m + 1)) 5 u (outs [0] 6 ρ)) C1 C2 [some g, some (eA A), some (.fz p.en), some (.fz (Fm.bin .then a b).enc), some (.fz f.enc), some (.fz (.int 1)), none, some (.fz q.en), none, none] := by
        intro B' g q N C1 C2 hg hB' q1 q2
        refine Kont.mk ?_
        simp only [sdrop, thenOf, Ir.d__law_led]
        rcases RP.cases (led0 b (n := m) (B := B') (u := g) (A := A) (f := f) (p := .n2 .call p q) (by omega) hg (by omega) hf) with ⟨u4, e4, g4⟩ | ⟨r, u4, e4, g4, q3, q4⟩
        · simp [e4]
          exact RP.none' _ _ (g4.mono (by omega))
        · simp [e4]
          simp only [Pr.size, Pr.deep] at q3 q4
          exact RP.some' r (g4.mono (by omega)) (by simp only [dp]; omega) (by simp only [dp]; omega)
      rw [Cl.c__law_led]
      simp [Ir.d__law_led, hf, hgd]
      refine ite_mk (fun e => ?_) (fun e => ?_)
      · refine Kont.mk ?_
        simp
        exact RP.some' p (hg.mono (by omega)) (by omega) (by omega)
      refine Kont.mk ?_
      simp [hgd]
      refine Kont.mk ?_
      simp
      refine Kont.mk ?_
      simp
      refine Kont.mk ?_
      simp
      refine Kont.mk ?_
      simp [k1, k2, hf, hsm]
      have pac := RP.cases (pa B u (eA A) rfl hg (by omega))
      by_cases hfp : f ∈ parts b
      · rcases pac with ⟨u3, e3, g3⟩ | ⟨q, u3, e3, g3, q1, q2⟩
        · simp [hfp, e3]
          exact fin _ u3 _ _ _ g3 (by omega)
        · simp [hfp, e3]
          exact some_ _ u3 q _ _ _ g3 (by omega) q1 q2
      · by_cases hnp : Fm.no ∈ parts b
        · rcases pac with ⟨u3, e3, g3⟩ | ⟨q, u3, e3, g3, q1, q2⟩
          · simp [hfp, hnp, e3]
            exact fin _ u3 _ _ _ g3 (by omega)
          · simp [hfp, hnp, e3]
            exact some_ _ u3 q _ _ _ g3 (by omega) q1 q2
        · simp [hfp, hnp]
          exact fin _ u _ _ _ hg (by omega)
/-- every formula, with one more level -/
theorem pr1 : ∀ (f : Fm) {n : Nat} {A : List Fm}, f.dp ≤ 3 → f.sz ≤ 7 → D4 A → (∀ g ∈ A, g.sz ≤ 15) → A.length + f.dp ≤ 500 → 2 * f.dp + 40 ≤ n → PrOk n A f 1 (400 * f.sz) (f.dp + 40) := by
  intro f
  have ld : ∀ {m : Nat} {A : List Fm} (f : Fm) {S Dp : Nat}, 26 ≤ m → f.dp ≤ 4 → f.sz ≤ 15 → D4 A → (∀ g ∈ A, g.sz ≤ 15) → A.length ≤ 600 → 230 ≤ S → 30 ≤ Dp → LdOk m A f 1 S Dp := by
    intro m A f S Dp hm hf hfs hA hAs hl hS hD B u g i hg hB hgA
    have h4 := hA g hgA
    exact RC.G.mono (led1 g (n := m) (B := B) (u := u) (A := A) (f := f) (p := .nm i) (by omega) (hAs g hgA) (by omega) hg hf hfs hA hl hB) fun w os q => q.mono (by simp only [Pr.size]; omega) (by simp only [Pr.deep]; omega) (by omega)
  have dt : ∀ {m : Nat} {A : List Fm} (f : Fm) {S Dp : Nat}, 21 ≤ m → f.dp ≤ 3 → f.sz ≤ 7 → D4 A → (∀ g ∈ A, g.sz ≤ 15) → A.length ≤ 600 → 330 ≤ S → 15 ≤ Dp → DtOk m A f S Dp := by
    intro m A f S Dp hm hf hfs hA hAs hl hS hD B u hg hB
    obtain ⟨m, rfl, _⟩ := suc (n := m) (k := 20) (by omega)
    exact RC.G.mono (dt_ok (m := m) (by omega) hA hAs hf hfs hl B u hg hB) fun w os q => q.mono hS hD (Nat.le_refl _)
  induction f with
  | is x =>
    intro n A hd hs hA hAs hl hn
    obtain ⟨m, rfl, _⟩ := suc (n := n) (k := 0) (by omega)
    obtain ⟨m, rfl, _⟩ := suc (n := m) (k := 0) (by omega)
    have hl2 : A.length ≤ 500 := by omega
    refine pr_step (by omega) (.inr rfl) (by simp [sz]) (by simp) hA.sm (by simp) (by omega) (fun _ => dt _ (by omega) hd hs hA hAs (by omega) (by simp [sz]) (by omega)) (fun _ _ e => by cases e) (fun _ _ e => by cases e) fun B u hg hB => ?_
    exact us_ok (by omega) (.inr rfl) (by simp [sz]) (by omega) (by omega) (ld _ (by omega) (by omega) (by omega) hA hAs (by omega) (by simp [sz]) (by omega)) (fun _ _ e => by cases e) (fun _ _ _ e => by cases e) hg hB
  | no =>
    intro n A hd hs hA hAs hl hn
    obtain ⟨m, rfl, _⟩ := suc (n := n) (k := 0) (by omega)
    obtain ⟨m, rfl, _⟩ := suc (n := m) (k := 0) (by omega)
    have hl2 : A.length ≤ 500 := by omega
    refine pr_step (by omega) (.inr rfl) (by simp [sz]) (by simp) hA.sm (by simp) (by omega) (fun _ => dt _ (by omega) hd hs hA hAs (by omega) (by simp [sz]) (by omega)) (fun _ _ e => by cases e) (fun _ _ e => by cases e) fun B u hg hB => ?_
    exact us_ok (by omega) (.inr rfl) (by simp [sz]) (by omega) (by omega) (ld _ (by omega) (by omega) (by omega) hA hAs (by omega) (by simp [sz]) (by omega)) (fun _ _ e => by cases e) (fun _ _ _ e => by cases e) hg hB
  | bin w a b ha hb =>
    intro n A hd hs hA hAs hl hn
    have hd2 := hd
    have hs2 := hs
    simp only [dp] at hn hd hl
    simp only [sz] at hs
    have ps := sz_pos a
    have qs := sz_pos b
    obtain ⟨m, rfl, _⟩ := suc (n := n) (k := 0) (by omega)
    obtain ⟨m, rfl, _⟩ := suc (n := m) (k := 0) (by omega)
    have hl2 : A.length ≤ 500 := by omega
    refine pr_step (by omega) (.inr rfl) (by simp only [sz]; omega) (by omega) hA.sm (by omega) (by omega) (fun _ => dt _ (by omega) hd2 hs2 hA hAs (by omega) (by simp only [sz]; omega) (by omega)) (fun a' b' e => ?_) (fun a' b' e => ?_) fun B u hg hB => ?_
    · cases e
      refine (hb (n := m + 1) (A := a :: A) (by omega) (by omega) (hA.cons (by omega)) (fun g hg => ?_) (by simp; omega) (by omega)).mono ?_ ?_
      · rcases List.mem_cons.mp hg with rfl | hg
        · omega
        · exact hAs g hg
      · simp only [sz]; omega
      · simp only [dp]; omega
    · cases e
      refine ⟨400 * a.sz, 400 * b.sz, max a.dp b.dp + 40, (ha (n := m + 1) (A := A) (by omega) (by omega) hA hAs (by omega) (by omega)).mono (by omega) (by omega), (hb (n := m + 1) (A := A) (by omega) (by omega) hA hAs (by omega) (by omega)).mono (by omega) (by omega), ?_, ?_⟩
      · simp only [sz]; omega
      · simp only [dp]; omega
    · refine us_ok (by omega) (.inr rfl) (by simp only [sz]; omega) (by omega) (by omega) (ld _ (by omega) (by omega) (by omega) hA hAs (by omega) (by simp only [sz]; omega) (by simp only [dp]; omega)) (fun a' b' e => ?_) (fun _ a' b' e => ?_) hg hB
      · cases e
        refine ⟨(ha (n := m) (A := A) (by omega) (by omega) hA hAs (by omega) (by omega)).mono ?_ ?_, (hb (n := m) (A := A) (by omega) (by omega) hA hAs (by omega) (by omega)).mono ?_ ?_⟩
        · simp only [sz]; omega
        · simp only [dp]; omega
        · simp only [sz]; omega
        · simp only [dp]; omega
      · cases e
        refine ⟨(pr0' (A := A) (by omega) (by omega) hA (by omega) (by omega)).mono ?_ ?_, (pr0' (A := A) (by omega) (by omega) hA (by omega) (by omega)).mono ?_ ?_⟩
        · simp only [sz]; omega
        · simp only [dp]; omega
        · simp only [sz]; omega
        · simp only [dp]; omega
end Sp

/-! Sp14: a sequent and its proof. -/
namespace Sp
open Pv PySem Pv.Fm Km
theorem fo_c {k : Nat} {i : Int} (hi : i = k) {n : Nat} {B : Nat} {u v : U} (h : 2 * k + 5 ≤ n) (h5 : k ≤ 5) (hg : Gn B u) (hB : B + KK ^ n ≤ TOP) (hv : v.d = .lst [.str "a", .str "b"]) : ∃ (f : Fm) (u' : U), callF Ir.defs n "_law_formula" [u, v, .fz (.int i)] = .ok (.fz f.enc) [some u', none, none] ∧ f.sz < 2 ^ (k + 1) ∧ f.dp ≤ k + 1 ∧ Gn (B + KK ^ n) u' := by
  subst hi; exact fo_ok k h h5 hg hB hv
theorem comp_nil {P : List Nat} {tg : Tg} {own : List Nat} {c : Pv.Env → R (List U)} {e : Pv.Env → R U} (ρ : Pv.Env) (acc : List U) (Q : List U → Pv.Env → Prop) (h : Q acc ρ) : (evComp P tg own c e [] ρ acc).G Q := by unfold evComp; exact h
theorem pick_bind {n : Nat} (h : 3 ≤ n) {B : Nat} {u v : U} (hg : Gn B u) (hB : B + 1 ≤ TOP) {ds : List D} (hv : v.d = .lst ds) (h1 : 1 ≤ ds.length) (h2 : ds.length ≤ 1000) {Q : U → List (Option U) → Prop} (hQ : ∀ d ∈ ds, ∀ u', Gn (B + 1) u' → Q (.fz d) [some u', none]) : (callF Ir.defs n "_law_pick" [u, v]).G Q := by
  obtain ⟨d, u4, e4, d1, g4⟩ := pick_ok (n := n) h hg hB hv h1 h2
  rw [e4]
  exact hQ d d1 u4 g4
theorem kn_ok {n : Nat} (h : 9 ≤ n) {B : Nat} {u v : U} (hg : Gn B u) (hB : B + KK ^ n ≤ TOP) (hv : v.d = .lst [.str "a", .str "b"]) : ∃ (A : List Fm) (f : Fm) (P : D) (u' : U), callF Ir.defs n "_law_known_proofs" [u, v] = .ok (.fz (.tup [.lst (encs A), f.enc, P])) [some u', none] ∧ A.length ≤ 5 ∧ LN A 30 ∧ f.sz ≤ 30 ∧ Gn (B + KK ^ n) u' := by
  obtain ⟨m, rfl, _⟩ := suc h
  have hkk := kk_le m
  have hp := kk_pos m
  suffices hs : (callF Ir.defs (m + 1) "_law_known_proofs" [u, v]).G fun w os => ∃ (A : List Fm) (f : Fm) (P : D) (u' : U), w = .fz (.tup [.lst (encs A), f.enc, P]) ∧ os = [some u', none] ∧ A.length ≤ 5 ∧ LN A 30 ∧ f.sz ≤ 30 ∧ Gn (B + KK ^ (m + 1)) u' by
    obtain ⟨w, os, e, A, f, P, u', rfl, rfl, q⟩ := hs.ex
    exact ⟨A, f, P, u', e, q⟩
  rw [Cl.c__law_known_proofs]
  obtain ⟨f, u1, e1, s1, p1, g1⟩ := fo_c (k := 1) (i := 1) rfl (n := m) (v := .fz v.d) (by omega) (by omega) hg (by omega) (by simpa using hv)
  obtain ⟨g, u2, e2, s2, p2, g2⟩ := fo_c (k := 1) (i := 1) rfl (n := m) (v := .fz v.d) (by omega) (by omega) g1 (by omega) (by simpa using hv)
  obtain ⟨h', u3, e3, s3, p3, g3⟩ := fo_c (k := 1) (i := 1) rfl (n := m) (v := .fz v.d) (by omega) (by omega) g2 (by omega) (by simpa using hv)
  simp at s1 s2 s3
  simp [Ir.d__law_known_proofs, hid_cons]
  have r3 : rgD 0 3 = [.int 0, .int 1, .int 2] := rfl
  rw [r3]
  refine comp_cons _ _ _ _ _ (by simp) ?_
  simp [e1]
  refine comp_cons _ _ _ _ _ (by simp) ?_
  simp [e2]
  refine comp_cons _ _ _ _ _ (by simp) ?_
  simp [e3]
  refine comp_nil _ _ _ ?_
  simp
  refine Kont.mk ?_
  have r4 : rgD 0 4 = [.int 0, .int 1, .int 2, .int 3] := rfl
  simp [hid_cons]
  rw [r4]
  refine comp_cons _ _ _ _ _ (by simp) ?_
  simp
  refine comp_cons _ _ _ _ _ (by simp) ?_
  simp
  refine comp_cons _ _ _ _ _ (by simp) ?_
  simp
  refine comp_cons _ _ _ _ _ (by simp) ?_
  simp
  refine comp_nil _ _ _ ?_
  simp
  refine Kont.mk ?_
  simp
  refine Kont.mk ?_
  simp
  refine Kont.mk ?_
  simp
  refine Kont.mk ?_
  simp
  refine Kont.mk ?_
  simp
  refine pick_bind (by omega) g3 (by omega) rfl (by simp) (by simp) (fun d hd u' g' => ?_)
  simp
  simp at hd
  have hsz := sz_pos
  rcases hd with rfl | rfl | rfl | rfl | rfl | rfl | rfl | rfl
  · exact ⟨[], .bin .then f f, ⟨_, rfl⟩, by simp, by simp [LN], by simp only [sz]; omega, g'.mono (by omega)⟩
  · exact ⟨[], .bin .then f (.bin .then g f), ⟨_, rfl⟩, by simp, by simp [LN], by simp only [sz]; omega, g'.mono (by omega)⟩
  · exact ⟨[.bin .and f g], .bin .and g f, ⟨_, rfl⟩, by simp, by simp [LN, sz]; omega, by simp only [sz]; omega, g'.mono (by omega)⟩
  · exact ⟨[.bin .or f g], .bin .or g f, ⟨_, rfl⟩, by simp, by simp [LN, sz]; omega, by simp only [sz]; omega, g'.mono (by omega)⟩
  · exact ⟨[.bin .then f g, f], g, ⟨_, rfl⟩, by simp, by simp [LN, sz]; omega, by omega, g'.mono (by omega)⟩
  · exact ⟨[.no], f, ⟨_, rfl⟩, by simp, by simp [LN, sz], by omega, g'.mono (by omega)⟩
  · exact ⟨[], .bin .then (.bin .then f (.bin .then g h')) (.bin .then (.bin .then f g) (.bin .then f h')), ⟨_, rfl⟩, by simp, by simp [LN], by simp only [sz]; omega, g'.mono (by omega)⟩
  · exact ⟨[], .bin .then (.bin .then (.bin .or f (.bin .then f .no)) .no) .no, ⟨_, rfl⟩, by simp, by simp [LN], by simp only [sz]; omega, g'.mono (by omega)⟩
theorem sp_ok {n : Nat} (h : 60 ≤ n) {B : Nat} {u v : U} (hg : Gn B u) (hB : B + KK ^ n ≤ TOP) (hv : v.d = .lst [.str "a", .str "b"]) : (callF Ir.defs n "_law_some_proof" [u, v, .fz (.int 1)]).G fun w os => ∃ (A : List Fm) (f : Fm) (P : D) (u' : U), w.d = .tup [.lst (encs A), f.enc, P] ∧ os = [some u', none, none] ∧ A.length ≤ 5 ∧ LN A 30 ∧ f.sz ≤ 30 ∧ Gn (B + KK ^ n) u' := by
  obtain ⟨m, rfl, _⟩ := suc h
  have hkk := kk_le m
  have hp := kk_pos m
  rw [Cl.c__law_some_proof]
  simp [Ir.d__law_some_proof]
  have r3 : rgD 0 3 = [.int 0, .int 1, .int 2] := rfl
  rw [r3]
  refine for_inv (fun q ρ => ∃ (c : Nat) (g w : U) (x3 x4 x5 x6 : Option U), ρ = [some g, some w, some (.fz (.int 1)), x3, x4, x5, x6, none] ∧ w.d = .lst [.str "a", .str "b"] ∧ Gn c g ∧ c + q.length * (10 * KK ^ m) ≤ B + 100 * KK ^ m) (fun ρ h => ?_) (fun d q ρ h => ?_) _ _ ⟨B, u, v, none, none, none, none, rfl, hv, hg, by simp; omega⟩
  · obtain ⟨c, g, w, x3, x4, x5, x6, rfl, hw, h1, h2⟩ := h
    obtain ⟨A, f, P, u', e, a1, a2, a3, g'⟩ := kn_ok (n := m) (by omega) h1 (by simp at h2; omega) hw
    refine Kont.mk ?_
    simp [e]
    exact ⟨A, f, ⟨rfl, rfl⟩, a1, a2, a3, g'.mono (by simp at h2; omega)⟩
  · obtain ⟨c, g, w, x3, x4, x5, x6, rfl, hw, h1, h2⟩ := h
    have hmm := Nat.succ_mul q.length (10 * KK ^ m)
    simp only [List.length_cons, Nat.succ_eq_add_one] at h2 hmm
    rw [hmm] at h2
    obtain ⟨r, u1, e1, r1, r2, g1⟩ := rnd_ok (n := m) (by omega) h1 (by omega) 4 (by omega) (by omega)
    obtain ⟨k, rfl⟩ : ∃ k : Nat, r = k := ⟨r.toNat, by omega⟩
    have hk3 : k ≤ 3 := by omega
    have hrl : (rgD 0 (k : Int)).length = k := by simp [rgD]
    have hrn : (k : Int).natAbs < 4611686018427387904 := by omega
    have hk4 : k * KK ^ m ≤ 3 * KK ^ m := Nat.mul_le_mul_right _ hk3
    simp [e1, hid_cons, hrn]
    rw [if_pos (by omega)]
    simp only
    refine comp_inv (fun ds acc ρ => ∃ (c' : Nat) (g' w' : U) (L : List Fm), acc = fzs (encs L) ∧ ρ = [some g', some w', some (.fz (.int 1)), some (.fz d), x4, x5, x6, none] ∧ w'.d = .lst [.str "a", .str "b"] ∧ Gn c' g' ∧ c' + ds.length * KK ^ m ≤ c + 1 + 3 * KK ^ m ∧ L.length + ds.length ≤ 3 ∧ (∀ f ∈ L, f.sz ≤ 7 ∧ f.dp ≤ 3)) (fun acc ρ h => ?_) (fun d' ds acc ρ h => ?_) _ _ _ ⟨c + 1, u1, w, [], rfl, rfl, hw, g1, by rw [hrl]; omega, by rw [hrl]; simp; omega, by simp⟩
    · obtain ⟨c', g', w', L, rfl, rfl, hw', h3, h4, h5, h6⟩ := h
      simp at h4 h5
      obtain ⟨f, u2, e2, s2, p2, g2⟩ := fo_c (k := 2) (i := 2) rfl (n := m) (v := .fz w'.d) (by omega) (by omega) h3 (by omega) (by simpa using hw')
      simp at s2
      have hA : D4 L := fun f hf => by have := h6 f hf; omega
      have hAs : ∀ f ∈ L, f.sz ≤ 15 := fun f hf => by have := h6 f hf; omega
      have hA30 : LN L 30 := fun f hf => by have := h6 f hf; omega
      simp
      refine Kont.mk ?_
      simp [e2]
      refine Kont.mk ?_
      rcases RP.cases (pr1 f (n := m) (A := L) (by omega) (by omega) hA hAs (by omega) (by omega) _ u2 (.fz (.lst (encs L))) rfl g2 (by omega)) with ⟨u3, e3, g3⟩ | ⟨p, u3, e3, g3, q1, q2⟩
      · simp [e3]
        refine Kont.mk ?_
        simp
        exact ⟨_, u3, _, ⟨rfl, rfl⟩, by simpa using hw', g3, by omega⟩
      · simp [e3]
        refine Kont.mk ?_
        have hfs : 400 * f.sz ≤ 2800 := by omega
        obtain ⟨w2, os, e4, ⟨es, e5, e6⟩, rfl⟩ := (pl_ok 43 (p := p) (n := m) (v := .fz (.tup [])) (ds := []) (by omega) (by omega) (by omega) rfl (by simp)).ex
        simp [e4, e5, e6]
        refine ite_mk (fun h8 => ?_) (fun h8 => ?_)
        · refine Kont.mk ?_
          simp
          exact ⟨L, f, ⟨rfl, rfl⟩, by omega, hA30, by omega, g3.mono (by omega)⟩
        · exact ⟨_, u3, _, ⟨rfl, rfl⟩, by simpa using hw', g3, by omega⟩
    · obtain ⟨c', g', w', L, rfl, rfl, hw', h3, h4, h5, h6⟩ := h
      have hm2 := Nat.succ_mul ds.length (KK ^ m)
      simp only [List.length_cons, Nat.succ_eq_add_one] at h4 hm2 h5
      rw [hm2] at h4
      obtain ⟨f, u2, e2, s2, p2, g2⟩ := fo_c (k := 2) (i := 2) rfl (n := m) (v := .fz w'.d) (by omega) (by omega) h3 (by omega) (by simpa using hw')
      simp at s2
      have c1 : L.length < LIM := by rw [lim_def]; omega
      refine ⟨by simpa using c1, ?_⟩
      simp [e2]
      exact ⟨_, u2, _, L ++ [f], by simp [encs, fzs], ⟨rfl, rfl⟩, by simpa using hw', g2, by omega, by simp; omega, fun a ha => by
        rcases List.mem_append.mp ha with h | h
        · exact h6 a h
        · simp at h; subst h; exact ⟨by omega, by omega⟩⟩
end Sp

/-! Sp15: a sequent is right. -/
namespace Sp
open Pv PySem Pv.Fm Km
theorem wd_fm (f : Fm) : wd f.enc ≤ 3 := by
  induction f with
  | is x => simp only [enc, wd_tup, wds_cons, wds_nil, wd_str, List.length_cons, List.length_nil]; omega
  | no => simp only [enc, wd_tup, wds_cons, wds_nil, wd_str, List.length_cons, List.length_nil]; omega
  | bin w l r h1 h2 => simp only [enc, wd_tup, wds_cons, wds_nil, wd_str, List.length_cons, List.length_nil]; omega
@[simp low] theorem frz_o (o : Option U) (ρ : Pv.Env) : frzE (o :: ρ) = (o.map fun u => .fz u.d) :: frzE ρ := rfl
theorem wds_fms (l : List Fm) : wds (encs l) ≤ 3 := by
  induction l with
  | nil => simp
  | cons f l ih => rw [encs_cons, wds_cons]; have := wd_fm f; omega
structure Ok (k : Nat) (d : D) : Prop where
  gd : d.good = true
  dp : d.dep ≤ k
  ww : wd d ≤ 1000
structure Oks (k : Nat) (ds : List D) : Prop where
  gd : Ds.good ds = true
  dp : Ds.dep ds ≤ k
  ww : wds ds ≤ 1000
theorem Oks.nil {k : Nat} : Oks k [] := ⟨by simp, by simp, by simp⟩
theorem Oks.cons {k : Nat} {d : D} {ds : List D} (a : Ok k d) (b : Oks k ds) : Oks k (d :: ds) := ⟨by simp [a.gd, b.gd], by simp [a.dp, b.dp], by simp [a.ww, b.ww]⟩
theorem Oks.lst {k : Nat} {ds : List D} (a : Oks k ds) (h : ds.length ≤ 1000) : Ok (k + 1) (.lst ds) := ⟨by simp [a.gd], by simp [a.dp], by simp [a.ww, h]⟩
theorem Oks.tup {k : Nat} {ds : List D} (a : Oks k ds) (h : ds.length ≤ 1000) : Ok (k + 1) (.tup ds) := ⟨by simp [a.gd], by simp [a.dp], by simp [a.ww, h]⟩
theorem Ok.mono {k k' : Nat} {d : D} (a : Ok k d) (h : k ≤ k') : Ok k' d := ⟨a.gd, by have := a.dp; omega, a.ww⟩
theorem Oks.mono {k k' : Nat} {d : List D} (a : Oks k d) (h : k ≤ k') : Oks k' d := ⟨a.gd, by have := a.dp; omega, a.ww⟩
theorem Oks.map {α : Type} {k : Nat} {g : α → D} : ∀ {l : List α}, (∀ x ∈ l, Ok k (g x)) → Oks k (l.map g)
  | [], _ => Oks.nil
  | x :: l, h => Oks.cons (h x (by simp)) (Oks.map fun y hy => h y (by simp [hy]))
theorem ok_fm {f : Fm} (h : f.sz ≤ 30) : Ok 30 f.enc := ⟨by simp, by simp; have := dp_le f; omega, by have := wd_fm f; omega⟩
theorem ok_fms {l : List Fm} (h : LN l 30) : Oks 30 (encs l) := Oks.map fun f hf => ok_fm (h f hf)
theorem ok_str {k : Nat} (s : String) : Ok k (.str (Str.ofString s)) := ⟨by simp, by simp, by simp⟩
def SqS (q : Sq) : Prop := q.1.length ≤ 40 ∧ LN q.1 30 ∧ q.2.sz ≤ 30
theorem ok_sq {q : Sq} (h : SqS q) : Ok 32 (encSq q) := ((Oks.cons ((ok_fms h.2.1).lst (by simp; have := h.1; omega)) (Oks.cons ((ok_fm h.2.2).mono (by omega)) Oks.nil)).tup (by simp))
def WsS (p : String × List (List Sq)) : Prop := p.2.length ≤ 100 ∧ ∀ w ∈ p.2, w.length ≤ 2 ∧ ∀ q ∈ w, SqS q
theorem ok_ways {p : String × List (List Sq)} (h : WsS p) : Ok 34 (.lst (encWays p.2)) := by
  refine (Oks.map (k := 33) fun w hw => ?_).lst (by simp [encWays]; have := h.1; omega)
  obtain ⟨h1, h2⟩ := h.2 w hw
  exact (Oks.map fun q hq => ok_sq (h2 q hq)).lst (by simp; omega)
theorem ok_rule {p : String × List (List Sq)} (h : WsS p) : Ok 35 (RuD p) := (Oks.cons (ok_str _) (Oks.cons (ok_ways h) Oks.nil)).tup (by simp)
theorem rule_ws {l : List Fm} {r : Fm} (hl : l.length ≤ 39) (h1 : LN l 30) (h2 : r.sz ≤ 30) : WsS (ruleM l r) := ⟨ways_len2 l r hl, fun w hw => ⟨way_len l r w hw, fun q hq => rule_fits (n := 39) ⟨hl, h1, h2⟩ w hw q hq⟩⟩
theorem uRule_d (p : String × List (List Sq)) : (uRule p).d = RuD p := by
  have e : ∀ ws : List (List Sq), Us.d (ws.map fun w => .ul (w.map uSq)) = encWays ws := by
    intro ws
    rw [Us.d_map, List.map_map]
    refine List.map_congr_left fun w _ => ?_
    simp only [Function.comp, U.d, Us.d_map, List.map_map]
    congr 1
    refine List.map_congr_left fun q _ => ?_
    simp [uSq, encSq]
  simp [uRule, uWays, RuD, e]
theorem exact_ok {k : Nat} {d : D} {n : Nat} {u v : U} (h : Ok k d) (hn : k < n) (hk : k ≤ 60) (hu : u.d = d) (hv : v.d = d) : callF Ir.defs n "_law_exact" [u, v] = .ok (.fz (.bl true)) [none, none] := ex_ok k h.dp hn h.gd h.ww hk hu hv
def pairD (l : List Fm) (r : Fm) : D := .lst [.lst (encs l), r.enc]
theorem ok_pair {l : List Fm} {r : Fm} (hl : l.length ≤ 39) (h1 : LN l 30) (h2 : r.sz ≤ 30) : Ok 32 (pairD l r) := (Oks.cons ((ok_fms h1).lst (by simp; omega)) (Oks.cons ((ok_fm h2).mono (by omega)) Oks.nil)).lst (by simp)
theorem LN.mono {l : List Fm} (h : LN l 30) : LN l 50 := fun f hf => by have := h f hf; omega
section
variable {m : Nat} {l : List Fm} {r : Fm}
abbrev tT : U → Pv.Env → Prop := fun u _ => u = .fz (.bl true)
/-- the last row -/
theorem sr_last (hm : 60 ≤ m) (hl : l.length ≤ 39) (h1 : LN l 30) (h2 : r.sz ≤ 30) {N B C : Pv.Env → Prop} (x2 x3 x4 x5 x6 x7 x10 x11 x12 x13 : Option U) {u8 u9 : U} (h8 : u8.d = pairD l r) (h9 : u9.d = RuD (ruleM l r)) :
    Kont (callF Ir.defs m) (sdrop 9 Ir.d__law_sequent_right.body) [] N tT B C [some (.fz (.lst (encs l))), some (.fz r.enc), x2, x3, x4, x5, x6, x7, some u8, some u9, x10, x11, x12, x13] := by
  refine Kont.mk ?_
  simp only [sdrop, Ir.d__law_sequent_right]
  have e1 := ra_ok (n := m) (by omega) (ul := .fz (.lst (encs l))) l r rfl hl h1.mono (by omega)
  have hok : Ok 36 (.lst [RuD (ruleM l r), pairD l r]) := ((Oks.cons (ok_rule (rule_ws hl h1 h2)) (Oks.cons ((ok_pair hl h1 h2).mono (by omega)) Oks.nil)).lst (by simp))
  have e2 := exact_ok (n := m) (u := .ul [uRule (ruleM l r), .ul [.fz (.lst (encs l)), .fz r.enc]]) (v := .ul [u9, u8]) hok (by omega) (by omega) (by simp [uRule_d, pairD]) (by simp [h8, h9])
  simp [e1, e2]
theorem eq_li (f : Bool → Bool) {ds : List D} {i : Int} (h : Ds.good ds = true) (hd : Ds.dep ds ≤ 60) : opEq f (.lst ds) (.int i) = some (.fz (.bl (f false))) := by
  rw [opEq_good (by simpa using h) (by simp) (by simp; omega) (by simp)]
  simp [D.beq]
/-- what was told is changed, and asked again -/
theorem sr_chg (hm : 60 ≤ m) (hl : l.length ≤ 39) (h1 : LN l 30) (h2 : r.sz ≤ 30) {N B C : Pv.Env → Prop} (x2 x4 x5 x6 x7 x10 x11 x12 x13 : Option U) {u8 u9 : U} (h8 : u8.d = pairD l r) (h9 : u9.d = RuD (ruleM l r)) :
    Kont (callF Ir.defs m) (sdrop 7 Ir.d__law_sequent_right.body) [] N tT B C [some (.fz (.lst (encs l))), some (.fz r.enc), x2, some (uRule (ruleM l r)), x4, x5, x6, x7, some u8, some u9, x10, x11, x12, x13] := by
  have last := fun x3 => sr_last (m := m) (l := l) (r := r) hm hl h1 h2 (N := N) (B := B) (C := C) x2 x3 x4 x5 x6 x7 x10 x11 x12 x13 h8 h9
  have hw := rule_ws hl h1 h2
  have hk := ok_ways hw
  generalize ruleM l r = p at hw hk ⊢
  obtain ⟨wd', ws⟩ := p
  refine Kont.mk ?_
  simp only [sdrop, Ir.d__law_sequent_right]
  have c1 : ws.length < LIM := by have := hw.1; rw [lim_def]; simp at this; omega
  simp [uRule, uWays, modU, c1]
  refine Kont.mk ?_
  cases ws with
  | nil =>
    simp
    exact last _
  | cons w ws =>
    have hwk : Ok 33 (.lst (w.map encSq)) := by
      obtain ⟨q1, q2⟩ := hw.2 w (by simp)
      exact (Oks.map fun q hq => ok_sq (q2 q hq)).lst (by simp; omega)
    have hwk2 := hwk.gd
    have hwk3 := hwk.dp
    simp at hwk2 hwk3
    have eU : Us.d (w.map uSq) = w.map encSq := by
      rw [Us.d_map, List.map_map]
      refine List.map_congr_left fun q _ => ?_
      simp [uSq, encSq]
    have e1 := eq_li not (i := 0) hwk2 (by omega)
    have e2 := eq_l0 not (w.map encSq) hwk2 (by omega)
    simp [eU, e1, e2]
    cases w with
    | nil =>
      simp
      exact last _
    | cons q w =>
      have hq := (hw.2 (q :: w) (by simp)).2 q (by simp)
      simp
      refine Kont.mk ?_
      have c2 : q.1.length < LIM := by have := hq.1; rw [lim_def]; omega
      simp [modU, uSq, c2]
      exact last _
end
end Sp

/-! Sp16: a sequent is right: cases. -/
namespace Sp
open Pv PySem Pv.Fm Km
section
variable {m : Nat} {l : List Fm} {r : Fm}
theorem brw6 : brwP [] [6, 7, 10, 13] 14 = [0, 1, 2, 3, 4, 5, 8, 9, 11, 12] := by decide
def okO (x : Option U) : Prop := x = none ∨ ∃ d, x = some (.fz d)
theorem okO_scal (x : Option U) : okO (scalO x) := by
  rcases x with _ | u
  · exact .inl rfl
  · cases u with
    | fz d =>
      simp only [scalO]
      split
      · exact .inr ⟨_, rfl⟩
      · exact .inl rfl
    | ul _ => exact .inl rfl
    | ut _ => exact .inl rfl
theorem okO_map (x : Option U) : okO (x.map fun u => .fz u.d) := by
  rcases x with _ | u
  · exact .inl rfl
  · exact .inr ⟨_, rfl⟩
@[simp] theorem ixr0 (p : String × List (List Sq)) : opIdx (RuD p) (.int 0) = some (.fz (.str (Str.ofString p.1))) := by simp [RuD]
@[simp] theorem ixr1 (p : String × List (List Sq)) : opIdx (RuD p) (.int 1) = some (.fz (.lst (encWays p.2))) := by simp [RuD]
theorem filt_emp {α : Type} (p : α → Bool) (l : List α) : (l.filter fun x => !p x).isEmpty = l.all p := by
  induction l with
  | nil => rfl
  | cons x l ih => cases h : p x <;> simp [List.filter_cons, h, ih]
theorem filt_emp2 {α : Type} (p : α → Bool) (l : List α) : (l.filter p).isEmpty = !l.any p := by
  induction l with
  | nil => rfl
  | cons x l ih => cases h : p x <;> simp [List.filter_cons, h, ih]
theorem emp_map {α β : Type} (g : α → β) (l : List α) : (l.map g).isEmpty = l.isEmpty := by cases l <;> rfl
theorem sr_cases (hm : 60 ≤ m) (hl : l.length ≤ 39) (h1 : LN l 30) (h2 : r.sz ≤ 30) {N B C : Pv.Env → Prop} (css : List (List Lt)) (x4 x5 x6 x11 x12 : Option U) {u8 u9 : U} (h8 : u8.d = pairD l r) (h9 : u9.d = RuD (ruleM l r)) :
    Kont (callF Ir.defs m) (sdrop 6 Ir.d__law_sequent_right.body) [] N tT B C [some (.fz (.lst (encs l))), some (.fz r.enc), some (.fz (.lst (css.map encC))), some (uRule (ruleM l r)), x4, x5, x6, none, some u8, some u9, none, x11, x12, none] := by
  have chg := fun x6 x7 x10 x13 => sr_chg (m := m) (l := l) (r := r) hm hl h1 h2 (N := N) (B := B) (C := C) (some (.fz (.lst (css.map encC)))) x4 x5 x6 x7 x10 x11 x12 x13 h8 h9
  have hw := rule_ws hl h1 h2
  have hk := ok_ways hw
  refine Kont.mk ?_
  simp only [sdrop, Ir.d__law_sequent_right]
  simp [brw6, -brwP_def, uRule_d, h8, h9]
  refine for_inv (fun q ρ => ∃ (cs : List (List Lt)) (y4 y5 y6 y7 y10 y11 y12 : Option U), q = cs.map encC ∧ ρ = [some (.fz (.lst (encs l))), some (.fz r.enc), some (.fz (.lst (css.map encC))), some (.fz (RuD (ruleM l r))), y4, y5, y6, y7, some (.fz (pairD l r)), some (.fz (RuD (ruleM l r))), y10, y11, y12, none] ∧ okO y6) (fun ρ h => ?_) (fun d q ρ h => ?_) _ _ ⟨css, _, _, _, _, _, _, _, rfl, rfl, okO_map _⟩
  · obtain ⟨cs, y4, y5, y6, y7, y10, y11, y12, e1, rfl, h6⟩ := h
    simp
    exact chg _ _ _ _
  · obtain ⟨cs, y4, y5, y6, y7, y10, y11, y12, e1, rfl, h6⟩ := h
    cases cs with
    | nil => simp at e1
    | cons c cs =>
      simp only [List.map_cons, List.cons.injEq] at e1
      obtain ⟨rfl, rfl⟩ := e1
      have rt := rule_true (inC c) l r
      have ho : ∀ q : Sq, SqS q → callF Ir.defs m "_law_holds" [.fz (.lst (encs q.1)), .fz q.2.enc, .fz (encC c)] = .ok (.fz (.bl (holds (inC c) q.1 q.2))) [none, none, none] := fun q hq => ho_ok c q.1 q.2 hq.1 hq.2.1.mono (by have := hq.2.2; omega) (by omega)
      have hws : (ruleM l r).2.length ≤ LIM := by have := hw.1; rw [lim_def]; omega
      have hwl : ∀ w ∈ (ruleM l r).2, w.length ≤ LIM := fun w hw' => by have := (hw.2 w hw').1; rw [lim_def]; omega
      have hsm := h1.mono.sm
      have hme := ho (l, r) ⟨by simp; omega, h1, h2⟩
      simp only at hme
      let p : List Sq → Bool := fun w => w.all fun q => holds (inC c) q.1 q.2
      have hok : Oks 33 (((ruleM l r).2.filter p).map fun w => .lst (w.map encSq)) := Oks.map fun w hw' => by
        obtain ⟨q1, q2⟩ := hw.2 w (List.mem_filter.mp hw').1
        exact (Oks.map fun q hq => ok_sq (q2 q hq)).lst (by simp; omega)
      have hok1 := hok.gd
      have hok2 : Ds.dep (((ruleM l r).2.filter p).map fun w => D.lst (w.map encSq)) ≤ 60 := by have := hok.dp; omega
      have hst : stand (inC c) (ruleM l r).2 = (ruleM l r).2.any p := rfl
      have hst2 : (((ruleM l r).2.filter p).map fun w => D.lst (w.map encSq)).isEmpty = !stand (inC c) (ruleM l r).2 := by
        rw [emp_map, filt_emp2, hst]
      have hb : ∀ b : Bool, b = true ∨ b = false := fun b => by cases b <;> simp
      have step : ∀ w ∈ (ruleM l r).2, Oks 33 ((w.filter fun q => !holds (inC c) q.1 q.2).map encSq) := fun w hw' => Oks.map fun q hq => (ok_sq ((hw.2 w hw').2 q (List.mem_filter.mp hq).1)).mono (by omega)
      rcases h6 with rfl | ⟨d6, rfl⟩
      all_goals
        simp [hid_cons]
        refine comp_filt (ruleM l r).2 (fun w => .lst (w.map encSq)) p (fun w => .fz (.lst (w.map encSq))) hws (fun w hw' => ?_) ?_
        · simp [hid_cons]
          refine comp_filt w encSq (fun q => !holds (inC c) q.1 q.2) (fun q => .fz (encSq q)) (hwl w hw') (fun q hq => ?_) ?_
          · have := ho q ((hw.2 w hw').2 q hq)
            simp [encSq, this]
          · have k1 := (step w hw').gd
            have k2 : Ds.dep ((w.filter fun q => !holds (inC c) q.1 q.2).map encSq) ≤ 60 := by have := (step w hw').dp; omega
            rw [us_fz_map]
            simp only [eq_l0 _ _ k1 k2, emp_map, filt_emp]
            simp [p]
        · simp
          refine Kont.mk ?_
          have hacc := us_fz_map (fun w : List Sq => D.lst (w.map encSq)) ((ruleM l r).2.filter p)
          generalize ((ruleM l r).2.filter p).map (fun w => U.fz (D.lst (w.map encSq))) = acc at hacc ⊢
          simp [hme, hacc, eq_l0 _ _ hok1 hok2, hst2]
          by_cases ht : (ruleM l r).1 = "tried"
          · have rt2 := rt.2 ht
            cases hs : stand (inC c) (ruleM l r).2 with
            | true => simp [ht, hs, rt2 hs, okO]; exact ⟨⟨cs, rfl⟩, _, _, _, ⟨rfl, rfl, rfl⟩, by simp⟩
            | false => simp [ht, hs, okO]; exact ⟨⟨cs, rfl⟩, _, _, _, ⟨rfl, rfl, rfl⟩, by simp⟩
          · have rt1 := rt.1 ht
            cases hs : stand (inC c) (ruleM l r).2 with
            | true => rw [hs] at rt1; simp [ht, hs, rt1, okO]; exact ⟨⟨cs, rfl⟩, _, _, _, ⟨rfl, rfl, rfl⟩, by simp⟩
            | false => rw [hs] at rt1; simp [ht, hs, rt1, okO]; exact ⟨⟨cs, rfl⟩, _, _, _, ⟨rfl, rfl, rfl⟩, by simp⟩
end
end Sp

/-! Sp17: a sequent is right: weights. -/
namespace Sp
open Pv PySem Pv.Fm Km
section
variable {m : Nat} {l : List Fm} {r : Fm}
theorem brw5 : brwP [] [4, 6, 11, 12] 14 = [0, 1, 2, 3, 5, 7, 8, 9, 10, 13] := by decide
theorem wts_D (l : List Fm) : Us.d (l.map fun f => U.fz (.int (wt f))) = iD (wts l) := by
  rw [us_fz_map]; simp [iD, wts]
theorem sr_less (hm : 60 ≤ m) (hl : l.length ≤ 38) (h1 : LN l 30) (h2 : r.sz ≤ 30) {N B C : Pv.Env → Prop} (css : List (List Lt)) (x4 : Option U) (h4 : okO x4) {u8 u9 : U} (h8 : u8.d = pairD l r) (h9 : u9.d = RuD (ruleM l r)) :
    Kont (callF Ir.defs m) (sdrop 5 Ir.d__law_sequent_right.body) [] N tT B C [some (.fz (.lst (encs l))), some (.fz r.enc), some (.fz (.lst (css.map encC))), some (uRule (ruleM l r)), x4, some (.ul ((l ++ [r]).map fun f => .fz (.int (wt f)))), none, none, some u8, some u9, none, none, none, none] := by
  have nxt := fun x4 x6 x11 x12 => sr_cases (m := m) (l := l) (r := r) hm (by omega) h1 h2 (N := N) (B := B) (C := C) css x4 (some (.ul ((l ++ [r]).map fun f => .fz (.int (wt f))))) x6 x11 x12 h8 h9
  have hw := rule_ws (by omega : l.length ≤ 39) h1 h2
  have hws := wts_D (l ++ [r])
  generalize (l ++ [r]).map (fun f => U.fz (.int (wt f))) = W at hws nxt ⊢
  have fz4 : okO (x4.map fun u => .fz u.d) := okO_map _
  refine Kont.mk ?_
  simp only [sdrop, Ir.d__law_sequent_right]
  simp [brw5, -brwP_def, uRule_d, h8, h9, hws]
  refine for_inv (fun q ρ => ∃ (ws : List (List Sq)) (y4 y6 y11 y12 : Option U), q = encWays ws ∧ (∀ w ∈ ws, w ∈ (ruleM l r).2) ∧ ρ = [some (.fz (.lst (encs l))), some (.fz r.enc), some (.fz (.lst (css.map encC))), some (.fz (RuD (ruleM l r))), y4, some (.fz (.lst (iD (wts (l ++ [r]))))), y6, none, some (.fz (pairD l r)), some (.fz (RuD (ruleM l r))), none, y11, y12, none] ∧ okO y4) (fun ρ h => ?_) (fun d q ρ h => ?_) _ _ ⟨(ruleM l r).2, _, _, _, _, rfl, fun _ h => h, rfl, fz4⟩
  · obtain ⟨ws, y4, y6, y11, y12, e1, _, rfl, h6⟩ := h
    simp
    exact nxt _ _ _ _
  · obtain ⟨ws, y4, y6, y11, y12, e1, hin, rfl, h6⟩ := h
    cases ws with
    | nil => simp [encWays] at e1
    | cons w ws =>
      simp only [encWays, List.map_cons, List.cons.injEq] at e1
      obtain ⟨rfl, rfl⟩ := e1
      have hww := hin w (by simp)
      obtain ⟨hw1, hw2⟩ := hw.2 w hww
      have hin2 : ∀ w ∈ ws, w ∈ (ruleM l r).2 := fun w h => hin w (by simp [h])
      simp
      refine for_inv (fun q ρ => ∃ (qs : List Sq) (y4 y11 y12 : Option U), q = qs.map encSq ∧ (∀ q ∈ qs, q ∈ w) ∧ ρ = [some (.fz (.lst (encs l))), some (.fz r.enc), some (.fz (.lst (css.map encC))), some (.fz (RuD (ruleM l r))), y4, some (.fz (.lst (iD (wts (l ++ [r]))))), some (.fz (.lst (w.map encSq))), none, some (.fz (pairD l r)), some (.fz (RuD (ruleM l r))), none, y11, y12, none] ∧ okO y4) (fun ρ h => ?_) (fun d q ρ h => ?_) _ _ ⟨w, _, _, _, rfl, fun _ h => h, rfl, h6⟩
      · obtain ⟨qs, y4, y11, y12, e1, _, rfl, h6⟩ := h
        exact ⟨ws, rfl, hin2, _, ⟨_, _, _, rfl⟩, h6⟩
      · obtain ⟨qs, y4, y11, y12, e1, hiq, rfl, h6⟩ := h
        cases qs with
        | nil => simp at e1
        | cons s qs =>
          simp only [List.map_cons, List.cons.injEq] at e1
          obtain ⟨rfl, rfl⟩ := e1
          have hsq := hw2 s (hiq s (by simp))
          have hiq2 : ∀ q ∈ qs, q ∈ w := fun q h => hiq q (by simp [h])
          have hless := rule_less l r w hww s (hiq s (by simp))
          have hsl := hsq.1
          have c1 : s.1.length + 1 ≤ LIM := by rw [lim_def]; omega
          have e3 : encs s.1 ++ [s.2.enc] = encs (s.1 ++ [s.2]) := by simp [encs]
          rcases h6 with rfl | ⟨d4, rfl⟩
          all_goals
            simp [encSq, hid_cons, c1]
            rw [e3]
            refine comp_all (s.1 ++ [s.2]) enc (fun f => .fz (.int (wt f))) (by simp; exact c1) (fun f hf => ?_) ?_
            · have hfs : f.sz ≤ 30 := by
                rcases List.mem_append.mp hf with h | h
                · exact hsq.2.1 f h
                · simp at h; subst h; exact hsq.2.2
              have := dp_le f
              simp [we_ok f (n := m) (by omega)]
            · have hws2 := wts_D (s.1 ++ [s.2])
              generalize (s.1 ++ [s.2]).map (fun f => U.fz (.int (wt f))) = W2 at hws2 ⊢
              have := le_ok (n := m) (by omega) (wts (l ++ [r])) (wts (s.1 ++ [s.2])) (u := .fz (.lst (iD (wts (l ++ [r]))))) (v := .ul W2) rfl (by simp [hws2]) (by simp [wts]; omega) (by simp [wts]; omega) hless
              simp [this]
              exact ⟨qs, rfl, fun a b h => hiq2 (a, b) h, by simp [okO]⟩
theorem sr_wts (hm : 60 ≤ m) (hl : l.length ≤ 38) (h1 : LN l 30) (h2 : r.sz ≤ 30) {N B C : Pv.Env → Prop} (css : List (List Lt)) (x4 : Option U) (h4 : okO x4) {u8 u9 : U} (h8 : u8.d = pairD l r) (h9 : u9.d = RuD (ruleM l r)) :
    Kont (callF Ir.defs m) (sdrop 4 Ir.d__law_sequent_right.body) [] N tT B C [some (.fz (.lst (encs l))), some (.fz r.enc), some (.fz (.lst (css.map encC))), some (uRule (ruleM l r)), x4, none, none, none, some u8, some u9, none, none, none, none] := by
  have nxt := fun x4 h4 => sr_less (m := m) (l := l) (r := r) hm hl h1 h2 (N := N) (B := B) (C := C) css x4 h4 h8 h9
  have c1 : l.length + 1 ≤ LIM := by rw [lim_def]; omega
  have e3 : encs l ++ [r.enc] = encs (l ++ [r]) := by simp [encs]
  refine Kont.mk ?_
  simp only [sdrop, Ir.d__law_sequent_right]
  rcases h4 with rfl | ⟨d4, rfl⟩
  all_goals
    simp [hid_cons, c1]
    rw [e3]
    refine comp_all (l ++ [r]) enc (fun f => .fz (.int (wt f))) (by simp; exact c1) (fun f hf => ?_) ?_
    · have hfs : f.sz ≤ 30 := by
        rcases List.mem_append.mp hf with h | h
        · exact h1 f h
        · simp at h; subst h; exact h2
      have := dp_le f
      simp [we_ok f (n := m) (by omega)]
    · generalize (l ++ [r]).map (fun f => U.fz (.int (wt f))) = W at nxt ⊢
      simp
      exact nxt _ (by simp [okO])
theorem sr_fmls (hm : 60 ≤ m) (hl : l.length ≤ 38) (h1 : LN l 30) (h2 : r.sz ≤ 30) {N B C : Pv.Env → Prop} (css : List (List Lt)) {u8 u9 : U} (h8 : u8.d = pairD l r) (h9 : u9.d = RuD (ruleM l r)) :
    Kont (callF Ir.defs m) (sdrop 3 Ir.d__law_sequent_right.body) [] N tT B C [some (.fz (.lst (encs l))), some (.fz r.enc), some (.fz (.lst (css.map encC))), some (uRule (ruleM l r)), none, none, none, none, some u8, some u9, none, none, none, none] := by
  have nxt := fun x4 h4 => sr_wts (m := m) (l := l) (r := r) hm hl h1 h2 (N := N) (B := B) (C := C) css x4 h4 h8 h9
  have c1 : l.length + 1 ≤ LIM := by rw [lim_def]; omega
  have e3 : encs l ++ [r.enc] = encs (l ++ [r]) := by simp [encs]
  refine Kont.mk ?_
  simp only [sdrop, Ir.d__law_sequent_right]
  simp [c1]
  rw [e3]
  refine for_inv (fun q ρ => ∃ (fs : List Fm) (y4 : Option U), q = encs fs ∧ (∀ f ∈ fs, f ∈ l ++ [r]) ∧ ρ = [some (.fz (.lst (encs l))), some (.fz r.enc), some (.fz (.lst (css.map encC))), some (uRule (ruleM l r)), y4, none, none, none, some u8, some u9, none, none, none, none] ∧ okO y4) (fun ρ h => ?_) (fun d q ρ h => ?_) _ _ ⟨l ++ [r], _, rfl, fun _ h => h, rfl, .inl rfl⟩
  · obtain ⟨fs, y4, e1, _, rfl, h4⟩ := h
    exact nxt _ h4
  · obtain ⟨fs, y4, e1, hin, rfl, h4⟩ := h
    cases fs with
    | nil => simp at e1
    | cons f fs =>
      rw [encs_cons] at e1
      simp only [List.cons.injEq] at e1
      obtain ⟨rfl, rfl⟩ := e1
      have hfs : f.sz ≤ 30 := by
        rcases List.mem_append.mp (hin f (by simp)) with h | h
        · exact h1 f h
        · simp at h; subst h; exact h2
      have hdp := dp_le f
      have e4 := wo_ok (n := m) (by omega) f (by omega)
      have e5 := we_ok f (n := m) (by omega)
      have hok : Ok 1 (.lst [.int (wt f), .int (wt f)]) := ⟨by simp, by simp, by simp⟩
      have e6 := exact_ok (n := m) (u := .ul [.fz (.int (wt f)), .fz (.int (wt f))]) (v := .ul [.fz (.int (wt f)), .fz (.int (wt f))]) hok (by omega) (by omega) rfl rfl
      simp [e4, e5, e6, Es.anyMv, permU]
      exact ⟨fs, rfl, fun f h => by simpa using hin f (by simp [h]), by simp [okO]⟩
theorem sr_ok {n : Nat} (hn : 61 ≤ n) (hl : l.length ≤ 38) (h1 : LN l 30) (h2 : r.sz ≤ 30) (css : List (List Lt)) : callF Ir.defs n "_law_sequent_right" [.fz (.lst (encs l)), .fz r.enc, .fz (.lst (css.map encC))] = .ok (.fz (.bl true)) [none, none, none] := by
  obtain ⟨m, rfl, _⟩ := suc hn
  refine eq_of ?_
  rw [Cl.c__law_sequent_right]
  obtain ⟨u8, os, e1, e2, rfl⟩ := (cp_ok 32 (n := m) (u := .ul [.fz (.lst (encs l)), .fz r.enc]) (d := pairD l r) (ok_pair (by omega) h1 h2).dp (by omega) (ok_pair (by omega) h1 h2).gd (ok_pair (by omega) h1 h2).ww (by omega) (by simp [pairD])).ex
  obtain ⟨u9, os, e3, e4, rfl⟩ := (ru_ok (n := m) (by omega) l r (by omega) h1.mono (by omega)).ex
  simp [Ir.d__law_sequent_right, e1, e3]
  refine Kont.mk ?_
  have e5 := ra_ok (n := m) (by omega) (ul := .fz (.lst (encs l))) l r rfl (by omega) h1.mono (by omega)
  simp [e5]
  refine Kont.mk ?_
  have hok : Ok 36 (.lst [RuD (ruleM l r), RuD (ruleM l r), pairD l r]) := ((Oks.cons (ok_rule (rule_ws (by omega) h1 h2)) (Oks.cons (ok_rule (rule_ws (by omega) h1 h2)) (Oks.cons ((ok_pair (by omega) h1 h2).mono (by omega)) Oks.nil))).lst (by simp))
  have e6 := exact_ok (n := m) (u := .ul [.fz (RuD (ruleM l r)), uRule (ruleM l r), .ul [.fz (.lst (encs l)), .fz r.enc]]) (v := .ul [.fz (RuD (ruleM l r)), .fz (RuD (ruleM l r)), .fz (pairD l r)]) hok (by omega) (by omega) (by simp [uRule_d, pairD]) (by simp)
  simp [e5, e2, e4, uRule_d, e6, Es.anyMv, permU]
  exact sr_fmls (by omega) hl h1 h2 css e2 e4
end
end Sp

/-! Sp18: down to the end. -/
namespace Sp
open Pv PySem Pv.Fm Km
theorem way_pick {ws : List (List Sq)} {ds : List D} (h : ds = ws.map fun w => .lst (w.map encSq)) {d : D} (hd : d ∈ ds) : ∃ w ∈ ws, d = .lst (w.map encSq) := by
  subst h
  obtain ⟨w, hw, rfl⟩ := List.mem_map.mp hd
  exact ⟨w, hw, rfl⟩
theorem dr_ok {n : Nat} (hn : 70 ≤ n) {B : Nat} {u v : U} (hg : Gn B u) (hB : B + KK ^ n ≤ TOP) (l : List Fm) (r : Fm) (hv : v.d = .lst (encs l)) (hl : l.length ≤ 20) (h1 : LN l 30) (h2 : r.sz ≤ 30) : (callF Ir.defs n "_law_down_right" [u, v, .fz r.enc]).G fun w os => w = .fz (.bl true) ∧ ∃ u', os = [some u', none, none] ∧ Gn (B + KK ^ n) u' := by
  obtain ⟨m, rfl, _⟩ := suc hn
  have hkk := kk_le m
  have hp := kk_pos m
  obtain ⟨cu, os, e1, e2, rfl⟩ := (ca_ok (n := m) (by omega)).ex
  generalize ([[], [.a], [.a, .b], [.b]] : List (List Lt)) = css at e2
  rw [Cl.c__law_down_right]
  simp [Ir.d__law_down_right, e1]
  refine Kont.mk ?_
  simp
  have r9 : rgD 0 9 = [.int 0, .int 1, .int 2, .int 3, .int 4, .int 5, .int 6, .int 7, .int 8] := rfl
  rw [r9]
  refine for_inv (fun q ρ => ∃ (c : Nat) (g lu cu : U) (l : List Fm) (r : Fm) (x4 x5 : Option U), ρ = [some g, some lu, some (.fz r.enc), some cu, x4, x5, none] ∧ lu.d = .lst (encs l) ∧ cu.d = .lst (css.map encC) ∧ Gn c g ∧ c + 2 * q.length ≤ B + 18 ∧ l.length + q.length ≤ 29 ∧ LN l 30 ∧ r.sz ≤ 30) (fun ρ h => ?_) (fun d q ρ h => ?_) _ _ ⟨B, u, v, cu, l, r, none, none, rfl, hv, e2, hg, by simp, by simp; omega, h1, h2⟩
  · obtain ⟨c, g, lu, cu, l, r, x4, x5, rfl, hlu, hcu, g1, q1, q2, q3, q4⟩ := h
    refine Kont.mk ?_
    simp
    exact g1.mono (by simp at q1; omega)
  · obtain ⟨c, g, lu, cu, l, r, x4, x5, rfl, hlu, hcu, g1, q1, q2, q3, q4⟩ := h
    simp at q1 q2
    have sr := sr_ok (n := m) (l := l) (r := r) (by omega) (by omega) q3 q4 css
    obtain ⟨ru, os, e3, e4, rfl⟩ := (ru_ok (n := m) (by omega) l r (by omega) q3.mono (by omega)).ex
    have hw := rule_ws (by omega : l.length ≤ 39) q3 q4
    simp [hlu, hcu, sr]
    refine Kont.mk ?_
    simp [hlu, e3, e4, hid_cons]
    refine comp_filt (ruleM l r).2 (fun w => .lst (w.map encSq)) (fun w => !w.isEmpty) (fun w => .fz (.lst (w.map encSq))) (by have := hw.1; rw [lim_def]; omega) (fun w hw' => ?_) ?_
    · obtain ⟨k1, k2⟩ := hw.2 w hw'
      have hok : Oks 32 (w.map encSq) := Oks.map fun q hq => ok_sq (k2 q hq)
      have g1 := hok.gd
      have g2 : Ds.dep (w.map encSq) ≤ 60 := by have := hok.dp; omega
      have := eq_l0 not (w.map encSq) g1 g2
      simp [this]
    · have hacc := us_fz_map (fun w : List Sq => D.lst (w.map encSq)) ((ruleM l r).2.filter fun w => !w.isEmpty)
      have hmem : ∀ w ∈ (ruleM l r).2.filter (fun w => !w.isEmpty), w ∈ (ruleM l r).2 ∧ w ≠ [] := fun w h => by
        have := List.mem_filter.mp h
        exact ⟨this.1, by simpa using this.2⟩
      have hok : Oks 33 (((ruleM l r).2.filter fun w => !w.isEmpty).map fun w => D.lst (w.map encSq)) := Oks.map fun w hw' => by
        obtain ⟨q1, q2⟩ := hw.2 w (hmem w hw').1
        exact (Oks.map fun q hq => ok_sq (q2 q hq)).lst (by simp; omega)
      have hlen : ((ruleM l r).2.filter fun w => !w.isEmpty).length ≤ 100 := Nat.le_trans (List.length_filter_le _ _) hw.1
      have k1 := hok.gd
      have k2 : Ds.dep (((ruleM l r).2.filter fun w => !w.isEmpty).map fun w => D.lst (w.map encSq)) ≤ 60 := by have := hok.dp; omega
      generalize (ruleM l r).2.filter (fun w => !w.isEmpty) = ws at hacc hmem k1 k2 hlen ⊢
      generalize ws.map (fun w => U.fz (D.lst (w.map encSq))) = acc at hacc ⊢
      simp
      refine Kont.mk ?_
      simp [hacc, eq_l0 _ _ k1 k2]
      refine ite_mk (fun he => ?_) (fun he => ?_)
      · refine Kont.mk ?_
        simp
        exact g1.mono (by omega)
      · have hpos : 0 < ws.length := List.length_pos_iff.mpr he
        obtain ⟨d1, u1, e5, d2, g2⟩ := pick_ok (n := m) (by omega) g1 (by omega) (v := .fz (.lst (ws.map fun w => D.lst (w.map encSq)))) (ds := ws.map fun w => D.lst (w.map encSq)) rfl (by simp; omega) (by simp; omega)
        obtain ⟨w, hww, rfl⟩ := way_pick rfl d2
        obtain ⟨m1, m2⟩ := hmem w hww
        obtain ⟨n1, n2⟩ := hw.2 w m1
        obtain ⟨d3, u2, e6, d4, g3⟩ := pick_ok (n := m) (by omega) g2 (by omega) (v := .fz (.lst (w.map encSq))) (ds := w.map encSq) rfl (by simp; have := List.length_pos_iff.mpr m2; omega) (by simp; omega)
        obtain ⟨s, hs, rfl⟩ := List.mem_map.mp d4
        obtain ⟨s1, s2, s3⟩ := n2 s hs
        have hfit := (rule_fits (n := l.length) (k := 30) ⟨Nat.le_refl _, q3, q4⟩ w m1 s hs).1
        refine Kont.mk ?_
        simp [e5, e6, encSq]
        exact ⟨_, _, _, _, s.1, s.2, ⟨rfl, rfl, rfl, rfl⟩, rfl, rfl, g3, by omega, by omega, s2, s3⟩
theorem exact_bind {n : Nat} (h : 70 ≤ n) {told due : U} {d : D} (hok : Ok 40 d) (h1 : told.d = d) (h2 : due.d = d) {Q : U → List (Option U) → Prop} (hQ : Q (.fz (.bl true)) [none, none]) : (callF Ir.defs n "_law_exact" [told, due]).G Q := by
  rw [exact_ok hok (by omega) (by omega) h1 h2]
  exact hQ
theorem law_ok (ns : List Int) (hl : ns.length ≤ 63) : ∃ os, callF Ir.defs 231 "law" [.fz (.lst (ns.map D.int))] = .ok (.fz (.bl true)) os := by
  suffices hs : (callF Ir.defs (230 + 1) "law" [.fz (.lst (ns.map D.int))]).G fun u os => u = .fz (.bl true) by
    obtain ⟨u, os, e, rfl⟩ := hs.ex
    exact ⟨os, e⟩
  obtain ⟨gu, e0, g0⟩ := gen_ok (n := 230) (by omega) ns hl
  rw [Cl.c_law]
  have hpow : 100 * KK ^ 230 ≤ TOP := by
    rw [top_def]
    have : KK ^ 230 = 2 ^ 4600 := by
      unfold KK
      rw [show (1048576 : Nat) = 2 ^ 20 from by decide, ← Nat.pow_mul]
    rw [this]
    calc 100 * 2 ^ 4600 ≤ 2 ^ 7 * 2 ^ 4600 := Nat.mul_le_mul_right _ (by decide)
      _ = 2 ^ 4607 := by rw [← Nat.pow_add]
      _ ≤ 2 ^ 5000 := Nat.pow_le_pow_right (by decide) (by decide)
  have hp := kk_pos 230
  generalize hm : 230 = m at *
  simp [Ir.d_law, e0]
  refine Kont.mk ?_
  simp
  have r6 : rgD 0 6 = [.int 0, .int 1, .int 2, .int 3, .int 4, .int 5] := rfl
  rw [r6]
  refine for_inv (fun q ρ => ∃ (c : Nat) (g : U) (x2 x3 x4 x5 x6 x7 x8 x9 x10 x11 : Option U), ρ = [some (.fz (.lst (ns.map D.int))), some g, x2, none, x4, none, none, none, none, x9, x10, x11, none] ∧ Gn c g ∧ c + q.length * (10 * KK ^ m) ≤ 70 * KK ^ m) (fun ρ h => ?_) (fun d q ρ h => ?_) _ _ ⟨0, gu, none, none, none, none, none, none, none, none, none, none, rfl, g0, by simp; omega⟩
  · obtain ⟨c, g, x2, x3, x4, x5, x6, x7, x8, x9, x10, x11, rfl, h1, h2⟩ := h
    refine Kont.mk ?_
    simp
    have f1 := ra_ok (n := m) (by omega) (ul := .ul [.fz (Fm.bin .then (.is .a) (.is .b)).enc, .fz (Fm.is .a).enc]) [.bin .then (.is .a) (.is .b), .is .a] (.is .b) (by simp [encs]) (by simp) (by simp [LN, sz]) (by simp [sz])
    have f2 := ra_ok (n := m) (by omega) (ul := .ul []) [] (.bin .then (.is .a) (.is .a)) (by simp) (by simp) (by simp [LN]) (by simp [sz])
    have f3 := ra_ok (n := m) (by omega) (ul := .ul [.fz (Fm.bin .then (.bin .then (.is .a) (.is .b)) (.is .c)).enc]) [.bin .then (.bin .then (.is .a) (.is .b)) (.is .c)] (.is .c) (by simp [encs]) (by simp) (by simp [LN, sz]) (by simp [sz])
    have f4 := ra_ok (n := m) (by omega) (ul := .ul [.fz Fm.no.enc]) [.no] (.is .a) (by simp [encs]) (by simp) (by simp [LN, sz]) (by simp [sz])
    have f5 := ra_ok (n := m) (by omega) (ul := .ul [.fz (Fm.is .a).enc]) [.is .a] (.is .b) (by simp [encs]) (by simp) (by simp [LN, sz]) (by simp [sz])
    have f6 := wo_ok (n := m) (by omega) (.bin .and (.is .a) (.is .b)) (by simp [sz])
    have w1 := rule_ws (l := [.bin .then (.is .a) (.is .b), .is .a]) (r := .is .b) (by simp) (by simp [LN, sz]) (by simp [sz])
    have w2 := rule_ws (l := []) (r := .bin .then (.is .a) (.is .a)) (by simp) (by simp [LN]) (by simp [sz])
    have w3 := rule_ws (l := [.bin .then (.bin .then (.is .a) (.is .b)) (.is .c)]) (r := .is .c) (by simp) (by simp [LN, sz]) (by simp [sz])
    have w4 := rule_ws (l := [.no]) (r := .is .a) (by simp) (by simp [LN, sz]) (by simp [sz])
    have w5 := rule_ws (l := [.is .a]) (r := .is .b) (by simp) (by simp [LN, sz]) (by simp [sz])
    refine Kont.mk ?_
    simp [f1, f2, f3, f4, f5, f6]
    refine Kont.mk ?_
    simp
    refine exact_bind (by omega) (d := .lst [RuD (ruleM [.bin .then (.is .a) (.is .b), .is .a] (.is .b)), RuD (ruleM [] (.bin .then (.is .a) (.is .a))), RuD (ruleM [.bin .then (.bin .then (.is .a) (.is .b)) (.is .c)] (.is .c)), RuD (ruleM [.no] (.is .a)), RuD (ruleM [.is .a] (.is .b)), .int (wt (.bin .and (.is .a) (.is .b)))]) ?_ (by simp [uRule_d]) (by kernel_rfl) ?_
    · exact ((Oks.cons (ok_rule w1) (Oks.cons (ok_rule w2) (Oks.cons (ok_rule w3) (Oks.cons (ok_rule w4) (Oks.cons (ok_rule w5) (Oks.cons ⟨by simp, by simp, by simp⟩ Oks.nil)))))).lst (by simp)).mono (by omega)
    · simp
  · obtain ⟨c, g, x2, x3, x4, x5, x6, x7, x8, x9, x10, x11, rfl, h1, h2⟩ := h
    have hmm := Nat.succ_mul q.length (10 * KK ^ m)
    simp only [List.length_cons, Nat.succ_eq_add_one] at h2 hmm
    rw [hmm] at h2
    obtain ⟨r, u1, e1, r1, r2, g1⟩ := rnd_ok (n := m) (by omega) h1 (by omega) 6 (by omega) (by omega)
    obtain ⟨k, rfl⟩ : ∃ k : Nat, r = k := ⟨r.toNat, by omega⟩
    have hk3 : k ≤ 5 := by omega
    have hrl : (rgD 0 (k : Int)).length = k := by simp [rgD]
    have hk4 : k * KK ^ m ≤ 5 * KK ^ m := Nat.mul_le_mul_right _ hk3
    simp [e1, hid_cons]
    rw [if_pos (by omega)]
    simp only
    refine comp_inv (fun ds acc ρ => ∃ (c' : Nat) (g' : U) (L : List Fm) (x2 : Option U), acc = fzs (encs L) ∧ ρ = [some (.fz (.lst (ns.map D.int))), some g', x2, none, x4, none, none, none, none, x9, x10, x11, none] ∧ Gn c' g' ∧ c' + ds.length * KK ^ m ≤ c + 1 + 5 * KK ^ m ∧ L.length + ds.length ≤ 5 ∧ LN L 30) (fun acc ρ h => ?_) (fun d' ds acc ρ h => ?_) _ _ _ ⟨c + 1, u1, [], _, rfl, rfl, g1, by rw [hrl]; omega, by rw [hrl]; simp; omega, by simp [LN]⟩
    · obtain ⟨c', g', L, x2, rfl, rfl, h3, h4, h5, h6⟩ := h
      simp at h4 h5
      simp
      refine Kont.mk ?_
      obtain ⟨f, u2, e2, s2, p2, g2⟩ := fo_c (k := 3) (i := 3) rfl (n := m) (v := .ul [.fz (.str "a"), .fz (.str "b")]) (by omega) (by omega) h3 (by omega) (by simp)
      simp at s2
      obtain ⟨w, os, e3, rfl, u3, rfl, g3⟩ := (dr_ok (n := m) (by omega) g2 (by omega) L f (v := .fz (.lst (encs L))) rfl (by omega) h6 (by omega)).ex
      simp [e2, e3]
      refine Kont.mk ?_
      obtain ⟨w, os, e4, A, ff, P, u4, e5, rfl, a1, a2, a3, g4⟩ := (sp_ok (n := m) (v := .ul [.fz (.str "a"), .fz (.str "b")]) (by omega) g3 (by omega) (by simp)).ex
      obtain ⟨y1, y2, y3, e6, e7, e8, e9⟩ := tup3_of e5
      simp [e4, e6]
      refine Kont.mk ?_
      obtain ⟨w2, os, e10, rfl, u5, rfl, g5⟩ := (dr_ok (n := m) (by omega) g4 (by omega) A ff (v := .fz y1.d) (by simpa using e7) (by omega) a2 (by omega)).ex
      simp [e8, e10]
      exact ⟨_, g5, by omega⟩
    · obtain ⟨c', g', L, x2, rfl, rfl, h3, h4, h5, h6⟩ := h
      have hm2 := Nat.succ_mul ds.length (KK ^ m)
      simp only [List.length_cons, Nat.succ_eq_add_one] at h4 hm2 h5
      rw [hm2] at h4
      obtain ⟨f, u2, e2, s2, p2, g2⟩ := fo_c (k := 2) (i := 2) rfl (n := m) (v := .ul [.fz (.str "a"), .fz (.str "b")]) (by omega) (by omega) h3 (by omega) (by simp)
      simp at s2
      have c1 : L.length < LIM := by rw [lim_def]; omega
      refine ⟨by simpa using c1, ?_⟩
      simp [e2]
      exact ⟨_, _, L ++ [f], by simp [encs, fzs], rfl, g2, by omega, by simp; omega, fun a ha => by
        rcases List.mem_append.mp ha with h | h
        · exact h6 a h
        · simp at h; subst h; omega⟩
end Sp

set_option maxHeartbeats 0
namespace Ck
open Pv PySem PySem.Spec PyProof.Rows L2
def top (i : Nat) : Stmt := PySem.Challenge.pw_proofsrun_k13_whole_rules_of_sequents.main.body.getD i (.Pass ⟨0, 0, 0, 0⟩)
theorem c_is_name_in : mSs Ir.mo Ir.d_is_name_in.body ⟨Ir.d_is_name_in.N, defScope (top 13), fun _ => true⟩ (defBody (top 13)) = true := by decide +kernel
theorem c_is_shaped : mSs Ir.mo Ir.d_is_shaped.body ⟨Ir.d_is_shaped.N, defScope (top 14), fun _ => true⟩ (defBody (top 14)) = true := by decide +kernel
theorem c_inner_of : mSs Ir.mo Ir.d_inner_of.body ⟨Ir.d_inner_of.N, defScope (top 15), fun _ => true⟩ (defBody (top 15)) = true := by decide +kernel
theorem c_levels_of : mSs Ir.mo Ir.d_levels_of.body ⟨Ir.d_levels_of.N, defScope (top 16), fun _ => true⟩ (defBody (top 16)) = true := by decide +kernel
theorem c_is_formula_in : mSs Ir.mo Ir.d_is_formula_in.body ⟨Ir.d_is_formula_in.N, defScope (top 17), fun _ => true⟩ (defBody (top 17)) = true := by decide +kernel
theorem c_check_formula : mSs Ir.mo Ir.d_check_formula.body ⟨Ir.d_check_formula.N, defScope (top 18), fun _ => true⟩ (defBody (top 18)) = true := by decide +kernel
theorem c_parts_in : mSs Ir.mo Ir.d_parts_in.body ⟨Ir.d_parts_in.N, defScope (top 19), fun _ => true⟩ (defBody (top 19)) = true := by decide +kernel
theorem c_is_sequent : mSs Ir.mo Ir.d_is_sequent.body ⟨Ir.d_is_sequent.N, defScope (top 22), fun _ => true⟩ (defBody (top 22)) = true := by decide +kernel
theorem c_is_taken : mSs Ir.mo Ir.d_is_taken.body ⟨Ir.d_is_taken.N, defScope (top 23), fun _ => true⟩ (defBody (top 23)) = true := by decide +kernel
theorem c_put_for : mSs Ir.mo Ir.d_put_for.body ⟨Ir.d_put_for.N, defScope (top 24), fun _ => true⟩ (defBody (top 24)) = true := by decide +kernel
theorem c_is_nested : mSs Ir.mo Ir.d_is_nested.body ⟨Ir.d_is_nested.N, defScope (top 25), fun _ => true⟩ (defBody (top 25)) = true := by decide +kernel
theorem c_nested_way : mSs Ir.mo Ir.d_nested_way.body ⟨Ir.d_nested_way.N, defScope (top 26), fun _ => true⟩ (defBody (top 26)) = true := by decide +kernel
theorem c_rule_in : mSs Ir.mo Ir.d_rule_in.body ⟨Ir.d_rule_in.N, defScope (top 27), fun _ => true⟩ (defBody (top 27)) = true := by decide +kernel
theorem c_check_sequents : mSs Ir.mo Ir.d_check_sequents.body ⟨Ir.d_check_sequents.N, defScope (top 28), fun _ => true⟩ (defBody (top 28)) = true := by decide +kernel
theorem c_rule_at : mSs Ir.mo Ir.d_rule_at.body ⟨Ir.d_rule_at.N, defScope (top 29), fun _ => true⟩ (defBody (top 29)) = true := by decide +kernel
theorem c_weight_of : mSs Ir.mo Ir.d_weight_of.body ⟨Ir.d_weight_of.N, defScope (top 30), fun _ => true⟩ (defBody (top 30)) = true := by decide +kernel
theorem c__law_hash : mSs Ir.mo Ir.d__law_hash.body ⟨Ir.d__law_hash.N, defScope (top 32), fun _ => true⟩ (defBody (top 32)) = true := by decide +kernel
theorem c__law_random : mSs Ir.mo Ir.d__law_random.body ⟨Ir.d__law_random.N, defScope (top 33), fun _ => true⟩ (defBody (top 33)) = true := by decide +kernel
theorem c__law_cell : mSs Ir.mo Ir.d__law_cell.body ⟨Ir.d__law_cell.N, defScope (top 34), fun _ => true⟩ (defBody (top 34)) = true := by decide +kernel
theorem c__law_generator : mSs Ir.mo Ir.d__law_generator.body ⟨Ir.d__law_generator.N, defScope (top 35), fun _ => true⟩ (defBody (top 35)) = true := by decide +kernel
theorem c__law_pick : mSs Ir.mo Ir.d__law_pick.body ⟨Ir.d__law_pick.N, defScope (top 36), fun _ => true⟩ (defBody (top 36)) = true := by decide +kernel
theorem c__law_drawn_order : mSs Ir.mo Ir.d__law_drawn_order.body ⟨Ir.d__law_drawn_order.N, defScope (top 37), fun _ => true⟩ (defBody (top 37)) = true := by decide +kernel
theorem c__law_exact : mSs Ir.mo Ir.d__law_exact.body ⟨Ir.d__law_exact.N, defScope (top 38), fun _ => true⟩ (defBody (top 38)) = true := by decide +kernel
theorem c__law_copied : mSs Ir.mo Ir.d__law_copied.body ⟨Ir.d__law_copied.N, defScope (top 39), fun _ => true⟩ (defBody (top 39)) = true := by decide +kernel
theorem c__law_inner : mSs Ir.mo Ir.d__law_inner.body ⟨Ir.d__law_inner.N, defScope (top 40), fun _ => true⟩ (defBody (top 40)) = true := by decide +kernel
theorem c__law_places : mSs Ir.mo Ir.d__law_places.body ⟨Ir.d__law_places.N, defScope (top 41), fun _ => true⟩ (defBody (top 41)) = true := by decide +kernel
theorem c__law_kind_parts : mSs Ir.mo Ir.d__law_kind_parts.body ⟨Ir.d__law_kind_parts.N, defScope (top 42), fun _ => true⟩ (defBody (top 42)) = true := by decide +kernel
theorem c__law_formula : mSs Ir.mo Ir.d__law_formula.body ⟨Ir.d__law_formula.N, defScope (top 43), fun _ => true⟩ (defBody (top 43)) = true := by decide +kernel
theorem c__law_proved : mSs Ir.mo Ir.d__law_proved.body ⟨Ir.d__law_proved.N, defScope (top 44), fun _ => true⟩ (defBody (top 44)) = true := by decide +kernel
theorem c__law_detour : mSs Ir.mo Ir.d__law_detour.body ⟨Ir.d__law_detour.N, defScope (top 45), fun _ => true⟩ (defBody (top 45)) = true := by decide +kernel
theorem c__law_used : mSs Ir.mo Ir.d__law_used.body ⟨Ir.d__law_used.N, defScope (top 46), fun _ => true⟩ (defBody (top 46)) = true := by decide +kernel
theorem c__law_led : mSs Ir.mo Ir.d__law_led.body ⟨Ir.d__law_led.N, defScope (top 47), fun _ => true⟩ (defBody (top 47)) = true := by decide +kernel
theorem c__law_known_proofs : mSs Ir.mo Ir.d__law_known_proofs.body ⟨Ir.d__law_known_proofs.N, defScope (top 48), fun _ => true⟩ (defBody (top 48)) = true := by decide +kernel
theorem c__law_some_proof : mSs Ir.mo Ir.d__law_some_proof.body ⟨Ir.d__law_some_proof.N, defScope (top 49), fun _ => true⟩ (defBody (top 49)) = true := by decide +kernel
theorem c__law_put_ones : mSs Ir.mo Ir.d__law_put_ones.body ⟨Ir.d__law_put_ones.N, defScope (top 50), fun _ => true⟩ (defBody (top 50)) = true := by decide +kernel
theorem c__law_rule : mSs Ir.mo Ir.d__law_rule.body ⟨Ir.d__law_rule.N, defScope (top 51), fun _ => true⟩ (defBody (top 51)) = true := by decide +kernel
theorem c__law_weight : mSs Ir.mo Ir.d__law_weight.body ⟨Ir.d__law_weight.N, defScope (top 52), fun _ => true⟩ (defBody (top 52)) = true := by decide +kernel
theorem c__law_true_by : mSs Ir.mo Ir.d__law_true_by.body ⟨Ir.d__law_true_by.N, defScope (top 53), fun _ => true⟩ (defBody (top 53)) = true := by decide +kernel
theorem c__law_cases : mSs Ir.mo Ir.d__law_cases.body ⟨Ir.d__law_cases.N, defScope (top 54), fun _ => true⟩ (defBody (top 54)) = true := by decide +kernel
theorem c__law_is_less : mSs Ir.mo Ir.d__law_is_less.body ⟨Ir.d__law_is_less.N, defScope (top 55), fun _ => true⟩ (defBody (top 55)) = true := by decide +kernel
theorem c__law_holds : mSs Ir.mo Ir.d__law_holds.body ⟨Ir.d__law_holds.N, defScope (top 56), fun _ => true⟩ (defBody (top 56)) = true := by decide +kernel
theorem c__law_sequent_right : mSs Ir.mo Ir.d__law_sequent_right.body ⟨Ir.d__law_sequent_right.N, defScope (top 57), fun _ => true⟩ (defBody (top 57)) = true := by decide +kernel
theorem c__law_down_right : mSs Ir.mo Ir.d__law_down_right.body ⟨Ir.d__law_down_right.N, defScope (top 58), fun _ => true⟩ (defBody (top 58)) = true := by decide +kernel
theorem c_law : mSs Ir.mo Ir.d_law.body ⟨Ir.d_law.N, defScope (top 59), fun _ => true⟩ (defBody (top 59)) = true := by decide +kernel
end Ck

namespace Hd
open PySem PySem.Spec PyProof.Rows L2 He
abbrev theProg : Program := PySem.Challenge.pw_proofsrun_k13_whole_rules_of_sequents
abbrev R : PySem.W.OpenRow := PySem.W.OpenLaw.row PySem.Challenge.rw_proofsrun_k13_whole_rules_of_sequents
def top (i : Nat) : Stmt := PySem.Challenge.pw_proofsrun_k13_whole_rules_of_sequents.main.body.getD i (.Pass ⟨0, 0, 0, 0⟩)
def dD (i : Nat) : He.DefD := match top i with
  | .FunctionDef n a b _ _ _ sc _ _ _ => ⟨(n, none), n, n, a, b, sc, [], []⟩
  | _ => ⟨("", none), "", "", ⟨[], [], none, [], [], none, []⟩, [], ⟨.function, [], false, false, []⟩, [], []⟩
def fn : List He.DefD := [dD 13, dD 14, dD 15, dD 16, dD 17, dD 18, dD 19, dD 22, dD 23, dD 24, dD 25, dD 26, dD 27, dD 28, dD 29, dD 30, dD 32, dD 33, dD 34, dD 35, dD 36, dD 37, dD 38, dD 39, dD 40, dD 41, dD 42, dD 43, dD 44, dD 45, dD 46, dD 47, dD 48, dD 49, dD 50, dD 51, dD 52, dD 53, dD 54, dD 55, dD 56, dD 57, dD 58, dD 59]
def fa : List He.Fa := ([.glo "is_name_in", .glo "is_shaped", .glo "inner_of", .glo "levels_of", .glo "is_formula_in", .glo "check_formula", .glo "parts_in", .glo "is_sequent", .glo "is_taken", .glo "put_for", .glo "is_nested", .glo "nested_way", .glo "rule_in", .glo "check_sequents", .glo "rule_at", .glo "weight_of", .glo "_law_hash", .glo "_law_random", .glo "_law_cell", .glo "_law_generator"] : List He.Fa) ++ ([.glo "_law_pick", .glo "_law_drawn_order", .glo "_law_exact", .glo "_law_copied", .glo "_law_inner", .glo "_law_places", .glo "_law_kind_parts", .glo "_law_formula", .glo "_law_proved", .glo "_law_detour", .glo "_law_used", .glo "_law_led", .glo "_law_known_proofs", .glo "_law_some_proof", .glo "_law_put_ones", .glo "_law_rule", .glo "_law_weight", .glo "_law_true_by", .glo "_law_cases", .glo "_law_is_less"] : List He.Fa) ++ ([.glo "_law_holds", .glo "_law_sequent_right", .glo "_law_down_right", .glo "law", .free "all", .free "bool", .free "dict", .free "enumerate", .free "int", .free "isinstance", .free "len", .free "list", .free "max", .free "range", .free "sorted", .free "str", .free "sum", .free "super", .free "tuple", .int "MOST_LETTERS" (12)] : List He.Fa) ++ ([.int "MOST_SIGNS" (200), .int "MOST_DEEP" (60), .str "SMALL" "abcdefghijklmnopqrstuvwxyz", .str "FIGURES" "0123456789", .int "MOST_LEFT" (40)] : List He.Fa)
def ex (K : PySem.W.Frag) : Bool := (eqO (PySem.W.nsIn K mainGlobals "JOINERS") (some (some (.ref (ga K "JOINERS")))) && tupB K "JOINERS" [.str "and", .str "or", .str "then"]) && (eqO (PySem.W.nsIn K mainGlobals "NO") (some (some (.ref (ga K "NO")))) && tupB K "NO" [.str "no"])
def loose : List PySem.Str := (["ProofError", "InvalidFormula", "InvalidSequent", "TooMany", "MOST_LETTERS", "MOST_SIGNS", "MOST_DEEP", "JOINERS", "NO", "SMALL", "FIGURES", "is_name_in", "is_shaped", "inner_of", "levels_of", "is_formula_in", "check_formula", "parts_in", "MOST_LEFT", "is_sequent"] : List PySem.Str) ++ (["is_taken", "put_for", "is_nested", "nested_way", "rule_in", "check_sequents", "rule_at", "weight_of", "_law_hash", "_law_random", "_law_cell", "_law_generator", "_law_pick", "_law_drawn_order", "_law_exact", "_law_copied", "_law_inner", "_law_places", "_law_kind_parts", "_law_formula"] : List PySem.Str) ++ (["_law_proved", "_law_detour", "_law_used", "_law_led", "_law_known_proofs", "_law_some_proof", "_law_put_ones", "_law_rule", "_law_weight", "_law_true_by", "_law_cases", "_law_is_less", "_law_holds", "_law_sequent_right", "_law_down_right"] : List PySem.Str)
abbrev hk : PySem.W.Hook := He.hookX 4 fa fn [] [] ex
def ob (s : PySem.W.SharedT) : He.AlX := He.obsX 4 fa fn [] [] ex (HandSHeadRun.getT s)
theorem ob_eq (s : PySem.W.SharedT) : ob s = hk.obs s.abs := He.obsX_eq (HandSHeadRun.getT_eq s)
theorem run (w : World) : HandSHeadRun.RunEq R (PySem.W.view R.prog [59]) hk ob 3000 loose w := by
  intro os
  kernel_rfl
end Hd


namespace En
open Pv PySem PySem.Spec PyProof.Rows L2
section
variable {w : World} {h : Heap} {K : PySem.W.Frag} {mg : Str → Option Value}
theorem kws : Ir.mo.kws = ([("rule_at", ["right", "left"], [1, 0]), ("weight_of", ["formula"], [0])] : List (Str × List Str × List Nat)) := rfl
theorem m_is_name_in (X : K.In h) (G : h.Ns mainGlobals mg) (c : He.SaysX Hd.fa Hd.fn [] [] Hd.ex w h K) : DefOk Ir.mo K mg Ir.d_is_name_in := by
  obtain ⟨fd, F⟩ := c.t.d.def_ 0 (d := Hd.dD 13) rfl
  refine ⟨_, fd, _, _, _, F, He.glo_ok X G (c.t.d.fact 0 (f := .glo "is_name_in") rfl), ⟨rfl, rfl, rfl, by decide +kernel, rfl, by decide +kernel, by decide +kernel⟩, by decide, Ck.c_is_name_in, FunD.bindsA F (fun _ _ _ _ _ _ us hl => match us, hl with | [_], _ => rfl), fun q hq e => ?_⟩
  rw [kws] at hq
  simp only [List.mem_cons, List.not_mem_nil, or_false] at hq
  rcases hq with rfl | rfl
  · exact absurd e (by decide)
  · exact absurd e (by decide)
theorem m_is_shaped (X : K.In h) (G : h.Ns mainGlobals mg) (c : He.SaysX Hd.fa Hd.fn [] [] Hd.ex w h K) : DefOk Ir.mo K mg Ir.d_is_shaped := by
  obtain ⟨fd, F⟩ := c.t.d.def_ 1 (d := Hd.dD 14) rfl
  refine ⟨_, fd, _, _, _, F, He.glo_ok X G (c.t.d.fact 1 (f := .glo "is_shaped") rfl), ⟨rfl, rfl, rfl, by decide +kernel, rfl, by decide +kernel, by decide +kernel⟩, by decide, Ck.c_is_shaped, FunD.bindsA F (fun _ _ _ _ _ _ us hl => match us, hl with | [_], _ => rfl), fun q hq e => ?_⟩
  rw [kws] at hq
  simp only [List.mem_cons, List.not_mem_nil, or_false] at hq
  rcases hq with rfl | rfl
  · exact absurd e (by decide)
  · exact absurd e (by decide)
theorem m_inner_of (X : K.In h) (G : h.Ns mainGlobals mg) (c : He.SaysX Hd.fa Hd.fn [] [] Hd.ex w h K) : DefOk Ir.mo K mg Ir.d_inner_of := by
  obtain ⟨fd, F⟩ := c.t.d.def_ 2 (d := Hd.dD 15) rfl
  refine ⟨_, fd, _, _, _, F, He.glo_ok X G (c.t.d.fact 2 (f := .glo "inner_of") rfl), ⟨rfl, rfl, rfl, by decide +kernel, rfl, by decide +kernel, by decide +kernel⟩, by decide, Ck.c_inner_of, FunD.bindsA F (fun _ _ _ _ _ _ us hl => match us, hl with | [_], _ => rfl), fun q hq e => ?_⟩
  rw [kws] at hq
  simp only [List.mem_cons, List.not_mem_nil, or_false] at hq
  rcases hq with rfl | rfl
  · exact absurd e (by decide)
  · exact absurd e (by decide)
theorem m_levels_of (X : K.In h) (G : h.Ns mainGlobals mg) (c : He.SaysX Hd.fa Hd.fn [] [] Hd.ex w h K) : DefOk Ir.mo K mg Ir.d_levels_of := by
  obtain ⟨fd, F⟩ := c.t.d.def_ 3 (d := Hd.dD 16) rfl
  refine ⟨_, fd, _, _, _, F, He.glo_ok X G (c.t.d.fact 3 (f := .glo "levels_of") rfl), ⟨rfl, rfl, rfl, by decide +kernel, rfl, by decide +kernel, by decide +kernel⟩, by decide, Ck.c_levels_of, FunD.bindsA F (fun _ _ _ _ _ _ us hl => match us, hl with | [_], _ => rfl), fun q hq e => ?_⟩
  rw [kws] at hq
  simp only [List.mem_cons, List.not_mem_nil, or_false] at hq
  rcases hq with rfl | rfl
  · exact absurd e (by decide)
  · exact absurd e (by decide)
theorem m_is_formula_in (X : K.In h) (G : h.Ns mainGlobals mg) (c : He.SaysX Hd.fa Hd.fn [] [] Hd.ex w h K) : DefOk Ir.mo K mg Ir.d_is_formula_in := by
  obtain ⟨fd, F⟩ := c.t.d.def_ 4 (d := Hd.dD 17) rfl
  refine ⟨_, fd, _, _, _, F, He.glo_ok X G (c.t.d.fact 4 (f := .glo "is_formula_in") rfl), ⟨rfl, rfl, rfl, by decide +kernel, rfl, by decide +kernel, by decide +kernel⟩, by decide, Ck.c_is_formula_in, FunD.bindsA F (fun _ _ _ _ _ _ us hl => match us, hl with | [_], _ => rfl), fun q hq e => ?_⟩
  rw [kws] at hq
  simp only [List.mem_cons, List.not_mem_nil, or_false] at hq
  rcases hq with rfl | rfl
  · exact absurd e (by decide)
  · exact absurd e (by decide)
theorem m_check_formula (X : K.In h) (G : h.Ns mainGlobals mg) (c : He.SaysX Hd.fa Hd.fn [] [] Hd.ex w h K) : DefOk Ir.mo K mg Ir.d_check_formula := by
  obtain ⟨fd, F⟩ := c.t.d.def_ 5 (d := Hd.dD 18) rfl
  refine ⟨_, fd, _, _, _, F, He.glo_ok X G (c.t.d.fact 5 (f := .glo "check_formula") rfl), ⟨rfl, rfl, rfl, by decide +kernel, rfl, by decide +kernel, by decide +kernel⟩, by decide, Ck.c_check_formula, FunD.bindsA F (fun _ _ _ _ _ _ us hl => match us, hl with | [_], _ => rfl), fun q hq e => ?_⟩
  rw [kws] at hq
  simp only [List.mem_cons, List.not_mem_nil, or_false] at hq
  rcases hq with rfl | rfl
  · exact absurd e (by decide)
  · exact absurd e (by decide)
theorem m_parts_in (X : K.In h) (G : h.Ns mainGlobals mg) (c : He.SaysX Hd.fa Hd.fn [] [] Hd.ex w h K) : DefOk Ir.mo K mg Ir.d_parts_in := by
  obtain ⟨fd, F⟩ := c.t.d.def_ 6 (d := Hd.dD 19) rfl
  refine ⟨_, fd, _, _, _, F, He.glo_ok X G (c.t.d.fact 6 (f := .glo "parts_in") rfl), ⟨rfl, rfl, rfl, by decide +kernel, rfl, by decide +kernel, by decide +kernel⟩, by decide, Ck.c_parts_in, FunD.bindsA F (fun _ _ _ _ _ _ us hl => match us, hl with | [_], _ => rfl), fun q hq e => ?_⟩
  rw [kws] at hq
  simp only [List.mem_cons, List.not_mem_nil, or_false] at hq
  rcases hq with rfl | rfl
  · exact absurd e (by decide)
  · exact absurd e (by decide)
theorem m_is_sequent (X : K.In h) (G : h.Ns mainGlobals mg) (c : He.SaysX Hd.fa Hd.fn [] [] Hd.ex w h K) : DefOk Ir.mo K mg Ir.d_is_sequent := by
  obtain ⟨fd, F⟩ := c.t.d.def_ 7 (d := Hd.dD 22) rfl
  refine ⟨_, fd, _, _, _, F, He.glo_ok X G (c.t.d.fact 7 (f := .glo "is_sequent") rfl), ⟨rfl, rfl, rfl, by decide +kernel, rfl, by decide +kernel, by decide +kernel⟩, by decide, Ck.c_is_sequent, FunD.bindsA F (fun _ _ _ _ _ _ us hl => match us, hl with | [_, _], _ => rfl), fun q hq e => ?_⟩
  rw [kws] at hq
  simp only [List.mem_cons, List.not_mem_nil, or_false] at hq
  rcases hq with rfl | rfl
  · exact absurd e (by decide)
  · exact absurd e (by decide)
theorem m_is_taken (X : K.In h) (G : h.Ns mainGlobals mg) (c : He.SaysX Hd.fa Hd.fn [] [] Hd.ex w h K) : DefOk Ir.mo K mg Ir.d_is_taken := by
  obtain ⟨fd, F⟩ := c.t.d.def_ 8 (d := Hd.dD 23) rfl
  refine ⟨_, fd, _, _, _, F, He.glo_ok X G (c.t.d.fact 8 (f := .glo "is_taken") rfl), ⟨rfl, rfl, rfl, by decide +kernel, rfl, by decide +kernel, by decide +kernel⟩, by decide, Ck.c_is_taken, FunD.bindsA F (fun _ _ _ _ _ _ us hl => match us, hl with | [_, _], _ => rfl), fun q hq e => ?_⟩
  rw [kws] at hq
  simp only [List.mem_cons, List.not_mem_nil, or_false] at hq
  rcases hq with rfl | rfl
  · exact absurd e (by decide)
  · exact absurd e (by decide)
theorem m_put_for (X : K.In h) (G : h.Ns mainGlobals mg) (c : He.SaysX Hd.fa Hd.fn [] [] Hd.ex w h K) : DefOk Ir.mo K mg Ir.d_put_for := by
  obtain ⟨fd, F⟩ := c.t.d.def_ 9 (d := Hd.dD 24) rfl
  refine ⟨_, fd, _, _, _, F, He.glo_ok X G (c.t.d.fact 9 (f := .glo "put_for") rfl), ⟨rfl, rfl, rfl, by decide +kernel, rfl, by decide +kernel, by decide +kernel⟩, by decide, Ck.c_put_for, FunD.bindsA F (fun _ _ _ _ _ _ us hl => match us, hl with | [_], _ => rfl), fun q hq e => ?_⟩
  rw [kws] at hq
  simp only [List.mem_cons, List.not_mem_nil, or_false] at hq
  rcases hq with rfl | rfl
  · exact absurd e (by decide)
  · exact absurd e (by decide)
theorem m_is_nested (X : K.In h) (G : h.Ns mainGlobals mg) (c : He.SaysX Hd.fa Hd.fn [] [] Hd.ex w h K) : DefOk Ir.mo K mg Ir.d_is_nested := by
  obtain ⟨fd, F⟩ := c.t.d.def_ 10 (d := Hd.dD 25) rfl
  refine ⟨_, fd, _, _, _, F, He.glo_ok X G (c.t.d.fact 10 (f := .glo "is_nested") rfl), ⟨rfl, rfl, rfl, by decide +kernel, rfl, by decide +kernel, by decide +kernel⟩, by decide, Ck.c_is_nested, FunD.bindsA F (fun _ _ _ _ _ _ us hl => match us, hl with | [_], _ => rfl), fun q hq e => ?_⟩
  rw [kws] at hq
  simp only [List.mem_cons, List.not_mem_nil, or_false] at hq
  rcases hq with rfl | rfl
  · exact absurd e (by decide)
  · exact absurd e (by decide)
theorem m_nested_way (X : K.In h) (G : h.Ns mainGlobals mg) (c : He.SaysX Hd.fa Hd.fn [] [] Hd.ex w h K) : DefOk Ir.mo K mg Ir.d_nested_way := by
  obtain ⟨fd, F⟩ := c.t.d.def_ 11 (d := Hd.dD 26) rfl
  refine ⟨_, fd, _, _, _, F, He.glo_ok X G (c.t.d.fact 11 (f := .glo "nested_way") rfl), ⟨rfl, rfl, rfl, by decide +kernel, rfl, by decide +kernel, by decide +kernel⟩, by decide, Ck.c_nested_way, FunD.bindsA F (fun _ _ _ _ _ _ us hl => match us, hl with | [_, _, _], _ => rfl), fun q hq e => ?_⟩
  rw [kws] at hq
  simp only [List.mem_cons, List.not_mem_nil, or_false] at hq
  rcases hq with rfl | rfl
  · exact absurd e (by decide)
  · exact absurd e (by decide)
theorem m_rule_in (X : K.In h) (G : h.Ns mainGlobals mg) (c : He.SaysX Hd.fa Hd.fn [] [] Hd.ex w h K) : DefOk Ir.mo K mg Ir.d_rule_in := by
  obtain ⟨fd, F⟩ := c.t.d.def_ 12 (d := Hd.dD 27) rfl
  refine ⟨_, fd, _, _, _, F, He.glo_ok X G (c.t.d.fact 12 (f := .glo "rule_in") rfl), ⟨rfl, rfl, rfl, by decide +kernel, rfl, by decide +kernel, by decide +kernel⟩, by decide, Ck.c_rule_in, FunD.bindsA F (fun _ _ _ _ _ _ us hl => match us, hl with | [_, _], _ => rfl), fun q hq e => ?_⟩
  rw [kws] at hq
  simp only [List.mem_cons, List.not_mem_nil, or_false] at hq
  rcases hq with rfl | rfl
  · exact absurd e (by decide)
  · exact absurd e (by decide)
theorem m_check_sequents (X : K.In h) (G : h.Ns mainGlobals mg) (c : He.SaysX Hd.fa Hd.fn [] [] Hd.ex w h K) : DefOk Ir.mo K mg Ir.d_check_sequents := by
  obtain ⟨fd, F⟩ := c.t.d.def_ 13 (d := Hd.dD 28) rfl
  refine ⟨_, fd, _, _, _, F, He.glo_ok X G (c.t.d.fact 13 (f := .glo "check_sequents") rfl), ⟨rfl, rfl, rfl, by decide +kernel, rfl, by decide +kernel, by decide +kernel⟩, by decide, Ck.c_check_sequents, FunD.bindsA F (fun _ _ _ _ _ _ us hl => match us, hl with | [_], _ => rfl), fun q hq e => ?_⟩
  rw [kws] at hq
  simp only [List.mem_cons, List.not_mem_nil, or_false] at hq
  rcases hq with rfl | rfl
  · exact absurd e (by decide)
  · exact absurd e (by decide)
theorem m_rule_at (X : K.In h) (G : h.Ns mainGlobals mg) (c : He.SaysX Hd.fa Hd.fn [] [] Hd.ex w h K) : DefOk Ir.mo K mg Ir.d_rule_at := by
  obtain ⟨fd, F⟩ := c.t.d.def_ 14 (d := Hd.dD 29) rfl
  refine ⟨_, fd, _, _, _, F, He.glo_ok X G (c.t.d.fact 14 (f := .glo "rule_at") rfl), ⟨rfl, rfl, rfl, by decide +kernel, rfl, by decide +kernel, by decide +kernel⟩, by decide, Ck.c_rule_at, FunD.bindsA F (fun _ _ _ _ _ _ us hl => match us, hl with | [_, _], _ => rfl), fun q hq e => ?_⟩
  rw [kws] at hq
  simp only [List.mem_cons, List.not_mem_nil, or_false] at hq
  rcases hq with rfl | rfl
  · exact Pv.FunD.kb F (fun _ _ _ _ _ _ ws hl => match ws, hl with | [_, _], _ => rfl)
  · exact absurd e (by decide)
theorem m_weight_of (X : K.In h) (G : h.Ns mainGlobals mg) (c : He.SaysX Hd.fa Hd.fn [] [] Hd.ex w h K) : DefOk Ir.mo K mg Ir.d_weight_of := by
  obtain ⟨fd, F⟩ := c.t.d.def_ 15 (d := Hd.dD 30) rfl
  refine ⟨_, fd, _, _, _, F, He.glo_ok X G (c.t.d.fact 15 (f := .glo "weight_of") rfl), ⟨rfl, rfl, rfl, by decide +kernel, rfl, by decide +kernel, by decide +kernel⟩, by decide, Ck.c_weight_of, FunD.bindsA F (fun _ _ _ _ _ _ us hl => match us, hl with | [_], _ => rfl), fun q hq e => ?_⟩
  rw [kws] at hq
  simp only [List.mem_cons, List.not_mem_nil, or_false] at hq
  rcases hq with rfl | rfl
  · exact absurd e (by decide)
  · exact Pv.FunD.kb F (fun _ _ _ _ _ _ ws hl => match ws, hl with | [_], _ => rfl)
theorem m__law_hash (X : K.In h) (G : h.Ns mainGlobals mg) (c : He.SaysX Hd.fa Hd.fn [] [] Hd.ex w h K) : DefOk Ir.mo K mg Ir.d__law_hash := by
  obtain ⟨fd, F⟩ := c.t.d.def_ 16 (d := Hd.dD 32) rfl
  refine ⟨_, fd, _, _, _, F, He.glo_ok X G (c.t.d.fact 16 (f := .glo "_law_hash") rfl), ⟨rfl, rfl, rfl, by decide +kernel, rfl, by decide +kernel, by decide +kernel⟩, by decide, Ck.c__law_hash, FunD.bindsA F (fun _ _ _ _ _ _ us hl => match us, hl with | [_, _], _ => rfl), fun q hq e => ?_⟩
  rw [kws] at hq
  simp only [List.mem_cons, List.not_mem_nil, or_false] at hq
  rcases hq with rfl | rfl
  · exact absurd e (by decide)
  · exact absurd e (by decide)
theorem m__law_random (X : K.In h) (G : h.Ns mainGlobals mg) (c : He.SaysX Hd.fa Hd.fn [] [] Hd.ex w h K) : DefOk Ir.mo K mg Ir.d__law_random := by
  obtain ⟨fd, F⟩ := c.t.d.def_ 17 (d := Hd.dD 33) rfl
  refine ⟨_, fd, _, _, _, F, He.glo_ok X G (c.t.d.fact 17 (f := .glo "_law_random") rfl), ⟨rfl, rfl, rfl, by decide +kernel, rfl, by decide +kernel, by decide +kernel⟩, by decide, Ck.c__law_random, FunD.bindsA F (fun _ _ _ _ _ _ us hl => match us, hl with | [_, _], _ => rfl), fun q hq e => ?_⟩
  rw [kws] at hq
  simp only [List.mem_cons, List.not_mem_nil, or_false] at hq
  rcases hq with rfl | rfl
  · exact absurd e (by decide)
  · exact absurd e (by decide)
theorem m__law_cell (X : K.In h) (G : h.Ns mainGlobals mg) (c : He.SaysX Hd.fa Hd.fn [] [] Hd.ex w h K) : DefOk Ir.mo K mg Ir.d__law_cell := by
  obtain ⟨fd, F⟩ := c.t.d.def_ 18 (d := Hd.dD 34) rfl
  refine ⟨_, fd, _, _, _, F, He.glo_ok X G (c.t.d.fact 18 (f := .glo "_law_cell") rfl), ⟨rfl, rfl, rfl, by decide +kernel, rfl, by decide +kernel, by decide +kernel⟩, by decide, Ck.c__law_cell, FunD.bindsA F (fun _ _ _ _ _ _ us hl => match us, hl with | [_, _], _ => rfl), fun q hq e => ?_⟩
  rw [kws] at hq
  simp only [List.mem_cons, List.not_mem_nil, or_false] at hq
  rcases hq with rfl | rfl
  · exact absurd e (by decide)
  · exact absurd e (by decide)
theorem m__law_generator (X : K.In h) (G : h.Ns mainGlobals mg) (c : He.SaysX Hd.fa Hd.fn [] [] Hd.ex w h K) : DefOk Ir.mo K mg Ir.d__law_generator := by
  obtain ⟨fd, F⟩ := c.t.d.def_ 19 (d := Hd.dD 35) rfl
  refine ⟨_, fd, _, _, _, F, He.glo_ok X G (c.t.d.fact 19 (f := .glo "_law_generator") rfl), ⟨rfl, rfl, rfl, by decide +kernel, rfl, by decide +kernel, by decide +kernel⟩, by decide, Ck.c__law_generator, FunD.bindsA F (fun _ _ _ _ _ _ us hl => match us, hl with | [_, _], _ => rfl), fun q hq e => ?_⟩
  rw [kws] at hq
  simp only [List.mem_cons, List.not_mem_nil, or_false] at hq
  rcases hq with rfl | rfl
  · exact absurd e (by decide)
  · exact absurd e (by decide)
theorem m__law_pick (X : K.In h) (G : h.Ns mainGlobals mg) (c : He.SaysX Hd.fa Hd.fn [] [] Hd.ex w h K) : DefOk Ir.mo K mg Ir.d__law_pick := by
  obtain ⟨fd, F⟩ := c.t.d.def_ 20 (d := Hd.dD 36) rfl
  refine ⟨_, fd, _, _, _, F, He.glo_ok X G (c.t.d.fact 20 (f := .glo "_law_pick") rfl), ⟨rfl, rfl, rfl, by decide +kernel, rfl, by decide +kernel, by decide +kernel⟩, by decide, Ck.c__law_pick, FunD.bindsA F (fun _ _ _ _ _ _ us hl => match us, hl with | [_, _], _ => rfl), fun q hq e => ?_⟩
  rw [kws] at hq
  simp only [List.mem_cons, List.not_mem_nil, or_false] at hq
  rcases hq with rfl | rfl
  · exact absurd e (by decide)
  · exact absurd e (by decide)
theorem m__law_drawn_order (X : K.In h) (G : h.Ns mainGlobals mg) (c : He.SaysX Hd.fa Hd.fn [] [] Hd.ex w h K) : DefOk Ir.mo K mg Ir.d__law_drawn_order := by
  obtain ⟨fd, F⟩ := c.t.d.def_ 21 (d := Hd.dD 37) rfl
  refine ⟨_, fd, _, _, _, F, He.glo_ok X G (c.t.d.fact 21 (f := .glo "_law_drawn_order") rfl), ⟨rfl, rfl, rfl, by decide +kernel, rfl, by decide +kernel, by decide +kernel⟩, by decide, Ck.c__law_drawn_order, FunD.bindsA F (fun _ _ _ _ _ _ us hl => match us, hl with | [_, _], _ => rfl), fun q hq e => ?_⟩
  rw [kws] at hq
  simp only [List.mem_cons, List.not_mem_nil, or_false] at hq
  rcases hq with rfl | rfl
  · exact absurd e (by decide)
  · exact absurd e (by decide)
theorem m__law_exact (X : K.In h) (G : h.Ns mainGlobals mg) (c : He.SaysX Hd.fa Hd.fn [] [] Hd.ex w h K) : DefOk Ir.mo K mg Ir.d__law_exact := by
  obtain ⟨fd, F⟩ := c.t.d.def_ 22 (d := Hd.dD 38) rfl
  refine ⟨_, fd, _, _, _, F, He.glo_ok X G (c.t.d.fact 22 (f := .glo "_law_exact") rfl), ⟨rfl, rfl, rfl, by decide +kernel, rfl, by decide +kernel, by decide +kernel⟩, by decide, Ck.c__law_exact, FunD.bindsA F (fun _ _ _ _ _ _ us hl => match us, hl with | [_, _], _ => rfl), fun q hq e => ?_⟩
  rw [kws] at hq
  simp only [List.mem_cons, List.not_mem_nil, or_false] at hq
  rcases hq with rfl | rfl
  · exact absurd e (by decide)
  · exact absurd e (by decide)
theorem m__law_copied (X : K.In h) (G : h.Ns mainGlobals mg) (c : He.SaysX Hd.fa Hd.fn [] [] Hd.ex w h K) : DefOk Ir.mo K mg Ir.d__law_copied := by
  obtain ⟨fd, F⟩ := c.t.d.def_ 23 (d := Hd.dD 39) rfl
  refine ⟨_, fd, _, _, _, F, He.glo_ok X G (c.t.d.fact 23 (f := .glo "_law_copied") rfl), ⟨rfl, rfl, rfl, by decide +kernel, rfl, by decide +kernel, by decide +kernel⟩, by decide, Ck.c__law_copied, FunD.bindsA F (fun _ _ _ _ _ _ us hl => match us, hl with | [_], _ => rfl), fun q hq e => ?_⟩
  rw [kws] at hq
  simp only [List.mem_cons, List.not_mem_nil, or_false] at hq
  rcases hq with rfl | rfl
  · exact absurd e (by decide)
  · exact absurd e (by decide)
theorem m__law_inner (X : K.In h) (G : h.Ns mainGlobals mg) (c : He.SaysX Hd.fa Hd.fn [] [] Hd.ex w h K) : DefOk Ir.mo K mg Ir.d__law_inner := by
  obtain ⟨fd, F⟩ := c.t.d.def_ 24 (d := Hd.dD 40) rfl
  refine ⟨_, fd, _, _, _, F, He.glo_ok X G (c.t.d.fact 24 (f := .glo "_law_inner") rfl), ⟨rfl, rfl, rfl, by decide +kernel, rfl, by decide +kernel, by decide +kernel⟩, by decide, Ck.c__law_inner, FunD.bindsA F (fun _ _ _ _ _ _ us hl => match us, hl with | [_], _ => rfl), fun q hq e => ?_⟩
  rw [kws] at hq
  simp only [List.mem_cons, List.not_mem_nil, or_false] at hq
  rcases hq with rfl | rfl
  · exact absurd e (by decide)
  · exact absurd e (by decide)
theorem m__law_places (X : K.In h) (G : h.Ns mainGlobals mg) (c : He.SaysX Hd.fa Hd.fn [] [] Hd.ex w h K) : DefOk Ir.mo K mg Ir.d__law_places := by
  obtain ⟨fd, F⟩ := c.t.d.def_ 25 (d := Hd.dD 41) rfl
  refine ⟨_, fd, _, _, _, F, He.glo_ok X G (c.t.d.fact 25 (f := .glo "_law_places") rfl), ⟨rfl, rfl, rfl, by decide +kernel, rfl, by decide +kernel, by decide +kernel⟩, by decide, Ck.c__law_places, FunD.bindsA F (fun _ _ _ _ _ _ us hl => match us, hl with | [_, _], _ => rfl), fun q hq e => ?_⟩
  rw [kws] at hq
  simp only [List.mem_cons, List.not_mem_nil, or_false] at hq
  rcases hq with rfl | rfl
  · exact absurd e (by decide)
  · exact absurd e (by decide)
theorem m__law_kind_parts (X : K.In h) (G : h.Ns mainGlobals mg) (c : He.SaysX Hd.fa Hd.fn [] [] Hd.ex w h K) : DefOk Ir.mo K mg Ir.d__law_kind_parts := by
  obtain ⟨fd, F⟩ := c.t.d.def_ 26 (d := Hd.dD 42) rfl
  refine ⟨_, fd, _, _, _, F, He.glo_ok X G (c.t.d.fact 26 (f := .glo "_law_kind_parts") rfl), ⟨rfl, rfl, rfl, by decide +kernel, rfl, by decide +kernel, by decide +kernel⟩, by decide, Ck.c__law_kind_parts, FunD.bindsA F (fun _ _ _ _ _ _ us hl => match us, hl with | [_], _ => rfl), fun q hq e => ?_⟩
  rw [kws] at hq
  simp only [List.mem_cons, List.not_mem_nil, or_false] at hq
  rcases hq with rfl | rfl
  · exact absurd e (by decide)
  · exact absurd e (by decide)
theorem m__law_formula (X : K.In h) (G : h.Ns mainGlobals mg) (c : He.SaysX Hd.fa Hd.fn [] [] Hd.ex w h K) : DefOk Ir.mo K mg Ir.d__law_formula := by
  obtain ⟨fd, F⟩ := c.t.d.def_ 27 (d := Hd.dD 43) rfl
  refine ⟨_, fd, _, _, _, F, He.glo_ok X G (c.t.d.fact 27 (f := .glo "_law_formula") rfl), ⟨rfl, rfl, rfl, by decide +kernel, rfl, by decide +kernel, by decide +kernel⟩, by decide, Ck.c__law_formula, FunD.bindsA F (fun _ _ _ _ _ _ us hl => match us, hl with | [_, _, _], _ => rfl), fun q hq e => ?_⟩
  rw [kws] at hq
  simp only [List.mem_cons, List.not_mem_nil, or_false] at hq
  rcases hq with rfl | rfl
  · exact absurd e (by decide)
  · exact absurd e (by decide)
theorem m__law_proved (X : K.In h) (G : h.Ns mainGlobals mg) (c : He.SaysX Hd.fa Hd.fn [] [] Hd.ex w h K) : DefOk Ir.mo K mg Ir.d__law_proved := by
  obtain ⟨fd, F⟩ := c.t.d.def_ 28 (d := Hd.dD 44) rfl
  refine ⟨_, fd, _, _, _, F, He.glo_ok X G (c.t.d.fact 28 (f := .glo "_law_proved") rfl), ⟨rfl, rfl, rfl, by decide +kernel, rfl, by decide +kernel, by decide +kernel⟩, by decide, Ck.c__law_proved, FunD.bindsA F (fun _ _ _ _ _ _ us hl => match us, hl with | [_, _, _, _], _ => rfl), fun q hq e => ?_⟩
  rw [kws] at hq
  simp only [List.mem_cons, List.not_mem_nil, or_false] at hq
  rcases hq with rfl | rfl
  · exact absurd e (by decide)
  · exact absurd e (by decide)
theorem m__law_detour (X : K.In h) (G : h.Ns mainGlobals mg) (c : He.SaysX Hd.fa Hd.fn [] [] Hd.ex w h K) : DefOk Ir.mo K mg Ir.d__law_detour := by
  obtain ⟨fd, F⟩ := c.t.d.def_ 29 (d := Hd.dD 45) rfl
  refine ⟨_, fd, _, _, _, F, He.glo_ok X G (c.t.d.fact 29 (f := .glo "_law_detour") rfl), ⟨rfl, rfl, rfl, by decide +kernel, rfl, by decide +kernel, by decide +kernel⟩, by decide, Ck.c__law_detour, FunD.bindsA F (fun _ _ _ _ _ _ us hl => match us, hl with | [_, _, _, _], _ => rfl), fun q hq e => ?_⟩
  rw [kws] at hq
  simp only [List.mem_cons, List.not_mem_nil, or_false] at hq
  rcases hq with rfl | rfl
  · exact absurd e (by decide)
  · exact absurd e (by decide)
theorem m__law_used (X : K.In h) (G : h.Ns mainGlobals mg) (c : He.SaysX Hd.fa Hd.fn [] [] Hd.ex w h K) : DefOk Ir.mo K mg Ir.d__law_used := by
  obtain ⟨fd, F⟩ := c.t.d.def_ 30 (d := Hd.dD 46) rfl
  refine ⟨_, fd, _, _, _, F, He.glo_ok X G (c.t.d.fact 30 (f := .glo "_law_used") rfl), ⟨rfl, rfl, rfl, by decide +kernel, rfl, by decide +kernel, by decide +kernel⟩, by decide, Ck.c__law_used, FunD.bindsA F (fun _ _ _ _ _ _ us hl => match us, hl with | [_, _, _, _], _ => rfl), fun q hq e => ?_⟩
  rw [kws] at hq
  simp only [List.mem_cons, List.not_mem_nil, or_false] at hq
  rcases hq with rfl | rfl
  · exact absurd e (by decide)
  · exact absurd e (by decide)
theorem m__law_led (X : K.In h) (G : h.Ns mainGlobals mg) (c : He.SaysX Hd.fa Hd.fn [] [] Hd.ex w h K) : DefOk Ir.mo K mg Ir.d__law_led := by
  obtain ⟨fd, F⟩ := c.t.d.def_ 31 (d := Hd.dD 47) rfl
  refine ⟨_, fd, _, _, _, F, He.glo_ok X G (c.t.d.fact 31 (f := .glo "_law_led") rfl), ⟨rfl, rfl, rfl, by decide +kernel, rfl, by decide +kernel, by decide +kernel⟩, by decide, Ck.c__law_led, FunD.bindsA F (fun _ _ _ _ _ _ us hl => match us, hl with | [_, _, _, _, _, _], _ => rfl), fun q hq e => ?_⟩
  rw [kws] at hq
  simp only [List.mem_cons, List.not_mem_nil, or_false] at hq
  rcases hq with rfl | rfl
  · exact absurd e (by decide)
  · exact absurd e (by decide)
theorem m__law_known_proofs (X : K.In h) (G : h.Ns mainGlobals mg) (c : He.SaysX Hd.fa Hd.fn [] [] Hd.ex w h K) : DefOk Ir.mo K mg Ir.d__law_known_proofs := by
  obtain ⟨fd, F⟩ := c.t.d.def_ 32 (d := Hd.dD 48) rfl
  refine ⟨_, fd, _, _, _, F, He.glo_ok X G (c.t.d.fact 32 (f := .glo "_law_known_proofs") rfl), ⟨rfl, rfl, rfl, by decide +kernel, rfl, by decide +kernel, by decide +kernel⟩, by decide, Ck.c__law_known_proofs, FunD.bindsA F (fun _ _ _ _ _ _ us hl => match us, hl with | [_, _], _ => rfl), fun q hq e => ?_⟩
  rw [kws] at hq
  simp only [List.mem_cons, List.not_mem_nil, or_false] at hq
  rcases hq with rfl | rfl
  · exact absurd e (by decide)
  · exact absurd e (by decide)
theorem m__law_some_proof (X : K.In h) (G : h.Ns mainGlobals mg) (c : He.SaysX Hd.fa Hd.fn [] [] Hd.ex w h K) : DefOk Ir.mo K mg Ir.d__law_some_proof := by
  obtain ⟨fd, F⟩ := c.t.d.def_ 33 (d := Hd.dD 49) rfl
  refine ⟨_, fd, _, _, _, F, He.glo_ok X G (c.t.d.fact 33 (f := .glo "_law_some_proof") rfl), ⟨rfl, rfl, rfl, by decide +kernel, rfl, by decide +kernel, by decide +kernel⟩, by decide, Ck.c__law_some_proof, FunD.bindsA F (fun _ _ _ _ _ _ us hl => match us, hl with | [_, _, _], _ => rfl), fun q hq e => ?_⟩
  rw [kws] at hq
  simp only [List.mem_cons, List.not_mem_nil, or_false] at hq
  rcases hq with rfl | rfl
  · exact absurd e (by decide)
  · exact absurd e (by decide)
theorem m__law_put_ones (X : K.In h) (G : h.Ns mainGlobals mg) (c : He.SaysX Hd.fa Hd.fn [] [] Hd.ex w h K) : DefOk Ir.mo K mg Ir.d__law_put_ones := by
  obtain ⟨fd, F⟩ := c.t.d.def_ 34 (d := Hd.dD 50) rfl
  refine ⟨_, fd, _, _, _, F, He.glo_ok X G (c.t.d.fact 34 (f := .glo "_law_put_ones") rfl), ⟨rfl, rfl, rfl, by decide +kernel, rfl, by decide +kernel, by decide +kernel⟩, by decide, Ck.c__law_put_ones, FunD.bindsA F (fun _ _ _ _ _ _ us hl => match us, hl with | [_, _], _ => rfl), fun q hq e => ?_⟩
  rw [kws] at hq
  simp only [List.mem_cons, List.not_mem_nil, or_false] at hq
  rcases hq with rfl | rfl
  · exact absurd e (by decide)
  · exact absurd e (by decide)
theorem m__law_rule (X : K.In h) (G : h.Ns mainGlobals mg) (c : He.SaysX Hd.fa Hd.fn [] [] Hd.ex w h K) : DefOk Ir.mo K mg Ir.d__law_rule := by
  obtain ⟨fd, F⟩ := c.t.d.def_ 35 (d := Hd.dD 51) rfl
  refine ⟨_, fd, _, _, _, F, He.glo_ok X G (c.t.d.fact 35 (f := .glo "_law_rule") rfl), ⟨rfl, rfl, rfl, by decide +kernel, rfl, by decide +kernel, by decide +kernel⟩, by decide, Ck.c__law_rule, FunD.bindsA F (fun _ _ _ _ _ _ us hl => match us, hl with | [_, _], _ => rfl), fun q hq e => ?_⟩
  rw [kws] at hq
  simp only [List.mem_cons, List.not_mem_nil, or_false] at hq
  rcases hq with rfl | rfl
  · exact absurd e (by decide)
  · exact absurd e (by decide)
theorem m__law_weight (X : K.In h) (G : h.Ns mainGlobals mg) (c : He.SaysX Hd.fa Hd.fn [] [] Hd.ex w h K) : DefOk Ir.mo K mg Ir.d__law_weight := by
  obtain ⟨fd, F⟩ := c.t.d.def_ 36 (d := Hd.dD 52) rfl
  refine ⟨_, fd, _, _, _, F, He.glo_ok X G (c.t.d.fact 36 (f := .glo "_law_weight") rfl), ⟨rfl, rfl, rfl, by decide +kernel, rfl, by decide +kernel, by decide +kernel⟩, by decide, Ck.c__law_weight, FunD.bindsA F (fun _ _ _ _ _ _ us hl => match us, hl with | [_], _ => rfl), fun q hq e => ?_⟩
  rw [kws] at hq
  simp only [List.mem_cons, List.not_mem_nil, or_false] at hq
  rcases hq with rfl | rfl
  · exact absurd e (by decide)
  · exact absurd e (by decide)
theorem m__law_true_by (X : K.In h) (G : h.Ns mainGlobals mg) (c : He.SaysX Hd.fa Hd.fn [] [] Hd.ex w h K) : DefOk Ir.mo K mg Ir.d__law_true_by := by
  obtain ⟨fd, F⟩ := c.t.d.def_ 37 (d := Hd.dD 53) rfl
  refine ⟨_, fd, _, _, _, F, He.glo_ok X G (c.t.d.fact 37 (f := .glo "_law_true_by") rfl), ⟨rfl, rfl, rfl, by decide +kernel, rfl, by decide +kernel, by decide +kernel⟩, by decide, Ck.c__law_true_by, FunD.bindsA F (fun _ _ _ _ _ _ us hl => match us, hl with | [_, _], _ => rfl), fun q hq e => ?_⟩
  rw [kws] at hq
  simp only [List.mem_cons, List.not_mem_nil, or_false] at hq
  rcases hq with rfl | rfl
  · exact absurd e (by decide)
  · exact absurd e (by decide)
theorem m__law_cases (X : K.In h) (G : h.Ns mainGlobals mg) (c : He.SaysX Hd.fa Hd.fn [] [] Hd.ex w h K) : DefOk Ir.mo K mg Ir.d__law_cases := by
  obtain ⟨fd, F⟩ := c.t.d.def_ 38 (d := Hd.dD 54) rfl
  refine ⟨_, fd, _, _, _, F, He.glo_ok X G (c.t.d.fact 38 (f := .glo "_law_cases") rfl), ⟨rfl, rfl, rfl, by decide +kernel, rfl, by decide +kernel, by decide +kernel⟩, by decide, Ck.c__law_cases, FunD.bindsA F (fun _ _ _ _ _ _ us hl => match us, hl with | [_], _ => rfl), fun q hq e => ?_⟩
  rw [kws] at hq
  simp only [List.mem_cons, List.not_mem_nil, or_false] at hq
  rcases hq with rfl | rfl
  · exact absurd e (by decide)
  · exact absurd e (by decide)
theorem m__law_is_less (X : K.In h) (G : h.Ns mainGlobals mg) (c : He.SaysX Hd.fa Hd.fn [] [] Hd.ex w h K) : DefOk Ir.mo K mg Ir.d__law_is_less := by
  obtain ⟨fd, F⟩ := c.t.d.def_ 39 (d := Hd.dD 55) rfl
  refine ⟨_, fd, _, _, _, F, He.glo_ok X G (c.t.d.fact 39 (f := .glo "_law_is_less") rfl), ⟨rfl, rfl, rfl, by decide +kernel, rfl, by decide +kernel, by decide +kernel⟩, by decide, Ck.c__law_is_less, FunD.bindsA F (fun _ _ _ _ _ _ us hl => match us, hl with | [_, _], _ => rfl), fun q hq e => ?_⟩
  rw [kws] at hq
  simp only [List.mem_cons, List.not_mem_nil, or_false] at hq
  rcases hq with rfl | rfl
  · exact absurd e (by decide)
  · exact absurd e (by decide)
theorem m__law_holds (X : K.In h) (G : h.Ns mainGlobals mg) (c : He.SaysX Hd.fa Hd.fn [] [] Hd.ex w h K) : DefOk Ir.mo K mg Ir.d__law_holds := by
  obtain ⟨fd, F⟩ := c.t.d.def_ 40 (d := Hd.dD 56) rfl
  refine ⟨_, fd, _, _, _, F, He.glo_ok X G (c.t.d.fact 40 (f := .glo "_law_holds") rfl), ⟨rfl, rfl, rfl, by decide +kernel, rfl, by decide +kernel, by decide +kernel⟩, by decide, Ck.c__law_holds, FunD.bindsA F (fun _ _ _ _ _ _ us hl => match us, hl with | [_, _, _], _ => rfl), fun q hq e => ?_⟩
  rw [kws] at hq
  simp only [List.mem_cons, List.not_mem_nil, or_false] at hq
  rcases hq with rfl | rfl
  · exact absurd e (by decide)
  · exact absurd e (by decide)
theorem m__law_sequent_right (X : K.In h) (G : h.Ns mainGlobals mg) (c : He.SaysX Hd.fa Hd.fn [] [] Hd.ex w h K) : DefOk Ir.mo K mg Ir.d__law_sequent_right := by
  obtain ⟨fd, F⟩ := c.t.d.def_ 41 (d := Hd.dD 57) rfl
  refine ⟨_, fd, _, _, _, F, He.glo_ok X G (c.t.d.fact 41 (f := .glo "_law_sequent_right") rfl), ⟨rfl, rfl, rfl, by decide +kernel, rfl, by decide +kernel, by decide +kernel⟩, by decide, Ck.c__law_sequent_right, FunD.bindsA F (fun _ _ _ _ _ _ us hl => match us, hl with | [_, _, _], _ => rfl), fun q hq e => ?_⟩
  rw [kws] at hq
  simp only [List.mem_cons, List.not_mem_nil, or_false] at hq
  rcases hq with rfl | rfl
  · exact absurd e (by decide)
  · exact absurd e (by decide)
theorem m__law_down_right (X : K.In h) (G : h.Ns mainGlobals mg) (c : He.SaysX Hd.fa Hd.fn [] [] Hd.ex w h K) : DefOk Ir.mo K mg Ir.d__law_down_right := by
  obtain ⟨fd, F⟩ := c.t.d.def_ 42 (d := Hd.dD 58) rfl
  refine ⟨_, fd, _, _, _, F, He.glo_ok X G (c.t.d.fact 42 (f := .glo "_law_down_right") rfl), ⟨rfl, rfl, rfl, by decide +kernel, rfl, by decide +kernel, by decide +kernel⟩, by decide, Ck.c__law_down_right, FunD.bindsA F (fun _ _ _ _ _ _ us hl => match us, hl with | [_, _, _], _ => rfl), fun q hq e => ?_⟩
  rw [kws] at hq
  simp only [List.mem_cons, List.not_mem_nil, or_false] at hq
  rcases hq with rfl | rfl
  · exact absurd e (by decide)
  · exact absurd e (by decide)
theorem m_law (X : K.In h) (G : h.Ns mainGlobals mg) (c : He.SaysX Hd.fa Hd.fn [] [] Hd.ex w h K) : DefOk Ir.mo K mg Ir.d_law := by
  obtain ⟨fd, F⟩ := c.t.d.def_ 43 (d := Hd.dD 59) rfl
  refine ⟨_, fd, _, _, _, F, He.glo_ok X G (c.t.d.fact 43 (f := .glo "law") rfl), ⟨rfl, rfl, rfl, by decide +kernel, rfl, by decide +kernel, by decide +kernel⟩, by decide, Ck.c_law, FunD.bindsA F (fun _ _ _ _ _ _ us hl => match us, hl with | [_], _ => rfl), fun q hq e => ?_⟩
  rw [kws] at hq
  simp only [List.mem_cons, List.not_mem_nil, or_false] at hq
  rcases hq with rfl | rfl
  · exact absurd e (by decide)
  · exact absurd e (by decide)
theorem k_MOST_LETTERS (X : K.In h) (G : h.Ns mainGlobals mg) (c : He.SaysX Hd.fa Hd.fn [] [] Hd.ex w h K) : ConOk K mg ("MOST_LETTERS", .int (12)) := con_int (He.int_ok X G (c.t.d.fact 59 (f := .int "MOST_LETTERS" (12)) rfl))
theorem k_MOST_SIGNS (X : K.In h) (G : h.Ns mainGlobals mg) (c : He.SaysX Hd.fa Hd.fn [] [] Hd.ex w h K) : ConOk K mg ("MOST_SIGNS", .int (200)) := con_int (He.int_ok X G (c.t.d.fact 60 (f := .int "MOST_SIGNS" (200)) rfl))
theorem k_MOST_DEEP (X : K.In h) (G : h.Ns mainGlobals mg) (c : He.SaysX Hd.fa Hd.fn [] [] Hd.ex w h K) : ConOk K mg ("MOST_DEEP", .int (60)) := con_int (He.int_ok X G (c.t.d.fact 61 (f := .int "MOST_DEEP" (60)) rfl))
theorem k_JOINERS (X : K.In h) (G : h.Ns mainGlobals mg) (c : He.SaysX Hd.fa Hd.fn [] [] Hd.ex w h K) : ConOk K mg ("JOINERS", .tup [.str "and", .str "or", .str "then"]) := by
  have m := c.more
  unfold Hd.ex at m
  obtain ⟨h1, h2⟩ := and2 ((and2 m).1)
  exact con_tup (PySem.W.mg_of X G (He.eqO_ok h1)) (fun H => He.tupB_ok h2 H) fun F => by simp [Reps, Rep, He.Dv.v]
theorem k_NO (X : K.In h) (G : h.Ns mainGlobals mg) (c : He.SaysX Hd.fa Hd.fn [] [] Hd.ex w h K) : ConOk K mg ("NO", .tup [.str "no"]) := by
  have m := c.more
  unfold Hd.ex at m
  obtain ⟨h1, h2⟩ := and2 ((and2 m).2)
  exact con_tup (PySem.W.mg_of X G (He.eqO_ok h1)) (fun H => He.tupB_ok h2 H) fun F => by simp [Reps, Rep, He.Dv.v]
theorem k_SMALL (X : K.In h) (G : h.Ns mainGlobals mg) (c : He.SaysX Hd.fa Hd.fn [] [] Hd.ex w h K) : ConOk K mg ("SMALL", .str "abcdefghijklmnopqrstuvwxyz") := con_str (He.str_ok X G (c.t.d.fact 62 (f := .str "SMALL" "abcdefghijklmnopqrstuvwxyz") rfl))
theorem k_FIGURES (X : K.In h) (G : h.Ns mainGlobals mg) (c : He.SaysX Hd.fa Hd.fn [] [] Hd.ex w h K) : ConOk K mg ("FIGURES", .str "0123456789") := con_str (He.str_ok X G (c.t.d.fact 63 (f := .str "FIGURES" "0123456789") rfl))
theorem k_MOST_LEFT (X : K.In h) (G : h.Ns mainGlobals mg) (c : He.SaysX Hd.fa Hd.fn [] [] Hd.ex w h K) : ConOk K mg ("MOST_LEFT", .int (40)) := con_int (He.int_ok X G (c.t.d.fact 64 (f := .int "MOST_LEFT" (40)) rfl))
theorem mod (X : K.In h) (G : h.Ns mainGlobals mg) (c : He.SaysX Hd.fa Hd.fn [] [] Hd.ex w h K) : ModOk Ir.mo Ir.defs K mg where
  names := by decide +kernel
  fns := fun p hp => by
    have e : Ir.mo.fns = Ir.defs.map fun d => (d.name, d.np) := by decide +kernel
    rw [e] at hp
    obtain ⟨d, hd, rfl⟩ := List.mem_map.mp hp
    exact ⟨d, hd, rfl, rfl⟩
  def_ := (List.forall_mem_cons.mpr ⟨m_is_name_in X G c, (List.forall_mem_cons.mpr ⟨m_is_shaped X G c, (List.forall_mem_cons.mpr ⟨m_inner_of X G c, (List.forall_mem_cons.mpr ⟨m_levels_of X G c, (List.forall_mem_cons.mpr ⟨m_is_formula_in X G c, (List.forall_mem_cons.mpr ⟨m_check_formula X G c, (List.forall_mem_cons.mpr ⟨m_parts_in X G c, (List.forall_mem_cons.mpr ⟨m_is_sequent X G c, (List.forall_mem_cons.mpr ⟨m_is_taken X G c, (List.forall_mem_cons.mpr ⟨m_put_for X G c, (List.forall_mem_cons.mpr ⟨m_is_nested X G c, (List.forall_mem_cons.mpr ⟨m_nested_way X G c, (List.forall_mem_cons.mpr ⟨m_rule_in X G c, (List.forall_mem_cons.mpr ⟨m_check_sequents X G c, (List.forall_mem_cons.mpr ⟨m_rule_at X G c, (List.forall_mem_cons.mpr ⟨m_weight_of X G c, (List.forall_mem_cons.mpr ⟨m__law_hash X G c, (List.forall_mem_cons.mpr ⟨m__law_random X G c, (List.forall_mem_cons.mpr ⟨m__law_cell X G c, (List.forall_mem_cons.mpr ⟨m__law_generator X G c, (List.forall_mem_cons.mpr ⟨m__law_pick X G c, (List.forall_mem_cons.mpr ⟨m__law_drawn_order X G c, (List.forall_mem_cons.mpr ⟨m__law_exact X G c, (List.forall_mem_cons.mpr ⟨m__law_copied X G c, (List.forall_mem_cons.mpr ⟨m__law_inner X G c, (List.forall_mem_cons.mpr ⟨m__law_places X G c, (List.forall_mem_cons.mpr ⟨m__law_kind_parts X G c, (List.forall_mem_cons.mpr ⟨m__law_formula X G c, (List.forall_mem_cons.mpr ⟨m__law_proved X G c, (List.forall_mem_cons.mpr ⟨m__law_detour X G c, (List.forall_mem_cons.mpr ⟨m__law_used X G c, (List.forall_mem_cons.mpr ⟨m__law_led X G c, (List.forall_mem_cons.mpr ⟨m__law_known_proofs X G c, (List.forall_mem_cons.mpr ⟨m__law_some_proof X G c, (List.forall_mem_cons.mpr ⟨m__law_put_ones X G c, (List.forall_mem_cons.mpr ⟨m__law_rule X G c, (List.forall_mem_cons.mpr ⟨m__law_weight X G c, (List.forall_mem_cons.mpr ⟨m__law_true_by X G c, (List.forall_mem_cons.mpr ⟨m__law_cases X G c, (List.forall_mem_cons.mpr ⟨m__law_is_less X G c, (List.forall_mem_cons.mpr ⟨m__law_holds X G c, (List.forall_mem_cons.mpr ⟨m__law_sequent_right X G c, (List.forall_mem_cons.mpr ⟨m__law_down_right X G c, (List.forall_mem_cons.mpr ⟨m_law X G c, (fun _ h => by cases h)⟩)⟩)⟩)⟩)⟩)⟩)⟩)⟩)⟩)⟩)⟩)⟩)⟩)⟩)⟩)⟩)⟩)⟩)⟩)⟩)⟩)⟩)⟩)⟩)⟩)⟩)⟩)⟩)⟩)⟩)⟩)⟩)⟩)⟩)⟩)⟩)⟩)⟩)⟩)⟩)⟩)⟩)⟩)⟩)
  free := (List.forall_mem_cons.mpr ⟨He.free_ok X G (c.t.d.fact 44 (f := .free "all") rfl), (List.forall_mem_cons.mpr ⟨He.free_ok X G (c.t.d.fact 45 (f := .free "bool") rfl), (List.forall_mem_cons.mpr ⟨He.free_ok X G (c.t.d.fact 46 (f := .free "dict") rfl), (List.forall_mem_cons.mpr ⟨He.free_ok X G (c.t.d.fact 47 (f := .free "enumerate") rfl), (List.forall_mem_cons.mpr ⟨He.free_ok X G (c.t.d.fact 48 (f := .free "int") rfl), (List.forall_mem_cons.mpr ⟨He.free_ok X G (c.t.d.fact 49 (f := .free "isinstance") rfl), (List.forall_mem_cons.mpr ⟨He.free_ok X G (c.t.d.fact 50 (f := .free "len") rfl), (List.forall_mem_cons.mpr ⟨He.free_ok X G (c.t.d.fact 51 (f := .free "list") rfl), (List.forall_mem_cons.mpr ⟨He.free_ok X G (c.t.d.fact 52 (f := .free "max") rfl), (List.forall_mem_cons.mpr ⟨He.free_ok X G (c.t.d.fact 53 (f := .free "range") rfl), (List.forall_mem_cons.mpr ⟨He.free_ok X G (c.t.d.fact 54 (f := .free "sorted") rfl), (List.forall_mem_cons.mpr ⟨He.free_ok X G (c.t.d.fact 55 (f := .free "str") rfl), (List.forall_mem_cons.mpr ⟨He.free_ok X G (c.t.d.fact 56 (f := .free "sum") rfl), (List.forall_mem_cons.mpr ⟨He.free_ok X G (c.t.d.fact 58 (f := .free "tuple") rfl), (fun _ h => by cases h)⟩)⟩)⟩)⟩)⟩)⟩)⟩)⟩)⟩)⟩)⟩)⟩)⟩)⟩)
  con := (List.forall_mem_cons.mpr ⟨k_MOST_LETTERS X G c, (List.forall_mem_cons.mpr ⟨k_MOST_SIGNS X G c, (List.forall_mem_cons.mpr ⟨k_MOST_DEEP X G c, (List.forall_mem_cons.mpr ⟨k_JOINERS X G c, (List.forall_mem_cons.mpr ⟨k_NO X G c, (List.forall_mem_cons.mpr ⟨k_SMALL X G c, (List.forall_mem_cons.mpr ⟨k_FIGURES X G c, (List.forall_mem_cons.mpr ⟨k_MOST_LEFT X G c, (fun _ h => by cases h)⟩)⟩)⟩)⟩)⟩)⟩)⟩)⟩)
end
def DEPTH : Nat := 231
def Law : Prop := ∀ ns : List Int, ns.length ≤ 63 → ∃ os, callF Ir.defs DEPTH "law" [.fz (.lst (ns.map D.int))] = .ok (.fz (.bl true)) os
end En
open PySem PySem.W PySem.Calls PyProof.Rows
theorem law_end (law : En.Law) : PySem.Challenge.rw_proofsrun_k13_whole_rules_of_sequents.Holds := by
  w_on; o_law
  refine HandSHeadRun.head_any (r := OpenLaw.row PySem.Challenge.rw_proofsrun_k13_whole_rules_of_sequents) (q := view (OpenLaw.row PySem.Challenge.rw_proofsrun_k13_whole_rules_of_sequents).prog [59]) (H := Hd.hk) (ob := Hd.ob) (M := 3000) (loose := Hd.loose) (d := HandSHeadRun.topDef (OpenLaw.row PySem.Challenge.rw_proofsrun_k13_whole_rules_of_sequents).prog 59) (kwd := []) Hd.ob_eq
    (by kernel_rfl) (fun s => by kernel_rfl) Hd.run (by kernel_rfl) (by kernel_rfl) (by kernel_rfl) (by rfl) (by first | assumption | decide +kernel) (by decide +kernel) ⟨rfl, rfl, rfl, rfl, rfl, by decide +kernel⟩ ?hw ?hc
  case hw => w_witness2
  case hc =>
    refine Pv.walk_end (l := PySem.Challenge.rw_proofsrun_k13_whole_rules_of_sequents) (n := 63) (k := En.DEPTH) (M := Ir.mo) (defs := Ir.defs) (fd := Ir.d_law) (x := "script") rfl (by decide) (by kernel_rfl) ⟨rfl, by decide +kernel, by decide +kernel⟩ (by simp [Ir.defs]) ?nm rfl rfl ?F law
    case nm =>
      have e : (HandSHeadRun.topDef (OpenLaw.row PySem.Challenge.rw_proofsrun_k13_whole_rules_of_sequents).prog 59).name = ("law" : PySem.Str) := by kernel_rfl
      rw [e]
      rfl
    case F =>
      intro w mg h Y G
      obtain ⟨K, KX, c⟩ := Y
      exact ⟨K, KX, En.mod KX G c⟩

theorem PySem.Challenge.cw_proofsrun_k13_whole_rules_of_sequents_holds : PySem.Challenge.rw_proofsrun_k13_whole_rules_of_sequents.Holds := by
  exact law_end fun ns hl => Sp.law_ok ns hl
