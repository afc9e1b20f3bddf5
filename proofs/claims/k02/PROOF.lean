import PyProof.Rows.All
import Wide.All
import OpenK.AllK
import Wide.FinOn
import HandS.ForMost
import HandS.Exc
import HandS.TryOnly
import HandS.CallSlots
import HandS.Wide
import HandS.WideBits
import HandS.TupAny
import HandS.TupMul
import HandS.IsInst
import HandS.Style
import HandS.SortInts
import HandS.Conv
import HandS.Deep
import HandS.Text
import HandS.ExcOwn
import HandS.Iter
import HandS.Zip
import HandS.WordsExc
import HandS.SetBool
import HandS.SetKeys
import HandS.ExcInit
import KE.KExcSuper
import KE.KSuper
import HandS.ExcField
import KE.KExcIs
import HandS.ExcIs
import PyProof.StrOps2
import PyProof.SumWalkG
import PyProof.WalksMore
import HandS.Codes
import PySem.Challenge.RW_ratewarrant_k02_whole_read_back
set_option Elab.async false
set_option linter.all false
set_option maxRecDepth 100000
set_option maxHeartbeats 4000000
namespace Bv
open PySem PySem.Spec PyProof.Rows L2

/-! ### values -/
inductive PV where
  | non
  | bl (b : Bool)
  | int (i : Int)
  | str (s : Str)
  | tup (xs : List PV)
  | lst (o : Bool) (xs : List PV)
  | dK (kvs : List (Key × PV))
  | dT (kvs : List (List Key × PV))
  | sK (ks : List Key)
  deriving Inhabited

mutual
def PV.own : PV → Bool
  | .tup xs => PV.owns xs
  | .lst o xs => o || PV.owns xs
  | .dK _ => true
  | .dT _ => true
  | .sK _ => true
  | _ => false
def PV.owns : List PV → Bool
  | [] => false
  | x :: r => x.own || PV.owns r
end

abbrev Fp := Addr → Nat
def one (a : Addr) : Fp := fun b => if b = a then 1 else 0
theorem one_self (a : Addr) : one a a = 1 := if_pos rfl
theorem one_ne {a b : Addr} (h : b ≠ a) : one a b = 0 := if_neg h

def FzL (K : PySem.W.Frag) (H : Hp) (a : Addr) (xs : List V) : Prop :=
  (∃ o, H a = some (.frz o (.lst xs))) ∨
    ∃ (o : Obj) (its : Array Value) (n : Nat), K.lookup a = some o ∧ o.cls = .type "list" ∧ o.dict = none ∧ o.data = .seq its n ∧ its.size ≤ sizeLine ∧ Vals xs its.toList

mutual
def Rep (K : PySem.W.Frag) (H : Hp) : PV → V → Fp → Prop
  | .non, v, f => v = .non ∧ ∀ b, f b = 0
  | .bl k, v, f => v = .bl k ∧ ∀ b, f b = 0
  | .int i, v, f => v = .int i ∧ ∀ b, f b = 0
  | .str x, v, f => v = .str x ∧ ∀ b, f b = 0
  | .tup xs, v, f => ∃ a vs, v = .ref a ∧ SqT K H a vs ∧ xs.length ≤ sizeLine ∧ Reps K H xs vs f
  | .lst true xs, v, f => ∃ a vs g, v = .ref a ∧ H a = some (.lst vs) ∧ xs.length ≤ sizeLine ∧ Reps K H xs vs g ∧ ∀ b, f b = g b + one a b
  | .lst false xs, v, f => ∃ a vs, v = .ref a ∧ FzL K H a vs ∧ xs.length ≤ sizeLine ∧ Reps K H xs vs f ∧ ∀ b, f b = 0
  | .dK kvs, v, f => ∃ a ws g, v = .ref a ∧ H a = some (.dK ws) ∧ kvs.length ≤ sizeLine ∧ RepK K H kvs ws g ∧ ∀ b, f b = g b + one a b
  | .dT kvs, v, f => ∃ a ws g, v = .ref a ∧ H a = some (.dT ws) ∧ kvs.length ≤ sizeLine ∧ RepT K H kvs ws g ∧ ∀ b, f b = g b + one a b
  | .sK _, _, _ => False
def Reps (K : PySem.W.Frag) (H : Hp) : List PV → List V → Fp → Prop
  | [], vs, f => vs = [] ∧ ∀ b, f b = 0
  | x :: xs, vs, f => ∃ v ws g h, vs = v :: ws ∧ Rep K H x v g ∧ Reps K H xs ws h ∧ ∀ b, f b = g b + h b
def RepK (K : PySem.W.Frag) (H : Hp) : List (Key × PV) → List (Key × V) → Fp → Prop
  | [], vs, f => vs = [] ∧ ∀ b, f b = 0
  | (k, x) :: xs, vs, f => ∃ v ws g h, vs = (k, v) :: ws ∧ Rep K H x v g ∧ RepK K H xs ws h ∧ ∀ b, f b = g b + h b
def RepT (K : PySem.W.Frag) (H : Hp) : List (List Key × PV) → List (List Key × V) → Fp → Prop
  | [], vs, f => vs = [] ∧ ∀ b, f b = 0
  | (k, x) :: xs, vs, f => ∃ v ws g h, vs = (k, v) :: ws ∧ Rep K H x v g ∧ RepT K H xs ws h ∧ ∀ b, f b = g b + h b
end

/-- what stands at an owned address -/
def MutA (H : Hp) (b : Addr) : Prop := ∃ o, H b = some o ∧ (match o with | .lst _ => True | .dK _ => True | .dT _ => True | .ext _ => True | _ => False)

section
variable {K : PySem.W.Frag} {H H' : Hp}
mutual
theorem Rep.mut : ∀ {x : PV} {v : V} {f : Fp} {b : Addr}, Rep K H x v f → f b ≠ 0 → MutA H b
  | .non, v, f, b, h, n => absurd (h.2 b) n
  | .bl _, v, f, b, h, n => absurd (h.2 b) n
  | .int _, v, f, b, h, n => absurd (h.2 b) n
  | .str _, v, f, b, h, n => absurd (h.2 b) n
  | .tup xs, v, f, b, h, n => by
    obtain ⟨a, vs, _, _, _, r⟩ := h
    exact Reps.mut r n
  | .lst true xs, v, f, b, h, n => by
    obtain ⟨a, vs, g, _, e, _, r, q⟩ := h
    by_cases hb : b = a
    · subst hb; exact ⟨_, e, trivial⟩
    · exact Reps.mut r (by rw [q b, one_ne hb] at n; omega)
  | .lst false xs, v, f, b, h, n => by
    obtain ⟨a, vs, _, _, _, r, q⟩ := h
    exact absurd (q b) n
  | .dK xs, v, f, b, h, n => by
    obtain ⟨a, vs, g, _, e, _, r, q⟩ := h
    by_cases hb : b = a
    · subst hb; exact ⟨_, e, trivial⟩
    · exact RepK.mut r (by rw [q b, one_ne hb] at n; omega)
  | .dT xs, v, f, b, h, n => by
    obtain ⟨a, vs, g, _, e, _, r, q⟩ := h
    by_cases hb : b = a
    · subst hb; exact ⟨_, e, trivial⟩
    · exact RepT.mut r (by rw [q b, one_ne hb] at n; omega)
  | .sK _, _, _, _, h, _ => h.elim
theorem Reps.mut : ∀ {xs : List PV} {vs : List V} {f : Fp} {b : Addr}, Reps K H xs vs f → f b ≠ 0 → MutA H b
  | [], vs, f, b, h, n => absurd (h.2 b) n
  | x :: xs, vs, f, b, h, n => by
    obtain ⟨v, ws, g, k, _, r, rs, q⟩ := h
    by_cases hg : g b = 0
    · exact Reps.mut rs (by rw [q b] at n; omega)
    · exact Rep.mut r hg
theorem RepK.mut : ∀ {xs : List (Key × PV)} {vs : List (Key × V)} {f : Fp} {b : Addr}, RepK K H xs vs f → f b ≠ 0 → MutA H b
  | [], vs, f, b, h, n => absurd (h.2 b) n
  | (k, x) :: xs, vs, f, b, h, n => by
    obtain ⟨v, ws, g, k, _, r, rs, q⟩ := h
    by_cases hg : g b = 0
    · exact RepK.mut rs (by rw [q b] at n; omega)
    · exact Rep.mut r hg
theorem RepT.mut : ∀ {xs : List (List Key × PV)} {vs : List (List Key × V)} {f : Fp} {b : Addr}, RepT K H xs vs f → f b ≠ 0 → MutA H b
  | [], vs, f, b, h, n => absurd (h.2 b) n
  | (k, x) :: xs, vs, f, b, h, n => by
    obtain ⟨v, ws, g, k, _, r, rs, q⟩ := h
    by_cases hg : g b = 0
    · exact RepT.mut rs (by rw [q b] at n; omega)
    · exact Rep.mut r hg
end

/-- what the value x leans on stands as it stood: F tells what may have changed -/
def Kept (H H' : Hp) (F : Fp) : Prop := ∀ b o, H b = some o → F b = 0 → H' b = some o
theorem Kept.refl (H : Hp) (F : Fp) : Kept H H F := fun _ _ h _ => h
theorem sqT_kept {a : Addr} {vs : List V} {F : Fp} (k : Kept H H' F) (m : ∀ b, F b ≠ 0 → MutA H b) (h : SqT K H a vs) : SqT K H' a vs := by
  have z : ∀ o, H a = some o → (match o with | .lst _ => True | .dK _ => True | .dT _ => True | .ext _ => True | _ => False) = False → H' a = some o := fun o e n => by
    refine k a o e ?_
    by_cases hF : F a = 0
    · exact hF
    · obtain ⟨o', e', q⟩ := m a hF
      rw [e] at e'; cases e'
      rw [n] at q; exact q.elim
  rcases h with (h | ⟨o, h⟩) | h
  · exact .inl (.inl (z _ h rfl))
  · exact .inl (.inr ⟨o, z _ h rfl⟩)
  · exact .inr h
theorem fzL_kept {a : Addr} {vs : List V} {F : Fp} (k : Kept H H' F) (m : ∀ b, F b ≠ 0 → MutA H b) (h : FzL K H a vs) : FzL K H' a vs := by
  rcases h with ⟨o, h⟩ | h
  · refine .inl ⟨o, k a _ h ?_⟩
    by_cases hF : F a = 0
    · exact hF
    · obtain ⟨o', e', q⟩ := m a hF
      rw [h] at e'; cases e'
      exact q.elim
  · exact .inr h
mutual
theorem Rep.kept {F : Fp} (k : Kept H H' F) (m : ∀ b, F b ≠ 0 → MutA H b) : ∀ {x : PV} {v : V} {f : Fp}, (∀ b, f b ≠ 0 → F b = 0) → Rep K H x v f → Rep K H' x v f
  | .non, v, f, d, h => h
  | .bl _, v, f, d, h => h
  | .int _, v, f, d, h => h
  | .str _, v, f, d, h => h
  | .tup xs, v, f, d, h => by
    obtain ⟨a, vs, e, t, z, r⟩ := h
    exact ⟨a, vs, e, sqT_kept k m t, z, Reps.kept k m d r⟩
  | .lst true xs, v, f, d, h => by
    obtain ⟨a, vs, g, e, t, z, r, q⟩ := h
    exact ⟨a, vs, g, e, k _ _ t (d a (by rw [q a, one_self]; omega)), z, Reps.kept k m (fun b n => d b (by rw [q b]; omega)) r, q⟩
  | .lst false xs, v, f, d, h => by
    obtain ⟨a, vs, e, t, z, r, q⟩ := h
    exact ⟨a, vs, e, fzL_kept k m t, z, Reps.kept k m d r, q⟩
  | .dK xs, v, f, d, h => by
    obtain ⟨a, vs, g, e, t, z, r, q⟩ := h
    exact ⟨a, vs, g, e, k _ _ t (d a (by rw [q a, one_self]; omega)), z, RepK.kept k m (fun b n => d b (by rw [q b]; omega)) r, q⟩
  | .dT xs, v, f, d, h => by
    obtain ⟨a, vs, g, e, t, z, r, q⟩ := h
    exact ⟨a, vs, g, e, k _ _ t (d a (by rw [q a, one_self]; omega)), z, RepT.kept k m (fun b n => d b (by rw [q b]; omega)) r, q⟩
  | .sK _, _, _, _, h => h
theorem Reps.kept {F : Fp} (k : Kept H H' F) (m : ∀ b, F b ≠ 0 → MutA H b) : ∀ {xs : List PV} {vs : List V} {f : Fp}, (∀ b, f b ≠ 0 → F b = 0) → Reps K H xs vs f → Reps K H' xs vs f
  | [], vs, f, d, h => h
  | x :: xs, vs, f, d, h => by
    obtain ⟨v, ws, g, l, e, r, rs, q⟩ := h
    exact ⟨v, ws, g, l, e, Rep.kept k m (fun b n => d b (by rw [q b]; omega)) r, Reps.kept k m (fun b n => d b (by rw [q b]; omega)) rs, q⟩
theorem RepK.kept {F : Fp} (k : Kept H H' F) (m : ∀ b, F b ≠ 0 → MutA H b) : ∀ {xs : List (Key × PV)} {vs : List (Key × V)} {f : Fp}, (∀ b, f b ≠ 0 → F b = 0) → RepK K H xs vs f → RepK K H' xs vs f
  | [], vs, f, d, h => h
  | (y, x) :: xs, vs, f, d, h => by
    obtain ⟨v, ws, g, l, e, r, rs, q⟩ := h
    exact ⟨v, ws, g, l, e, Rep.kept k m (fun b n => d b (by rw [q b]; omega)) r, RepK.kept k m (fun b n => d b (by rw [q b]; omega)) rs, q⟩
theorem RepT.kept {F : Fp} (k : Kept H H' F) (m : ∀ b, F b ≠ 0 → MutA H b) : ∀ {xs : List (List Key × PV)} {vs : List (List Key × V)} {f : Fp}, (∀ b, f b ≠ 0 → F b = 0) → RepT K H xs vs f → RepT K H' xs vs f
  | [], vs, f, d, h => h
  | (y, x) :: xs, vs, f, d, h => by
    obtain ⟨v, ws, g, l, e, r, rs, q⟩ := h
    exact ⟨v, ws, g, l, e, Rep.kept k m (fun b n => d b (by rw [q b]; omega)) r, RepT.kept k m (fun b n => d b (by rw [q b]; omega)) rs, q⟩
end
mutual
/-- a value without owned parts has no footprint -/
theorem Rep.free : ∀ {x : PV} {v : V} {f : Fp}, Rep K H x v f → x.own = false → ∀ b, f b = 0
  | .non, v, f, h, _ => h.2
  | .bl _, v, f, h, _ => h.2
  | .int _, v, f, h, _ => h.2
  | .str _, v, f, h, _ => h.2
  | .tup xs, v, f, h, n => by
    obtain ⟨a, vs, _, _, _, r⟩ := h
    exact Reps.free r (by simpa [PV.own] using n)
  | .lst true xs, v, f, h, n => by simp [PV.own] at n
  | .lst false xs, v, f, h, n => h.choose_spec.choose_spec.2.2.2.2
  | .dK _, v, f, h, n => by simp [PV.own] at n
  | .dT _, v, f, h, n => by simp [PV.own] at n
  | .sK _, _, _, h, _ => h.elim
theorem Reps.free : ∀ {xs : List PV} {vs : List V} {f : Fp}, Reps K H xs vs f → PV.owns xs = false → ∀ b, f b = 0
  | [], vs, f, h, _ => h.2
  | x :: xs, vs, f, h, n => by
    obtain ⟨v, ws, g, l, e, r, rs, q⟩ := h
    simp only [PV.owns, Bool.or_eq_false_iff] at n
    intro b
    rw [q b, Rep.free r n.1 b, Reps.free rs n.2 b]
end
theorem Reps.length : ∀ {xs : List PV} {vs : List V} {f : Fp}, Reps K H xs vs f → vs.length = xs.length
  | [], vs, f, h => by rw [h.1]; rfl
  | x :: xs, vs, f, h => by
    obtain ⟨v, ws, g, l, e, r, rs, q⟩ := h
    rw [e, List.length_cons, List.length_cons, Reps.length rs]
/-- the footprint read pointwise only -/
theorem Rep.congr : ∀ {x : PV} {v : V} {f f' : Fp}, (∀ b, f' b = f b) → Rep K H x v f → Rep K H x v f' := fun {x v f f'} e h => by
  have : f' = f := funext e
  rw [this]; exact h
theorem Reps.congr : ∀ {x : List PV} {v : List V} {f f' : Fp}, (∀ b, f' b = f b) → Reps K H x v f → Reps K H x v f' := fun {x v f f'} e h => by
  have : f' = f := funext e
  rw [this]; exact h
end

/-! ### slots -/
abbrev Sl := List (Option PV)
def SLR (K : PySem.W.Frag) (H : Hp) : Sl → L2.St → Fp → Prop
  | [], τ, f => τ = [] ∧ ∀ b, f b = 0
  | none :: r, τ, f => ∃ o t, τ = o :: t ∧ SLR K H r t f
  | some x :: r, τ, f => ∃ v t g h, τ = some v :: t ∧ Rep K H x v g ∧ SLR K H r t h ∧ ∀ b, f b = g b + h b
section
variable {K : PySem.W.Frag} {H H' : Hp}
theorem SLR.mut : ∀ {s : Sl} {τ : L2.St} {f : Fp} {b : Addr}, SLR K H s τ f → f b ≠ 0 → MutA H b
  | [], τ, f, b, h, n => absurd (h.2 b) n
  | none :: r, τ, f, b, h, n => by
    obtain ⟨o, t, _, q⟩ := h
    exact SLR.mut q n
  | some x :: r, τ, f, b, h, n => by
    obtain ⟨v, t, g, l, _, p, q, e⟩ := h
    by_cases hg : g b = 0
    · exact SLR.mut q (by rw [e b] at n; omega)
    · exact Rep.mut p hg
theorem SLR.kept {F : Fp} (k : Kept H H' F) (m : ∀ b, F b ≠ 0 → MutA H b) : ∀ {s : Sl} {τ : L2.St} {f : Fp}, (∀ b, f b ≠ 0 → F b = 0) → SLR K H s τ f → SLR K H' s τ f
  | [], τ, f, d, h => h
  | none :: r, τ, f, d, h => by
    obtain ⟨o, t, e, q⟩ := h
    exact ⟨o, t, e, SLR.kept k m d q⟩
  | some x :: r, τ, f, d, h => by
    obtain ⟨v, t, g, l, e, p, q, z⟩ := h
    exact ⟨v, t, g, l, e, Rep.kept k m (fun b n => d b (by rw [z b]; omega)) p, SLR.kept k m (fun b n => d b (by rw [z b]; omega)) q, z⟩
theorem SLR.congr {s : Sl} {τ : L2.St} {f f' : Fp} (e : ∀ b, f' b = f b) (h : SLR K H s τ f) : SLR K H s τ f' := by
  have : f' = f := funext e
  rw [this]; exact h
theorem SLR.length : ∀ {s : Sl} {τ : L2.St} {f : Fp}, SLR K H s τ f → τ.length = s.length
  | [], τ, f, h => by rw [h.1]; rfl
  | none :: r, τ, f, h => by
    obtain ⟨o, t, e, q⟩ := h
    rw [e, List.length_cons, List.length_cons, SLR.length q]
  | some x :: r, τ, f, h => by
    obtain ⟨v, t, g, l, e, p, q, z⟩ := h
    rw [e, List.length_cons, List.length_cons, SLR.length q]
/-- a slot taken out, and put in again -/
theorem SLR.take : ∀ {s : Sl} {τ : L2.St} {f : Fp} {i : Nat} {x : PV}, SLR K H s τ f → s[i]? = some (some x) →
    ∃ v g h, τ[i]? = some (some v) ∧ Rep K H x v g ∧ SLR K H (s.set i none) τ h ∧ (∀ b, f b = g b + h b)
  | [], τ, f, i, x, h, e => by simp at e
  | none :: r, τ, f, 0, x, h, e => by simp at e
  | none :: r, τ, f, i + 1, x, h, e => by
    obtain ⟨o, t, e1, q⟩ := h
    obtain ⟨v, g, l, h1, h2, h3, h4⟩ := SLR.take (i := i) (x := x) q (by simpa using e)
    exact ⟨v, g, l, by rw [e1]; simpa using h1, h2, ⟨o, t, e1, h3⟩, h4⟩
  | some y :: r, τ, f, 0, x, h, e => by
    obtain ⟨v, t, g, l, e1, p, q, z⟩ := h
    have : y = x := by simpa using e
    subst this
    exact ⟨v, g, l, by rw [e1]; rfl, p, ⟨some v, t, e1, q⟩, z⟩
  | some y :: r, τ, f, i + 1, x, h, e => by
    obtain ⟨v, t, g, l, e1, p, q, z⟩ := h
    obtain ⟨w, g', l', h1, h2, h3, h4⟩ := SLR.take (i := i) (x := x) q (by simpa using e)
    exact ⟨w, g', fun b => g b + l' b, by rw [e1]; simpa using h1, h2, ⟨v, t, g, l', e1, p, h3, fun b => rfl⟩, fun b => by dsimp only; rw [z b, h4 b]; omega⟩
theorem SLR.put : ∀ {s : Sl} {τ : L2.St} {f g : Fp} {i : Nat} {x : PV} {v : V}, SLR K H s τ f → s[i]? = some none → Rep K H x v g →
    SLR K H (s.set i (some x)) (τ.set i (some v)) (fun b => g b + f b)
  | [], τ, f, g, i, x, v, h, e, p => by simp at e
  | none :: r, τ, f, g, 0, x, v, h, e, p => by
    obtain ⟨o, t, e1, q⟩ := h
    exact ⟨v, t, g, f, by rw [e1]; rfl, p, q, fun b => rfl⟩
  | none :: r, τ, f, g, i + 1, x, v, h, e, p => by
    obtain ⟨o, t, e1, q⟩ := h
    exact ⟨o, t.set i (some v), by rw [e1]; rfl, SLR.put q (by simpa using e) p⟩
  | some y :: r, τ, f, g, 0, x, v, h, e, p => by simp at e
  | some y :: r, τ, f, g, i + 1, x, v, h, e, p => by
    obtain ⟨w, t, g', l, e1, p', q, z⟩ := h
    exact ⟨w, t.set i (some v), g', fun b => g b + l b, by rw [e1]; rfl, p', SLR.put q (by simpa using e) p, fun b => by dsimp only; rw [z b]; omega⟩
/-- a slot forgotten -/
theorem SLR.forget : ∀ {s : Sl} {τ : L2.St} {f : Fp} (i : Nat), SLR K H s τ f → ∃ h, SLR K H (s.set i none) τ h ∧ ∀ b, h b ≤ f b
  | [], τ, f, i, h => ⟨f, h, fun b => Nat.le_refl _⟩
  | none :: r, τ, f, 0, h => ⟨f, h, fun b => Nat.le_refl _⟩
  | none :: r, τ, f, i + 1, h => by
    obtain ⟨o, t, e1, q⟩ := h
    obtain ⟨l, h1, h2⟩ := SLR.forget i q
    exact ⟨l, ⟨o, t, e1, h1⟩, h2⟩
  | some y :: r, τ, f, 0, h => by
    obtain ⟨v, t, g, l, e1, p, q, z⟩ := h
    exact ⟨l, ⟨some v, t, e1, q⟩, fun b => by rw [z b]; omega⟩
  | some y :: r, τ, f, i + 1, h => by
    obtain ⟨v, t, g, l, e1, p, q, z⟩ := h
    obtain ⟨l', h1, h2⟩ := SLR.forget i q
    exact ⟨fun b => g b + l' b, ⟨v, t, g, l', e1, p, h1, fun b => rfl⟩, fun b => by dsimp only; rw [z b]; have := h2 b; omega⟩
/-- whatever the place holds that is not told -/
theorem SLR.setNone : ∀ {s : Sl} {τ : L2.St} {f : Fp} {i : Nat} (o : Option V), SLR K H s τ f → s[i]? = some none → SLR K H s (τ.set i o) f
  | [], τ, f, i, o, h, e => by simp at e
  | none :: r, τ, f, 0, o, h, e => by
    obtain ⟨o', t, e1, q⟩ := h
    exact ⟨o, t, by rw [e1]; rfl, q⟩
  | none :: r, τ, f, i + 1, o, h, e => by
    obtain ⟨o', t, e1, q⟩ := h
    exact ⟨o', t.set i o, by rw [e1]; rfl, SLR.setNone o q (by simpa using e)⟩
  | some y :: r, τ, f, 0, o, h, e => by simp at e
  | some y :: r, τ, f, i + 1, o, h, e => by
    obtain ⟨w, t, g', l, e1, p', q, z⟩ := h
    exact ⟨w, t.set i o, g', l, by rw [e1]; rfl, p', SLR.setNone o q (by simpa using e), z⟩
end
end Bv

set_option maxHeartbeats 4000000
namespace Bv
open PySem PySem.Spec PyProof.Rows L2

structure XV where
  cls : Str
  fs : List (Str × PV)

inductive R (α : Type) where
  | ok (a : α) (s : Sl)
  | exc (x : XV) (s : Sl)
  | bad
def R.bind {α β : Type} : R α → (α → Sl → R β) → R β
  | .ok a s, k => k a s
  | .exc x s, _ => .exc x s
  | .bad, _ => .bad
@[simp] theorem R.bind_ok {α β : Type} (a : α) (s : Sl) (k : α → Sl → R β) : (R.ok a s).bind k = k a s := rfl
@[simp] theorem R.bind_exc {α β : Type} (x : XV) (s : Sl) (k : α → Sl → R β) : (R.exc x s : R α).bind k = .exc x s := rfl
@[simp] theorem R.bind_bad {α β : Type} (k : α → Sl → R β) : (R.bad : R α).bind k = .bad := rfl
theorem R.bind_assoc {α β γ : Type} (r : R α) (k : α → Sl → R β) (l : β → Sl → R γ) : (r.bind k).bind l = r.bind fun a s => (k a s).bind l := by cases r <;> rfl
abbrev M (α : Type) := Sl → R α

/-- from H, f owned, to H', f' owned -/
structure Frm (H H' : Hp) (f f' : Fp) : Prop where
  keep : ∀ b o, H b = some o → f b = 0 → H' b = some o
  own : ∀ b o, H b = some o → f b = 0 → f' b = 0
theorem Frm.kept {H H' : Hp} {f f' : Fp} (x : Frm H H' f f') : Kept H H' f := x.keep
theorem Frm.refl {H : Hp} {f f' : Fp} (h : ∀ b, f b = 0 → f' b = 0) : Frm H H f f' := ⟨fun _ _ e _ => e, fun b _ _ e => h b e⟩
theorem Frm.trans {H H1 H2 : Hp} {f h1 f1 f2 f3 : Fp} (a : Frm H H1 f h1) (b : Frm H1 H2 f1 f2) (le : ∀ b, h1 b = 0 → f1 b = 0) (lt : ∀ b, h1 b = 0 → f2 b = 0 → f3 b = 0) : Frm H H2 f f3 :=
  ⟨fun c o e z => b.keep c o (a.keep c o e z) (le c (a.own c o e z)), fun c o e z => lt c (a.own c o e z) (b.own c o (a.keep c o e z) (le c (a.own c o e z)))⟩

def RepF (K : PySem.W.Frag) (H : Hp) : List (Str × PV) → List (Str × V) → Prop
  | [], ws => ws = []
  | (n, x) :: r, ws => ∃ v t, ws = (n, v) :: t ∧ Rep K H x v (fun _ => 0) ∧ RepF K H r t
/-- a raised exception -/
def XRep (K : PySem.W.Frag) (mg : Str → Option Value) (H : Hp) (x : XV) (cls : Value) (d : Option Addr) : Prop :=
  ∃ C dd ws, mg x.cls = some (.ref C) ∧ cls = .ref C ∧ d = some dd ∧ H dd = some (.xd ws) ∧ RepF K H x.fs ws

def XPost (X : Cx) (W : WX) (H : Hp) (f : Fp) (σ : L2.St) (x : XV) (s' : Sl) : Prop :=
  ∀ cls d H' f', XRep X.K X.mg H' x cls d → SLR X.K H' s' σ f' → (∀ b, f' b ≤ 1) → Frm H H' f f' → W cls d σ H'
section
variable {X : Cx} {W : WX} {σ : L2.St} {H H1 : Hp} {f f1 h1 : Fp}
theorem XPost.step {x : XV} {s' : Sl} (p : XPost X W H f σ x s') (fr : Frm H H1 f h1) (le : ∀ b, h1 b = 0 → f1 b = 0) (n : ∀ b o, H b = some o → f b = 0 → h1 b = 0 := fun b o e z => fr.own b o e z) : XPost X W H1 f1 σ x s' :=
  fun cls d H' f' r s l q => p cls d H' f' r s l ⟨fun c o e z => q.keep c o (fr.keep c o e z) (le c (fr.own c o e z)), fun c o e z => q.own c o (fr.keep c o e z) (le c (fr.own c o e z))⟩
end

/-- what is wanted of a result -/
def GP {α β : Type} (ρ : Hp → α → β → Fp → Prop) (X : Cx) (W : WX) (H : Hp) (f : Fp) (σ : L2.St) (Q : β → Hp → Prop) : R α → Prop
  | .ok a s' => ∀ v H' g f', ρ H' a v g → SLR X.K H' s' σ f' → (∀ b, g b + f' b ≤ 1) → Frm H H' f (fun b => g b + f' b) → Q v H'
  | .exc x s' => XPost X W H f σ x s'
  | .bad => False
def rdG {α β : Type} (ρ : Hp → α → β → Fp → Prop) (X : Cx) (W : WX) (m : M α) : L2.St → Hp → (β → Hp → Prop) → Prop :=
  fun σ H Q => ∃ s f, SLR X.K H s σ f ∧ (∀ b, f b ≤ 1) ∧ GP ρ X W H f σ Q (m s)

theorem GP.mono {α β : Type} {ρ : Hp → α → β → Fp → Prop} {X : Cx} {W : WX} {H : Hp} {f : Fp} {σ : L2.St} {Q Q' : β → Hp → Prop} {r : R α} (h : GP ρ X W H f σ Q r) (i : ∀ v H', Q v H' → Q' v H') : GP ρ X W H f σ Q' r := by
  cases r with
  | ok a s' => exact fun v H' g f' h1 h2 h3 h4 => i _ _ (h v H' g f' h1 h2 h3 h4)
  | exc x s' => exact h
  | bad => exact h

/-- the relation is kept where nothing that it leans on changes; what it owns stands there -/
structure Stable {α β : Type} (ρ : Hp → α → β → Fp → Prop) : Prop where
  kept : ∀ H H' F a v g, Kept H H' F → (∀ b, F b ≠ 0 → MutA H b) → (∀ b, g b ≠ 0 → F b = 0) → ρ H a v g → ρ H' a v g
  live : ∀ H a v g b, ρ H a v g → g b ≠ 0 → MutA H b
theorem stable_rep (K : PySem.W.Frag) : Stable (Rep K) := ⟨fun _ _ _ _ _ _ k m d h => Rep.kept k m d h, fun _ _ _ _ _ h n => h.mut n⟩
theorem stable_reps (K : PySem.W.Frag) : Stable (Reps K) := ⟨fun _ _ _ _ _ _ k m d h => Reps.kept k m d h, fun _ _ _ _ _ h n => h.mut n⟩

/-- THE STEP: what follows the first part -/
theorem rdG.bind {α β α' β' : Type} {ρ : Hp → α → β → Fp → Prop} {ρ' : Hp → α' → β' → Fp → Prop} {X : Cx} {W : WX} {m : M α} {k : α → Sl → R α'} {σ : L2.St} {H : Hp} {Q : β' → Hp → Prop} {Q1 : β → Hp → Prop}
    (h : rdG ρ' X W (fun s => (m s).bind k) σ H Q)
    (hk : ∀ f a s1 v H1 g f1, (∀ b, f b ≤ 1) → ρ H1 a v g → SLR X.K H1 s1 σ f1 → (∀ b, g b + f1 b ≤ 1) → Frm H H1 f (fun b => g b + f1 b) → GP ρ' X W H f σ Q (k a s1) → Q1 v H1) : rdG ρ X W m σ H Q1 := by
  obtain ⟨s, f, h1, h2, h3⟩ := h
  refine ⟨s, f, h1, h2, ?_⟩
  dsimp only at h3
  cases e : m s with
  | ok a s1 =>
    rw [e] at h3
    exact fun v H' g f' p q r t => hk f a s1 v H' g f' h2 p q r t h3
  | exc x s1 => rw [e] at h3; exact h3
  | bad => rw [e] at h3; exact h3
/-- .. and a second part, the first one's value at hand -/
theorem rdG.next {α β α1 β1 α' β' : Type} {ρ1 : Hp → α1 → β1 → Fp → Prop} {ρ : Hp → α → β → Fp → Prop} {ρ' : Hp → α' → β' → Fp → Prop} {X : Cx} {W : WX} {m : M α} {k : α → Sl → R α'} {σ : L2.St} {H H1 : Hp} {Q : β' → Hp → Prop} {Q1 : β → Hp → Prop}
    {f f1 g1 : Fp} {s1 : Sl} {a1 : α1} {v1 : β1} (st : Stable ρ1) (r1 : ρ1 H1 a1 v1 g1) (hs : SLR X.K H1 s1 σ f1) (le : ∀ b, g1 b + f1 b ≤ 1) (fr : Frm H H1 f (fun b => g1 b + f1 b)) (h : GP ρ' X W H f σ Q ((m s1).bind k))
    (hk : ∀ a s2 v H2 g f2, ρ1 H2 a1 v1 g1 → ρ H2 a v g → SLR X.K H2 s2 σ f2 → (∀ b, g1 b + g b + f2 b ≤ 1) → Frm H H2 f (fun b => g1 b + g b + f2 b) → GP ρ' X W H f σ Q (k a s2) → Q1 v H2) : rdG ρ X W m σ H1 Q1 := by
  have le1 : ∀ b, f1 b ≤ 1 := fun b => by have := le b; omega
  refine ⟨s1, f1, hs, le1, ?_⟩
  have z1 : ∀ b, g1 b + f1 b = 0 → f1 b = 0 := fun b h => by omega
  cases e : m s1 with
  | ok a s2 =>
    rw [e] at h
    intro v H2 g f2 p q r t
    have dj : ∀ b, g1 b ≠ 0 → f1 b = 0 := fun b h => by have := le b; omega
    refine hk a s2 v H2 g f2 (st.kept H1 H2 f1 a1 v1 g1 t.kept (fun b => hs.mut) dj r1) p q (fun b => ?_) ?_ h
    · have z := r b
      by_cases hb : g1 b = 0
      · omega
      · have y := le b
        obtain ⟨o, ho, _⟩ := st.live _ _ _ _ b r1 hb
        have y2 : g b + f2 b = 0 := t.own b o ho (dj b hb)
        omega
    · exact ⟨fun c o e z => t.keep c o (fr.keep c o e z) (z1 c (fr.own c o e z)), fun c o e z => by
        have y1 := fr.own c o e z
        have y2 := t.own c o (fr.keep c o e z) (z1 c y1)
        have y1' : g1 c + f1 c = 0 := y1
        have y2' : g c + f2 c = 0 := y2
        show g1 c + g c + f2 c = 0
        omega⟩
  | exc x s2 =>
    rw [e] at h
    exact XPost.step h fr z1
  | bad => rw [e] at h; exact h
end Bv

set_option maxHeartbeats 4000000
namespace Bv
open PySem PySem.Spec PyProof.Rows L2

/-! ### the judgement of an expression -/
def SE (X : Cx) (W : WX) (e : Expr) (m : M PV) : Prop := PE X e (rdG (Rep X.K) X W m)

theorem PE.weaken {X : Cx} {e : Expr} {t t' : TE} (h : PE X e t) (w : ∀ σ H Q, t' σ H Q → t σ H Q) : PE X e t' := ⟨fun pins s σ H Q I q => h.run pins s σ H Q I (w σ H Q q)⟩
theorem PT.weaken {X : Cx} {e : Expr} {t t' : TT} (h : PT X e t) (w : ∀ σ H Q, t' σ H Q → t σ H Q) : PT X e t' := ⟨fun pins s σ H Q I q => h.run pins s σ H Q I (w σ H Q q)⟩
theorem PA.weaken {X : Cx} {e : List Expr} {t t' : TA} (h : PA X e t) (w : ∀ σ H Q, t' σ H Q → t σ H Q) : PA X e t' := ⟨fun pos pins s σ H Q I q => h.run pos pins s σ H Q I (w σ H Q q)⟩
theorem PS.weaken {X : Cx} {e : Stmt} {t t' : TS} (h : PS X e t) (w : ∀ σ H D, t' D σ H → t D σ H) : PS X e t' := ⟨fun pins s σ H D I q => h.run pins s σ H D I (w σ H D q)⟩
theorem PSs.weaken {X : Cx} {e : List Stmt} {t t' : TS} (h : PSs X e t) (w : ∀ σ H D, t' D σ H → t D σ H) : PSs X e t' := ⟨fun pins s σ H D I q => h.run pins s σ H D I (w σ H D q)⟩

/-! ### operands: a variable is looked at when the operation is done -/
inductive Pnd where
  | loc (i : Nat)
  | val (x : PV)
def Pnd.get (s : Sl) : Pnd → Option PV
  | .loc i => s[i]?.join
  | .val x => some x
def PRep (K : PySem.W.Frag) (σ : L2.St) (H : Hp) : Pnd → V → Fp → Prop
  | .loc i, v, g => σ[i]? = some (some v) ∧ ∀ b, g b = 0
  | .val x, v, g => Rep K H x v g
theorem stable_prep (K : PySem.W.Frag) (σ : L2.St) : Stable (PRep K σ) := ⟨fun H H' F a v g k m d h => by
  cases a with
  | loc i => exact h
  | val x => exact Rep.kept k m d (show Rep K H x v g from h), fun H a v g b h n => by
  cases a with
  | loc i => exact absurd (h.2 b) n
  | val x => exact Rep.mut (show Rep K H x v g from h) n⟩
def PReps (K : PySem.W.Frag) (σ : L2.St) (H : Hp) : List Pnd → List V → Fp → Prop
  | [], vs, f => vs = [] ∧ ∀ b, f b = 0
  | p :: ps, vs, f => ∃ v ws g h, vs = v :: ws ∧ PRep K σ H p v g ∧ PReps K σ H ps ws h ∧ ∀ b, f b = g b + h b
theorem PReps.congr {K : PySem.W.Frag} {σ : L2.St} {H : Hp} {x : List Pnd} {v : List V} {f f' : Fp} (e : ∀ b, f' b = f b) (h : PReps K σ H x v f) : PReps K σ H x v f' := by
  have : f' = f := funext e
  rw [this]; exact h
def SO (X : Cx) (W : WX) (e : Expr) (o : M Pnd) : Prop := PE X e (fun σ H Q => rdG (PRep X.K σ) X W o σ H Q)
def SA (X : Cx) (W : WX) (es : List Expr) (o : M (List Pnd)) : Prop := PA X es (fun σ H Q => rdG (PReps X.K σ) X W o σ H Q)

def oB (i : Nat) : M Pnd := fun s => .ok (.loc i) s
def oE (m : M PV) : M Pnd := fun s => (m s).bind fun x s' => .ok (.val x) s'
def oNil : M (List Pnd) := fun s => .ok [] s
def oCons (o : M Pnd) (os : M (List Pnd)) : M (List Pnd) := fun s => (o s).bind fun p s1 => (os s1).bind fun ps s2 => .ok (p :: ps) s2

section
variable {X : Cx} {W : WX} {e : Expr} {es : List Expr}
/-- a name, looked at later. The slot must be told now -/
theorem so_B (i : Nat) {x : Str} {pos : Pos} (h : PE X (.Name x pos) (tVar i)) : SO X W (.Name x pos) (fun s => match s[i]? with | some (some _) => oB i s | _ => .bad) := PE.weaken h fun σ H Q q => by
  obtain ⟨s, f, h1, h2, h3⟩ := q
  dsimp only at h3
  split at h3
  · rename_i x' e1
    obtain ⟨v, g, l, k1, k2, k3, k4⟩ := h1.take e1
    refine ⟨v, k1, h3 v H (fun _ => 0) f ⟨k1, fun _ => rfl⟩ h1 (fun b => by have := h2 b; omega) (Frm.refl fun b z => by omega)⟩
  · exact h3.elim
theorem so_E {m : M PV} (h : SE X W e m) : SO X W e (oE m) := PE.weaken h fun σ H Q q => rdG.bind q fun f a s1 v H1 g f1 h0 h1 h2 h3 h4 h5 => h5 v H1 g f1 h1 h2 h3 h4
theorem sa_nil : SA X W [] oNil := PA.weaken pa_nil fun σ H Q q => by
  obtain ⟨s, f, h1, h2, h3⟩ := q
  exact h3 [] H (fun _ => 0) f ⟨rfl, fun _ => rfl⟩ h1 (fun b => by have := h2 b; omega) (Frm.refl fun b z => by omega)
theorem sa_cons {o : M Pnd} {os : M (List Pnd)} (h : SO X W e o) (hs : SA X W es os) (hst : starEach (e :: es) X.env = (false, eval e X.env) :: starEach es X.env := by rfl) : SA X W (e :: es) (oCons o os) :=
  PA.weaken (pa_cons h hs hst) fun σ H Q q => by
    refine rdG.bind (ρ := PRep X.K σ) q fun f a s1 v H1 g f1 h0 h1 h2 h3 h4 h5 => ?_
    refine rdG.next (ρ := PReps X.K σ) (stable_prep X.K σ) h1 h2 h3 h4 h5 fun ps s2 vs H2 g2 f2 k1 k2 k3 k4 k5 k6 => ?_
    exact k6 (v :: vs) H2 (fun b => g b + g2 b) f2 ⟨v, vs, g, g2, rfl, k1, k2, fun _ => rfl⟩ k3 (fun b => by have := k4 b; omega) k5
end

/-! ### what the operands are worth -/
/-- the values, whatever owns what -/
def RW (K : PySem.W.Frag) (H : Hp) : List PV → List V → Prop
  | [], vs => vs = []
  | x :: xs, vs => ∃ v ws g, vs = v :: ws ∧ Rep K H x v g ∧ RW K H xs ws
def Pnd.gets (s : Sl) : List Pnd → Option (List PV)
  | [] => some []
  | p :: ps => match p.get s, Pnd.gets s ps with
    | some x, some xs => some (x :: xs)
    | _, _ => none
theorem gets_rep {K : PySem.W.Frag} {σ : L2.St} {H : Hp} {s : Sl} {f : Fp} (hs : SLR K H s σ f) : ∀ {ps : List Pnd} {vs : List V} {g : Fp} {xs : List PV}, PReps K σ H ps vs g → Pnd.gets s ps = some xs → RW K H xs vs
  | [], vs, g, xs, h, e => by
    cases (Option.some.inj e)
    exact h.1
  | p :: ps, vs, g, xs, h, e => by
    obtain ⟨v, ws, g1, g2, e1, hp, hr, _⟩ := h
    unfold Pnd.gets at e
    cases e2 : p.get s with
    | none => rw [e2] at e; cases e
    | some x =>
      cases e3 : Pnd.gets s ps with
      | none => rw [e2, e3] at e; cases e
      | some ys =>
        rw [e2, e3] at e
        cases (Option.some.inj e)
        have ih := gets_rep hs hr e3
        cases p with
        | val y =>
          cases (Option.some.inj e2)
          exact ⟨v, ws, g1, e1, hp, ih⟩
        | loc i =>
          have e4 : s[i]? = some (some x) := by
            have e2 : s[i]?.join = some x := e2
            cases e5 : s[i]? with
            | none => rw [e5] at e2; cases e2
            | some o =>
              rw [e5] at e2
              have : o = some x := e2
              rw [this]
          obtain ⟨v', g', h', k1, k2, _⟩ := hs.take e4
          have : v' = v := by
            have := k1.symm.trans hp.1
            simpa using this
          subst this
          exact ⟨v', ws, g', e1, k2, ih⟩

/-- new things alone -/
structure Fresh (H H' : Hp) (g : Fp) : Prop where
  keep : ∀ b o, H b = some o → H' b = some o
  le : ∀ b, g b ≤ 1
  new : ∀ b, g b ≠ 0 → H b = none
theorem Fresh.refl {H : Hp} {g : Fp} (h : ∀ b, g b = 0) : Fresh H H g := ⟨fun _ _ e => e, fun b => by rw [h b]; omega, fun b n => absurd (h b) n⟩
theorem Fresh.upd {H : Hp} {a : Addr} {o : HO} (h : H a = none) {g : Fp} (hg : ∀ b, g b ≤ one a b) : Fresh H (upd H a o) g :=
  ⟨fun b u e => by rw [upd_ne (ne_of_none e h)]; exact e, fun b => Nat.le_trans (hg b) (by unfold one; split <;> omega), fun b n => by
    by_cases hb : b = a
    · rw [hb]; exact h
    · have := hg b
      rw [one_ne hb] at this
      omega⟩
/-- an operation on values: from their places vs the result's -/
def VOp (K : PySem.W.Frag) (f : List PV → Option PV) (r : List V → Hp → VK → Prop) : Prop :=
  ∀ H xs vs z Q, RW K H xs vs → f xs = some z → (∀ v H' g, Rep K H' z v g → Fresh H H' g → Q v H') → r vs H Q
def mOp (f : List PV → Option PV) (os : M (List Pnd)) : M PV := fun s => (os s).bind fun ps s' => match Pnd.gets s' ps with
  | some xs => match f xs with | some z => .ok z s' | none => .bad
  | none => .bad

section
variable {X : Cx} {W : WX} {e a b c : Expr} {es : List Expr} {pos : Pos}
/-- behind the operands -/
theorem op_end {f : List PV → Option PV} {r : List V → Hp → VK → Prop} (vo : VOp X.K f r) {σ : L2.St} {H H1 : Hp} {F g f1 : Fp} {ps : List Pnd} {s1 : Sl} {vs : List V} {Q : VK}
    (h1 : PReps X.K σ H1 ps vs g) (h2 : SLR X.K H1 s1 σ f1) (h3 : ∀ b, g b + f1 b ≤ 1) (h4 : Frm H H1 F (fun b => g b + f1 b))
    (h5 : GP (Rep X.K) X W H F σ Q (match Pnd.gets s1 ps with | some xs => (match f xs with | some z => R.ok z s1 | none => .bad) | none => .bad)) : r vs H1 Q := by
  cases e1 : Pnd.gets s1 ps with
  | none => rw [e1] at h5; exact h5.elim
  | some xs =>
    rw [e1] at h5
    dsimp only at h5
    cases e2 : f xs with
    | none => rw [e2] at h5; exact h5.elim
    | some z =>
      rw [e2] at h5
      refine vo H1 xs vs z Q (gets_rep h2 h1 e1) e2 fun v H' gz hz fr => ?_
      have live : ∀ b, f1 b ≠ 0 → H1 b ≠ none := fun b n e => by
        obtain ⟨o, ho, _⟩ := h2.mut n
        rw [e] at ho; cases ho
      refine h5 v H' gz f1 hz (h2.kept (F := fun _ => 0) (fun b o e _ => fr.keep b o e) (fun b n => absurd rfl n) (fun b _ => rfl)) (fun b => ?_) ⟨fun b o e z => fr.keep b o (h4.keep b o e z), fun b o e z => ?_⟩
      · by_cases hb : gz b = 0
        · have := h3 b; omega
        · have n := fr.new b hb
          have := fr.le b
          by_cases hf : f1 b = 0
          · omega
          · exact absurd n (live b hf)
      · have y : g b + f1 b = 0 := h4.own b o e z
        have : gz b = 0 := by
          refine Classical.byContradiction fun hb => ?_
          have n := fr.new b hb
          rw [h4.keep b o e z] at n
          cases n
        show gz b + f1 b = 0
        omega
/-- the operands of a row of readings -/
theorem ops2 {oa ob : M Pnd} {σ : L2.St} {H : Hp} {m : List Pnd → Sl → R PV} {Q : VK} {Q' : List V → Hp → Prop}
    (q : rdG (Rep X.K) X W (fun s => ((oCons oa (oCons ob oNil)) s).bind m) σ H Q)
    (hk : ∀ f a s1 v H1 g f1, (∀ b, f b ≤ 1) → PReps X.K σ H1 a v g → SLR X.K H1 s1 σ f1 → (∀ b, g b + f1 b ≤ 1) → Frm H H1 f (fun b => g b + f1 b) → GP (Rep X.K) X W H f σ Q (m a s1) → Q' v H1) :
    rdG (PRep X.K σ) X W oa σ H (fun x H1 => rdG (PRep X.K σ) X W ob σ H1 (fun y H2 => Q' [x, y] H2)) := by
  have q' : rdG (Rep X.K) X W (fun s => (oa s).bind fun p1 s1 => (ob s1).bind fun p2 s2 => m [p1, p2] s2) σ H Q := by
    have e : (fun s => ((oCons oa (oCons ob oNil)) s).bind m) = (fun s => (oa s).bind fun p1 s1 => (ob s1).bind fun p2 s2 => m [p1, p2] s2) := by
      funext s
      simp only [oCons, oNil, R.bind_assoc, R.bind_ok]
    rw [← e]; exact q
  refine rdG.bind (ρ := PRep X.K σ) q' fun f a s1 v H1 g f1 h0 h1 h2 h3 h4 h5 => ?_
  refine rdG.next (ρ := PRep X.K σ) (stable_prep X.K σ) h1 h2 h3 h4 h5 fun p2 s2 v2 H2 g2 f2 k1 k2 k3 k4 k5 k6 => ?_
  exact hk f [a, p2] s2 [v, v2] H2 (fun b => g b + g2 b) f2 h0 ⟨v, [v2], g, g2, rfl, k1, ⟨v2, [], g2, fun _ => 0, rfl, k2, ⟨rfl, fun _ => rfl⟩, fun b => rfl⟩, fun b => rfl⟩ k3 k4 k5 k6
theorem ops1 {oa : M Pnd} {σ : L2.St} {H : Hp} {m : List Pnd → Sl → R PV} {Q : VK} {Q' : List V → Hp → Prop}
    (q : rdG (Rep X.K) X W (fun s => ((oCons oa oNil) s).bind m) σ H Q)
    (hk : ∀ f a s1 v H1 g f1, (∀ b, f b ≤ 1) → PReps X.K σ H1 a v g → SLR X.K H1 s1 σ f1 → (∀ b, g b + f1 b ≤ 1) → Frm H H1 f (fun b => g b + f1 b) → GP (Rep X.K) X W H f σ Q (m a s1) → Q' v H1) :
    rdG (PRep X.K σ) X W oa σ H (fun x H1 => Q' [x] H1) := by
  have q' : rdG (Rep X.K) X W (fun s => (oa s).bind fun p1 s1 => m [p1] s1) σ H Q := by
    have e : (fun s => ((oCons oa oNil) s).bind m) = (fun s => (oa s).bind fun p1 s1 => m [p1] s1) := by
      funext s
      simp only [oCons, oNil, R.bind_assoc, R.bind_ok]
    rw [← e]; exact q
  refine rdG.bind (ρ := PRep X.K σ) q' fun f a s1 v H1 g f1 h0 h1 h2 h3 h4 h5 => ?_
  exact hk f [a] s1 [v] H1 g f1 h0 ⟨v, [], g, fun _ => 0, rfl, h1, ⟨rfl, fun _ => rfl⟩, fun b => rfl⟩ h2 h3 h4 h5
def r2L (r : R2) : List V → Hp → VK → Prop := fun vs H Q => ∃ x y, vs = [x, y] ∧ r x y H Q
def r1L (r : V → Hp → VK → Prop) : List V → Hp → VK → Prop := fun vs H Q => ∃ x, vs = [x] ∧ r x H Q
theorem se_t2 {t : TE → TE → TE} {r : R2} {f : List PV → Option PV} {oa ob : M Pnd} (hp : ∀ {ta tb : TE}, PE X a ta → PE X b tb → PE X e (tOp r ta tb)) (vo : VOp X.K f (r2L r)) (ha : SO X W a oa) (hb : SO X W b ob) : SE X W e (mOp f (oCons oa (oCons ob oNil))) :=
  PE.weaken (hp ha hb) fun σ H Q q => ops2 (Q' := fun vs H2 => ∃ x y, vs = [x, y] ∧ r x y H2 Q) q (fun F ps s1 vs H1 g f1 _ h1 h2 h3 h4 h5 => op_end (r := r2L r) vo h1 h2 h3 h4 h5) |> fun z => by
    obtain ⟨s, f', z1, z2, z3⟩ := z
    refine ⟨s, f', z1, z2, z3.mono fun v H1 q1 => ?_⟩
    obtain ⟨s', f'', w1, w2, w3⟩ := q1
    refine ⟨s', f'', w1, w2, w3.mono fun v2 H2 q2 => ?_⟩
    obtain ⟨x, y, e1, q3⟩ := q2
    cases e1
    exact q3
theorem se_op2 {op : Operator} {r : R2} {f : List PV → Option PV} {oa ob : M Pnd} (ho : OpR X (binaryOp op) r) (vo : VOp X.K f (r2L r)) (ha : SO X W a oa) (hb : SO X W b ob) : SE X W (.BinOp a op b pos) (mOp f (oCons oa (oCons ob oNil))) :=
  se_t2 (t := fun x _ => x) (pe_op ho) vo ha hb
theorem se_cmp {op : CmpOp} {r : R2} {f : List PV → Option PV} {oa ob : M Pnd} (ho : OpR X (compareOp op) r) (vo : VOp X.K f (r2L r)) (ha : SO X W a oa) (hb : SO X W b ob) (hm : behindInMarks op b = false) : SE X W (.Compare a [op] [b] pos) (mOp f (oCons oa (oCons ob oNil))) :=
  se_t2 (t := fun x _ => x) (fun ha hb => pe_cmpR ho ha hb hm) vo ha hb
theorem se_ix {r : R2} {f : List PV → Option PV} {oa ob : M Pnd} (ho : IxR X r) (vo : VOp X.K f (r2L r)) (ha : SO X W a oa) (hb : SO X W b ob) (hs : PlainIx b) : SE X W (.Subscript a b pos) (mOp f (oCons oa (oCons ob oNil))) :=
  se_t2 (t := fun x _ => x) (fun ha hb => pe_ix ho ha hb hs) vo ha hb
/-- a built-in function called -/
theorem se_blt {x : Str} {p : Pos} {id : String} {r : List V → Hp → VK → Prop} {f : List PV → Option PV} {os : M (List Pnd)} (hc : CallR X (.builtin id) r) (vo : VOp X.K f r) (hg : Gl X x) (hm : X.mg x = none) (hv : bootBuiltins x = some (.builtin id)) (ha : SA X W (e :: es) os)
    (hn : x ≠ "__name__" := by decide) (hdb : (x == ("__debug__" : Str)) = false := by decide)
    (he : starEach (e :: es) X.env = (false, eval e X.env) :: starEach es X.env := by rfl) (hpl : (backTo pos (starEach es X.env)).any (·.1) = false := by rfl) : SE X W (.Call (.Name x p) (e :: es) [] pos) (mOp f os) :=
  PE.weaken (pe_callB hc hg hm hv ha hn hdb he hpl) fun σ H Q q => rdG.bind (ρ := PReps X.K σ) q fun F ps s1 vs H1 g f1 _ h1 h2 h3 h4 h5 => op_end vo h1 h2 h3 h4 h5
theorem se_bty {x : Str} {p : Pos} {T : String} {r : List V → Hp → VK → Prop} {f : List PV → Option PV} {os : M (List Pnd)} (hc : CallR X (.type T) r) (vo : VOp X.K f r) (hg : Gl X x) (hm : X.mg x = none) (hv : bootBuiltins x = some (.type T)) (ha : SA X W (e :: es) os)
    (hn : x ≠ "__name__" := by decide) (hdb : (x == ("__debug__" : Str)) = false := by decide)
    (he : starEach (e :: es) X.env = (false, eval e X.env) :: starEach es X.env := by rfl) (hpl : (backTo pos (starEach es X.env)).any (·.1) = false := by rfl) : SE X W (.Call (.Name x p) (e :: es) [] pos) (mOp f os) :=
  PE.weaken (pe_callTy hc hg hm hv ha hn hdb he hpl) fun σ H Q q => rdG.bind (ρ := PReps X.K σ) q fun F ps s1 vs H1 g f1 _ h1 h2 h3 h4 h5 => op_end vo h1 h2 h3 h4 h5
end
end Bv

set_option maxHeartbeats 4000000
namespace Bv
open PySem PySem.Spec PyProof.Rows L2

abbrev Z0 : Fp := fun _ => 0
section
variable {K : PySem.W.Frag} {H H' : Hp}
theorem Rep.zero {x : PV} {v : V} {g : Fp} (h : Rep K H x v g) (n : x.own = false) : Rep K H x v Z0 := h.congr fun b => (h.free n b).symm
theorem owns_mem : ∀ {xs : List PV} {x : PV}, PV.owns xs = false → x ∈ xs → x.own = false
  | y :: r, x, h, m => by
    simp only [PV.owns, Bool.or_eq_false_iff] at h
    rcases List.mem_cons.mp m with rfl | m
    · exact h.1
    · exact owns_mem h.2 m
theorem owns_of : ∀ {xs : List PV}, (∀ x ∈ xs, x.own = false) → PV.owns xs = false
  | [], _ => rfl
  | y :: r, h => by
    simp only [PV.owns, Bool.or_eq_false_iff]
    exact ⟨h y List.mem_cons_self, owns_of fun x m => h x (List.mem_cons_of_mem _ m)⟩
theorem owns_iff {xs : List PV} : PV.owns xs = false ↔ ∀ x ∈ xs, x.own = false := ⟨fun h x m => owns_mem h m, owns_of⟩

/-- a row of values without owned parts -/
structure Seq0 (K : PySem.W.Frag) (H : Hp) (xs : List PV) (vs : List V) : Prop where
  len : vs.length = xs.length
  at' : ∀ (i : Nat) (x : PV) (v : V), xs[i]? = some x → vs[i]? = some v → Rep K H x v Z0
theorem Reps.get : ∀ {xs : List PV} {vs : List V} {f : Fp}, Reps K H xs vs f → ∀ (i : Nat) (x : PV) (v : V), xs[i]? = some x → vs[i]? = some v → ∃ g, Rep K H x v g ∧ ∀ b, g b ≤ f b
  | [], vs, f, h, i, x, v, e, _ => by simp at e
  | y :: r, vs, f, h, 0, x, v, e1, e2 => by
    obtain ⟨w, ws, g, l, e, p, q, z⟩ := h
    subst e
    simp at e1 e2
    subst e1 e2
    exact ⟨g, p, fun b => by rw [z b]; omega⟩
  | y :: r, vs, f, h, i + 1, x, v, e1, e2 => by
    obtain ⟨w, ws, g, l, e, p, q, z⟩ := h
    subst e
    obtain ⟨g', p', z'⟩ := Reps.get q i x v (by simpa using e1) (by simpa using e2)
    exact ⟨g', p', fun b => by rw [z b]; have := z' b; omega⟩
theorem Reps.seq {xs : List PV} {vs : List V} {f : Fp} (h : Reps K H xs vs f) (n : PV.owns xs = false) : Seq0 K H xs vs := ⟨h.length, fun i x v e1 e2 => by
  obtain ⟨g, p, _⟩ := h.get i x v e1 e2
  exact p.zero (owns_mem n (List.mem_of_getElem? e1))⟩
theorem Seq0.reps : ∀ {xs : List PV} {vs : List V}, Seq0 K H xs vs → Reps K H xs vs Z0
  | [], vs, h => ⟨List.length_eq_zero_iff.mp h.len, fun _ => rfl⟩
  | x :: r, [], h => by have := h.len; simp at this
  | x :: r, v :: ws, h => ⟨v, ws, Z0, Z0, rfl, h.at' 0 x v rfl rfl, Seq0.reps ⟨by have := h.len; simpa using this, fun i y w e1 e2 => h.at' (i + 1) y w (by simpa using e1) (by simpa using e2)⟩, fun _ => rfl⟩
theorem Seq0.append {xs ys : List PV} {vs ws : List V} (a : Seq0 K H xs vs) (b : Seq0 K H ys ws) : Seq0 K H (xs ++ ys) (vs ++ ws) := ⟨by rw [List.length_append, List.length_append, a.len, b.len], fun i x v e1 e2 => by
  by_cases hi : i < xs.length
  · rw [List.getElem?_append_left hi] at e1
    rw [List.getElem?_append_left (by rw [a.len]; exact hi)] at e2
    exact a.at' i x v e1 e2
  · rw [List.getElem?_append_right (by omega)] at e1
    rw [List.getElem?_append_right (by rw [a.len]; omega), a.len] at e2
    exact b.at' _ x v e1 e2⟩
theorem Seq0.drop {xs : List PV} {vs : List V} (a : Seq0 K H xs vs) (n : Nat) : Seq0 K H (xs.drop n) (vs.drop n) := ⟨by rw [List.length_drop, List.length_drop, a.len], fun i x v e1 e2 => by
  rw [List.getElem?_drop] at e1 e2
  exact a.at' _ x v e1 e2⟩
theorem Seq0.take {xs : List PV} {vs : List V} (a : Seq0 K H xs vs) (n : Nat) : Seq0 K H (xs.take n) (vs.take n) := ⟨by rw [List.length_take, List.length_take, a.len], fun i x v e1 e2 => by
  rw [List.getElem?_take] at e1 e2
  split at e1
  · rename_i h
    rw [if_pos h] at e2
    exact a.at' _ x v e1 e2
  · cases e1⟩
theorem Seq0.reverse {xs : List PV} {vs : List V} (a : Seq0 K H xs vs) : Seq0 K H xs.reverse vs.reverse := ⟨by rw [List.length_reverse, List.length_reverse, a.len], fun i x v e1 e2 => by
  have hi : i < xs.length := by
    have := (List.getElem?_eq_some_iff.mp e1).1
    simpa using this
  rw [List.getElem?_reverse hi] at e1
  rw [List.getElem?_reverse (by rw [a.len]; exact hi), a.len] at e2
  exact a.at' _ x v e1 e2⟩
theorem Seq0.kept {xs : List PV} {vs : List V} (a : Seq0 K H xs vs) (k : ∀ b o, H b = some o → H' b = some o) : Seq0 K H' xs vs := ⟨a.len, fun i x v e1 e2 => (a.at' i x v e1 e2).kept (F := Z0) (fun b o e _ => k b o e) (fun b n => absurd rfl n) (fun b n => absurd rfl n)⟩
theorem Seq0.flat : ∀ {xs : List PV} {vs : List V} (n : Nat), Seq0 K H xs vs → Seq0 K H (List.replicate n xs).flatten (List.replicate n vs).flatten
  | xs, vs, 0, a => ⟨rfl, fun i x v e1 _ => by simp at e1⟩
  | xs, vs, n + 1, a => by
    rw [List.replicate_succ, List.replicate_succ, List.flatten_cons, List.flatten_cons]
    exact a.append (Seq0.flat n a)
theorem owns_append {xs ys : List PV} : PV.owns (xs ++ ys) = (PV.owns xs || PV.owns ys) := by
  induction xs with
  | nil => simp [PV.owns]
  | cons x r ih => simp [PV.owns, ih, Bool.or_assoc]

theorem keep_upd {p : Addr} {o : HO} (np : H p = none) : ∀ b u, H b = some u → upd H p o b = some u := fun b u e => by rw [upd_ne (ne_of_none e np)]; exact e
/-- a new tuple, a new list -/
theorem newTup {xs : List PV} {vs : List V} {p : Addr} (a : Seq0 K H xs vs) (hz : xs.length ≤ sizeLine) (np : H p = none) : Rep K (upd H p (.tup vs)) (.tup xs) (.ref p) Z0 ∧ Fresh H (upd H p (.tup vs)) Z0 :=
  ⟨⟨p, vs, rfl, SqT.of upd_same, hz, (a.kept (keep_upd np)).reps⟩, Fresh.upd np fun b => Nat.zero_le _⟩
theorem newLst {xs : List PV} {vs : List V} {p : Addr} (a : Seq0 K H xs vs) (hz : xs.length ≤ sizeLine) (np : H p = none) : Rep K (upd H p (.lst vs)) (.lst true xs) (.ref p) (one p) ∧ Fresh H (upd H p (.lst vs)) (one p) :=
  ⟨⟨p, vs, Z0, rfl, upd_same, hz, (a.kept (keep_upd np)).reps, fun b => by simp⟩, Fresh.upd np fun b => Nat.le_refl _⟩

theorem rw1 {x : PV} {vs : List V} (h : RW K H [x] vs) : ∃ v g, vs = [v] ∧ Rep K H x v g := by
  obtain ⟨v, ws, g, rfl, r, e⟩ := h
  have e : ws = [] := e
  subst e
  exact ⟨v, g, rfl, r⟩
theorem rw2 {x y : PV} {vs : List V} (h : RW K H [x, y] vs) : ∃ v w g k, vs = [v, w] ∧ Rep K H x v g ∧ Rep K H y w k := by
  obtain ⟨v, ws, g, rfl, r, e⟩ := h
  obtain ⟨w, k, rfl, r2⟩ := rw1 e
  exact ⟨v, w, g, k, rfl, r, r2⟩
theorem rw3 {x y z : PV} {vs : List V} (h : RW K H [x, y, z] vs) : ∃ v w u g k l, vs = [v, w, u] ∧ Rep K H x v g ∧ Rep K H y w k ∧ Rep K H z u l := by
  obtain ⟨v, ws, g, rfl, r, e⟩ := h
  obtain ⟨w, u, k, l, rfl, r2, r3⟩ := rw2 e
  exact ⟨v, w, u, g, k, l, rfl, r, r2, r3⟩
theorem fr0 (H : Hp) : Fresh H H Z0 := Fresh.refl fun _ => rfl
theorem rep_int {i : Int} : Rep K H (.int i) (.int i) Z0 := ⟨rfl, fun _ => rfl⟩
theorem rep_bl {i : Bool} : Rep K H (.bl i) (.bl i) Z0 := ⟨rfl, fun _ => rfl⟩
theorem rep_str {i : Str} : Rep K H (.str i) (.str i) Z0 := ⟨rfl, fun _ => rfl⟩
theorem rep_non : Rep K H .non .non Z0 := ⟨rfl, fun _ => rfl⟩

/-- a sequence's items, whoever owns it -/
theorem Rep.lstAt {o : Bool} {xs : List PV} {v : V} {g : Fp} (h : Rep K H (.lst o xs) v g) : ∃ a vs g', v = .ref a ∧ SqL K H a vs ∧ xs.length ≤ sizeLine ∧ Reps K H xs vs g' := by
  cases o with
  | true =>
    obtain ⟨a, vs, g', rfl, e, z, r, _⟩ := h
    exact ⟨a, vs, g', rfl, SqL.of e, z, r⟩
  | false =>
    obtain ⟨a, vs, rfl, e, z, r, _⟩ := h
    rcases e with ⟨o, e⟩ | e
    · exact ⟨a, vs, g, rfl, .inl (.inr ⟨o, e⟩), z, r⟩
    · exact ⟨a, vs, g, rfl, .inr e, z, r⟩
theorem Rep.tupAt {xs : List PV} {v : V} {g : Fp} (h : Rep K H (.tup xs) v g) : ∃ a vs, v = .ref a ∧ SqT K H a vs ∧ xs.length ≤ sizeLine ∧ Reps K H xs vs g := h
end

abbrev LIM : Nat := 16777216
theorem lim_eq : sizeLine = LIM := sizeLine_eq

/-! ### + -/
def pAdd : List PV → Option PV
  | [.int a, .int b] => some (.int (a + b))
  | [.str a, .str b] => if a.length + b.length ≤ LIM then some (.str (a ++ b)) else none
  | [.tup xs, .tup ys] => if PV.owns xs = false ∧ PV.owns ys = false ∧ xs.length + ys.length ≤ LIM then some (.tup (xs ++ ys)) else none
  | [.lst _ xs, .lst _ ys] => if PV.owns xs = false ∧ PV.owns ys = false ∧ xs.length + ys.length ≤ LIM then some (.lst true (xs ++ ys)) else none
  | _ => none
/-- list + list, whoever holds them -/
def rCatS (K : PySem.W.Frag) : R2 := fun x y H Q => ∃ l b xs zs, x = .ref l ∧ y = .ref b ∧ SqL K H l xs ∧ SqL K H b zs ∧ xs.length + zs.length ≤ sizeLine ∧ ∀ p, H p = none → Q (.ref p) (upd H p (.lst (xs ++ zs)))
theorem op_catS {X : Cx} : OpR X (binaryOp .Add) (rCatS X.K) := by
  intro pins s σ H x y v u Q I rx ry h
  obtain ⟨l, b, xs, zs, rfl, rfl, hH, hB, hz, q⟩ := h
  cases rx
  cases ry
  obtain ⟨its, r, hl, z⟩ := I.list hH
  obtain ⟨its2, r2, hl2, z2⟩ := I.list hB
  have e1 := r.length
  have e2 := r2.length
  obtain ⟨⟨cls, dd, data, sl⟩, n, ho, hc, _, hd⟩ := id hl
  obtain ⟨⟨cls2, dd2, data2, sl2⟩, n2, ho2, hc2, _, hd2⟩ := id hl2
  simp only at hc hd hc2 hd2
  subst hc hd hc2 hd2
  have e : its.toArray ++ its2.toArray = (its ++ its2).toArray := by simp
  refine concat_meets ⟨_, ho, rfl⟩ ⟨_, ho2, rfl⟩ noFill_list_add seq_list_add PySem.F.slot_list_add PySem.F.entry_list_add (PySem.F.args_list_add_2 _ _) (list_addW l b its.toArray its2.toArray n n2 dd dd2 sl sl2 (by rw [List.size_toArray, List.size_toArray]; omega)) ⟨ho, ho2, ?_⟩
  rw [e]
  exact ⟨.ref _, _, I.lnew (t' := s.toks) (r.append r2) (by rw [List.length_append]; omega), rfl, q _ I.fresh⟩
def rAddAll (K : PySem.W.Frag) : R2 := fun x y H Q => rI0 (fun i j => .int (i + j)) x y H Q ∨ (∃ i j, x = .str i ∧ y = .str j ∧ i.length + j.length ≤ sizeLine ∧ Q (.str (i ++ j)) H) ∨ rCatA K x y H Q ∨ rCatS K x y H Q
theorem op_addAll {X : Cx} : OpR X (binaryOp .Add) (rAddAll X.K) := op_add.or (op_add_str.or (op_catA.or op_catS))
theorem vo_add {K : PySem.W.Frag} : VOp K pAdd (r2L (rAddAll K)) := by
  intro H xs vs z Q hr hf q
  match xs, hf with
  | [.int a, .int b], hf =>
    obtain ⟨v, w, g, k, rfl, ⟨rfl, _⟩, ⟨rfl, _⟩⟩ := rw2 hr
    cases (Option.some.inj hf)
    exact ⟨_, _, rfl, .inl ⟨a, b, rfl, rfl, q _ H Z0 rep_int (fr0 H)⟩⟩
  | [.str a, .str b], hf =>
    obtain ⟨v, w, g, k, rfl, ⟨rfl, _⟩, ⟨rfl, _⟩⟩ := rw2 hr
    simp only [pAdd] at hf
    split at hf
    · rename_i hl
      cases (Option.some.inj hf)
      exact ⟨_, _, rfl, .inr (.inl ⟨a, b, rfl, rfl, by rw [lim_eq]; exact hl, q _ H Z0 rep_str (fr0 H)⟩)⟩
    · cases hf
  | [.tup as, .tup bs], hf =>
    obtain ⟨v, w, g, k, rfl, ra, rb⟩ := rw2 hr
    simp only [pAdd] at hf
    split at hf
    · rename_i hl
      obtain ⟨n1, n2, hz⟩ := hl
      cases (Option.some.inj hf)
      obtain ⟨a, va, rfl, ha, za, sa⟩ := ra.tupAt
      obtain ⟨b, vb, rfl, hb, zb, sb⟩ := rb.tupAt
      have ta := sa.seq n1
      have tb := sb.seq n2
      have hz' : (as ++ bs).length ≤ sizeLine := by rw [lim_eq, List.length_append]; exact hz
      refine ⟨_, _, rfl, .inr (.inr (.inl ⟨a, b, va, vb, rfl, rfl, ha, hb, by rw [ta.len, tb.len, lim_eq]; exact hz, fun e => ?_, fun e1 e2 => ?_, fun _ _ p np => ?_⟩))⟩
      · subst e
        have e : as = [] := List.length_eq_zero_iff.mp ta.len.symm
        subst e
        exact q _ H Z0 ⟨b, vb, rfl, hb, by simpa using zb, tb.reps⟩ (fr0 H)
      · subst e2
        have e : bs = [] := List.length_eq_zero_iff.mp tb.len.symm
        subst e
        refine q _ H Z0 ?_ (fr0 H)
        rw [List.append_nil]
        exact ⟨a, va, rfl, ha, za, ta.reps⟩
      · obtain ⟨r, f⟩ := newTup (ta.append tb) hz' np
        exact q _ _ _ r f
    · cases hf
  | [.lst o as, .lst o' bs], hf =>
    obtain ⟨v, w, g, k, rfl, ra, rb⟩ := rw2 hr
    simp only [pAdd] at hf
    split at hf
    · rename_i hl
      obtain ⟨n1, n2, hz⟩ := hl
      cases (Option.some.inj hf)
      obtain ⟨a, va, ga, rfl, ha, za, sa⟩ := ra.lstAt
      obtain ⟨b, vb, gb, rfl, hb, zb, sb⟩ := rb.lstAt
      have ta := sa.seq n1
      have tb := sb.seq n2
      have hz' : (as ++ bs).length ≤ sizeLine := by rw [lim_eq, List.length_append]; exact hz
      refine ⟨_, _, rfl, .inr (.inr (.inr ⟨a, b, va, vb, rfl, rfl, ha, hb, by rw [ta.len, tb.len, lim_eq]; exact hz, fun p np => ?_⟩))⟩
      obtain ⟨r, f⟩ := newLst (ta.append tb) hz' np
      exact q _ _ _ r f
    · cases hf
end Bv

set_option maxHeartbeats 4000000
namespace Bv
open PySem PySem.Spec PyProof.Rows L2

/-! ### ints -/
def pSub : List PV → Option PV
  | [.int a, .int b] => some (.int (a - b))
  | _ => none
noncomputable def small64 (i : Int) : Bool := @decide (-(2 ^ 64) < i ∧ i < 2 ^ 64) (Classical.propDecidable _)
noncomputable def pMul : List PV → Option PV
  | [.int a, .int b] => if small64 a || small64 b then some (.int (a * b)) else none
  | [.tup xs, .int k] => @ite _ (PV.owns xs = false ∧ xs ≠ [] ∧ xs.length ≤ 1000 ∧ 2 ≤ k ∧ k ≤ 1000) (Classical.propDecidable _) (some (.tup (List.replicate k.toNat xs).flatten)) none
  | _ => none
noncomputable def pFdiv : List PV → Option PV
  | [.int a, .int b] => @ite _ (0 < b ∧ b < 1073741824) (Classical.propDecidable _) (some (.int (a / b))) none
  | _ => none
def pMod : List PV → Option PV
  | [.int a, .int b] => if 0 < b then some (.int (a % b)) else none
  | _ => none
noncomputable def pPow : List PV → Option PV
  | [.int a, .int b] => @ite _ (0 ≤ b ∧ b ≤ 1000000 ∧ a.natAbs < 2 ^ 64) (Classical.propDecidable _) (some (.int (a ^ b.toNat))) none
  | _ => none
noncomputable def pShl : List PV → Option PV
  | [.int a, .int b] => @ite _ (0 ≤ b ∧ b ≤ 1000000 ∧ a.natAbs < 2 ^ 64) (Classical.propDecidable _) (some (.int (a * 2 ^ b.toNat))) none
  | _ => none
def pCmp (p : Int → Int → Bool) : List PV → Option PV
  | [.int a, .int b] => some (.bl (p a b))
  | _ => none
def pNeg : List PV → Option PV
  | [.int a] => some (.int (-a))
  | _ => none
section
variable {K : PySem.W.Frag} {X : Cx}
theorem vo_sub : VOp K pSub (r2L (rI0 fun i j => .int (i - j))) := by
  intro H xs vs z Q hr hf q
  match xs, hf with
  | [.int a, .int b], hf =>
    obtain ⟨v, w, g, k, rfl, ⟨rfl, _⟩, ⟨rfl, _⟩⟩ := rw2 hr
    cases (Option.some.inj hf)
    exact ⟨_, _, rfl, a, b, rfl, rfl, q _ H Z0 rep_int (fr0 H)⟩
def rMulAll (K : PySem.W.Frag) : R2 := fun x y H Q => rI CMul (fun i j => .int (i * j)) x y H Q ∨ rRepT K x y H Q
theorem op_mulAll : OpR X (binaryOp .Mult) (rMulAll X.K) := op_mul.or op_repT
theorem small64_iff {i : Int} (h : small64 i = true) : -(2 ^ 64) < i ∧ i < 2 ^ 64 := by
  exact @of_decide_eq_true _ (Classical.propDecidable _) h
theorem vo_mul : VOp K pMul (r2L (rMulAll K)) := by
  intro H xs vs z Q hr hf q
  match xs, hf with
  | [.int a, .int b], hf =>
    obtain ⟨v, w, g, k, rfl, ⟨rfl, _⟩, ⟨rfl, _⟩⟩ := rw2 hr
    simp only [pMul] at hf
    split at hf
    · rename_i hc
      cases (Option.some.inj hf)
      refine ⟨_, _, rfl, .inl ⟨a, b, rfl, rfl, ?_, q _ H Z0 rep_int (fr0 H)⟩⟩
      rcases (Bool.or_eq_true _ _).mp hc with h | h
      · exact .inl (small64_iff h)
      · exact .inr (small64_iff h)
    · cases hf
  | [.tup as, .int kk], hf =>
    obtain ⟨v, w, g, k, rfl, ra, ⟨rfl, _⟩⟩ := rw2 hr
    simp only [pMul] at hf
    split at hf
    · rename_i hc
      obtain ⟨n1, n2, n3, n4, n5⟩ := hc
      cases (Option.some.inj hf)
      obtain ⟨a, va, rfl, ha, za, sa⟩ := ra.tupAt
      have ta := sa.seq n1
      refine ⟨_, _, rfl, .inr ⟨a, _, va, rfl, rfl, ha, fun e => n2 (by
        subst e
        exact List.length_eq_zero_iff.mp ta.len.symm), n4, n5, by rw [ta.len]; exact n3, fun p np => ?_⟩⟩
      obtain ⟨r, f⟩ := newTup (ta.flat kk.toNat) (by
        rw [PyProof.Rows.lm_len_rep_flat, lim_eq]
        have := Nat.mul_le_mul (show kk.toNat ≤ 1000 by omega) n3
        show _ ≤ 16777216
        omega) np
      exact q _ _ _ r f
    · cases hf
theorem vo_fdiv : VOp K pFdiv (r2L (rI CDiv fun i j => .int (i / j))) := by
  intro H xs vs z Q hr hf q
  match xs, hf with
  | [.int a, .int b], hf =>
    obtain ⟨v, w, g, k, rfl, ⟨rfl, _⟩, ⟨rfl, _⟩⟩ := rw2 hr
    simp only [pFdiv] at hf
    split at hf
    · rename_i hc
      cases (Option.some.inj hf)
      exact ⟨_, _, rfl, a, b, rfl, rfl, hc, q _ H Z0 rep_int (fr0 H)⟩
    · cases hf
theorem vo_mod : VOp K pMod (r2L (rI (fun _ j => 0 < j) fun i j => .int (i % j))) := by
  intro H xs vs z Q hr hf q
  match xs, hf with
  | [.int a, .int b], hf =>
    obtain ⟨v, w, g, k, rfl, ⟨rfl, _⟩, ⟨rfl, _⟩⟩ := rw2 hr
    simp only [pMod] at hf
    split at hf
    · rename_i hc
      cases (Option.some.inj hf)
      exact ⟨_, _, rfl, a, b, rfl, rfl, hc, q _ H Z0 rep_int (fr0 H)⟩
    · cases hf
theorem vo_pow : VOp K pPow (r2L (rI CPow fun i j => .int (i ^ j.toNat))) := by
  intro H xs vs z Q hr hf q
  match xs, hf with
  | [.int a, .int b], hf =>
    obtain ⟨v, w, g, k, rfl, ⟨rfl, _⟩, ⟨rfl, _⟩⟩ := rw2 hr
    simp only [pPow] at hf
    split at hf
    · rename_i hc
      cases (Option.some.inj hf)
      exact ⟨_, _, rfl, a, b, rfl, rfl, hc, q _ H Z0 rep_int (fr0 H)⟩
    · cases hf
theorem vo_shl : VOp K pShl (r2L (rI CPow fun i j => .int (i * 2 ^ j.toNat))) := by
  intro H xs vs z Q hr hf q
  match xs, hf with
  | [.int a, .int b], hf =>
    obtain ⟨v, w, g, k, rfl, ⟨rfl, _⟩, ⟨rfl, _⟩⟩ := rw2 hr
    simp only [pShl] at hf
    split at hf
    · rename_i hc
      cases (Option.some.inj hf)
      exact ⟨_, _, rfl, a, b, rfl, rfl, hc, q _ H Z0 rep_int (fr0 H)⟩
    · cases hf
theorem vo_cmp (p : Int → Int → Bool) : VOp K (pCmp p) (r2L (rI0 fun i j => .bl (p i j))) := by
  intro H xs vs z Q hr hf q
  match xs, hf with
  | [.int a, .int b], hf =>
    obtain ⟨v, w, g, k, rfl, ⟨rfl, _⟩, ⟨rfl, _⟩⟩ := rw2 hr
    cases (Option.some.inj hf)
    exact ⟨_, _, rfl, a, b, rfl, rfl, q _ H Z0 rep_bl (fr0 H)⟩
theorem vo_neg : VOp K pNeg (r1L (rU fun i => .int (-i))) := by
  intro H xs vs z Q hr hf q
  match xs, hf with
  | [.int a], hf =>
    obtain ⟨v, g, rfl, ⟨rfl, _⟩⟩ := rw1 hr
    cases (Option.some.inj hf)
    exact ⟨_, rfl, a, rfl, q _ H Z0 rep_int (fr0 H)⟩
end

/-! ### == and in, of data -/
mutual
def toD : PV → Option PyData
  | .non => some .none
  | .bl b => some (.bool b)
  | .int i => some (.int i)
  | .str x => some (.str x)
  | .tup xs => (toDs xs).map .tuple
  | .lst _ xs => (toDs xs).map .list
  | _ => none
def toDs : List PV → Option (List PyData)
  | [] => some []
  | x :: xs => match toD x, toDs xs with
    | some d, some ds => some (d :: ds)
    | _, _ => none
end
section
variable {K : PySem.W.Frag} {H : Hp} {X : Cx}
mutual
theorem dp_of : ∀ {x : PV} {v : V} {f : Fp} {d : PyData}, Rep K H x v f → toD x = some d → Dp K H v d
  | .non, v, f, d, h, e => by
    simp only [toD] at e; cases e; rw [h.1]; exact .non
  | .bl b, v, f, d, h, e => by
    simp only [toD] at e; cases e; rw [h.1]; exact .bl b
  | .int i, v, f, d, h, e => by
    simp only [toD] at e; cases e; rw [h.1]; exact .int i
  | .str x, v, f, d, h, e => by
    simp only [toD] at e; cases e; rw [h.1]; exact .str x
  | .tup xs, v, f, d, h, e => by
    obtain ⟨a, vs, rfl, t, _, r⟩ := h
    simp only [toD, Option.map_eq_some_iff] at e
    obtain ⟨ds, e1, rfl⟩ := e
    exact .tup t (dps_of r e1)
  | .lst o xs, v, f, d, h, e => by
    obtain ⟨a, vs, g, rfl, t, _, r⟩ := h.lstAt
    simp only [toD, Option.map_eq_some_iff] at e
    obtain ⟨ds, e1, rfl⟩ := e
    exact .lst t (dps_of r e1)
  | .dK _, v, f, d, h, e => by simp [toD] at e
  | .dT _, v, f, d, h, e => by simp [toD] at e
  | .sK _, v, f, d, h, e => by simp [toD] at e
theorem dps_of : ∀ {xs : List PV} {vs : List V} {f : Fp} {ds : List PyData}, Reps K H xs vs f → toDs xs = some ds → DpAll K H vs ds
  | [], vs, f, ds, h, e => by
    simp only [toDs] at e; cases e; rw [h.1]; exact .nil
  | x :: xs, vs, f, ds, h, e => by
    obtain ⟨v, ws, g, l, rfl, r, rs, _⟩ := h
    simp only [toDs] at e
    split at e
    · rename_i d1 ds1 e1 e2
      cases e
      exact .cons (dp_of r e1) (dps_of rs e2)
    · cases e
end
end
def shD (x : PV) : Option PyData := match toD x with
  | some d => if SeqAt.shaped d = true then some d else none
  | none => none
theorem shD_ok {x : PV} {d : PyData} (h : shD x = some d) : toD x = some d ∧ SeqAt.shaped d = true := by
  unfold shD at h
  split at h
  · split at h
    · cases h; exact ⟨by assumption, by assumption⟩
    · cases h
  · cases h
def pEq (neg : Bool) : List PV → Option PV
  | [x, y] => match shD x, shD y with
    | some d, some e => some (.bl (if neg then !PyData.eqv d e else PyData.eqv d e))
    | _, _ => none
  | _ => none
def inStr (neg : Bool) (x y : Str) : PV := .bl (if neg then !(!(Builtin.Str.occurrences y x 0 y.length 1).isEmpty) else !(Builtin.Str.occurrences y x 0 y.length 1).isEmpty)
def inSeq (neg : Bool) (x : PV) (ys : List PV) : Option PV := match shD x, toDs ys with
  | some d, some ds => if SeqAt.shaped (.list ds) = true then some (.bl (if neg then !(ds.any fun z => PyData.eqv z d) else ds.any fun z => PyData.eqv z d)) else none
  | _, _ => none
def pIn (neg : Bool) : List PV → Option PV
  | [x, y] => match y with
    | .str b => match x with
      | .str a => some (inStr neg a b)
      | _ => none
    | .lst _ ys => inSeq neg x ys
    | _ => none
  | _ => none
section
variable {K : PySem.W.Frag} {X : Cx}
theorem vo_eq : VOp K (pEq false) (r2L (rEqD K)) := by
  intro H xs vs z Q hr hf q
  match xs, hf with
  | [x, y], hf =>
    obtain ⟨v, w, g, k, rfl, rx, ry⟩ := rw2 hr
    simp only [pEq] at hf
    split at hf
    · rename_i d e e1 e2
      cases hf
      obtain ⟨a1, a2⟩ := shD_ok e1
      obtain ⟨b1, b2⟩ := shD_ok e2
      exact ⟨_, _, rfl, d, e, dp_of rx a1, dp_of ry b1, a2, b2, q _ H Z0 rep_bl (fr0 H)⟩
    · cases hf
theorem vo_ne : VOp K (pEq true) (r2L (rNeD K)) := by
  intro H xs vs z Q hr hf q
  match xs, hf with
  | [x, y], hf =>
    obtain ⟨v, w, g, k, rfl, rx, ry⟩ := rw2 hr
    simp only [pEq] at hf
    split at hf
    · rename_i d e e1 e2
      cases hf
      obtain ⟨a1, a2⟩ := shD_ok e1
      obtain ⟨b1, b2⟩ := shD_ok e2
      exact ⟨_, _, rfl, d, e, dp_of rx a1, dp_of ry b1, a2, b2, q _ H Z0 rep_bl (fr0 H)⟩
    · cases hf
def rInAll (K : PySem.W.Frag) : R2 := fun x y H Q => (∃ i j, x = .str i ∧ y = .str j ∧ Q (.bl (!(Builtin.Str.occurrences j i 0 j.length 1).isEmpty)) H) ∨ rInD K x y H Q
def rNotInAll (K : PySem.W.Frag) : R2 := fun x y H Q => (∃ i j, x = .str i ∧ y = .str j ∧ Q (.bl (!(!(Builtin.Str.occurrences j i 0 j.length 1).isEmpty))) H) ∨ rNotInD K x y H Q
theorem op_inAll (hu : X.A.units + 65 < cLine) : OpR X (compareOp .In) (rInAll X.K) := op_in_str.or (op_inD hu)
theorem op_notInAll (hu : X.A.units + 65 < cLine) : OpR X (compareOp .NotIn) (rNotInAll X.K) := L2.op_notIn_str.or (op_notInD hu)
theorem inSeq_ok {neg : Bool} {x z : PV} {ys : List PV} (h : inSeq neg x ys = some z) : ∃ d ds, shD x = some d ∧ toDs ys = some ds ∧ SeqAt.shaped (.list ds) = true ∧ z = .bl (if neg then !(ds.any fun z => PyData.eqv z d) else ds.any fun z => PyData.eqv z d) := by
  unfold inSeq at h
  split at h
  · rename_i d ds e1 e2
    split at h
    · rename_i e3
      cases h
      exact ⟨d, ds, e1, e2, e3, rfl⟩
    · cases h
  · cases h
theorem vo_in : VOp K (pIn false) (r2L (rInAll K)) := by
  intro H xs vs z Q hr hf q
  match xs, hf with
  | [x, y], hf =>
    obtain ⟨v, w, g, k, rfl, rx, ry⟩ := rw2 hr
    simp only [pIn] at hf
    split at hf
    · split at hf
      · cases hf
        obtain ⟨rfl, _⟩ := rx
        obtain ⟨rfl, _⟩ := ry
        exact ⟨_, _, rfl, .inl ⟨_, _, rfl, rfl, q _ H Z0 rep_bl (fr0 H)⟩⟩
      · cases hf
    · obtain ⟨d, ds, e1, e2, e3, rfl⟩ := inSeq_ok hf
      obtain ⟨a1, a2⟩ := shD_ok e1
      exact ⟨_, _, rfl, .inr ⟨d, ds, dp_of rx a1, dp_of ry (by simp only [toD, e2, Option.map_some]), a2, e3, q _ H Z0 rep_bl (fr0 H)⟩⟩
    · cases hf
theorem vo_notin : VOp K (pIn true) (r2L (rNotInAll K)) := by
  intro H xs vs z Q hr hf q
  match xs, hf with
  | [x, y], hf =>
    obtain ⟨v, w, g, k, rfl, rx, ry⟩ := rw2 hr
    simp only [pIn] at hf
    split at hf
    · split at hf
      · cases hf
        obtain ⟨rfl, _⟩ := rx
        obtain ⟨rfl, _⟩ := ry
        exact ⟨_, _, rfl, .inl ⟨_, _, rfl, rfl, q _ H Z0 rep_bl (fr0 H)⟩⟩
      · cases hf
    · obtain ⟨d, ds, e1, e2, e3, rfl⟩ := inSeq_ok hf
      obtain ⟨a1, a2⟩ := shD_ok e1
      exact ⟨_, _, rfl, .inr ⟨d, ds, dp_of rx a1, dp_of ry (by simp only [toD, e2, Option.map_some]), a2, e3, q _ H Z0 rep_bl (fr0 H)⟩⟩
    · cases hf
end

/-! ### items, slices -/
def pIx : List PV → Option PV
  | [.tup xs, .int i] => match atI xs i with | some x => if x.own then none else some x | none => none
  | [.lst _ xs, .int i] => match atI xs i with | some x => if x.own then none else some x | none => none
  | [.str x, .int i] => if x.length ≤ LIM then match atI x.cps.toList i with | some c => some (.str ⟨#[c]⟩) | none => none else none
  | _ => none
theorem atI_len {α β : Type} {xs : List α} {ys : List β} {i : Int} {x : α} (h : atI xs i = some x) (e : ys.length = xs.length) : ∃ (j : Nat) (y : β), xs[j]? = some x ∧ ys[j]? = some y ∧ atI ys i = some y := by
  unfold atI at h ⊢
  rw [e]
  cases hj : ixN xs.length i with
  | none => rw [hj] at h; cases h
  | some j =>
    rw [hj] at h
    have h : xs[j]? = some x := h
    have hlt : j < ys.length := by rw [e]; exact (List.getElem?_eq_some_iff.mp h).1
    exact ⟨j, ys[j], h, List.getElem?_eq_getElem hlt, List.getElem?_eq_getElem hlt⟩
section
variable {K : PySem.W.Frag} {X : Cx}
theorem vo_ix : VOp K pIx (r2L (rIx K)) := by
  intro H xs vs z Q hr hf q
  match xs, hf with
  | [.tup as, .int i], hf =>
    obtain ⟨v, w, g, k, rfl, ra, ⟨rfl, _⟩⟩ := rw2 hr
    obtain ⟨a, va, rfl, ha, za, sa⟩ := ra.tupAt
    simp only [pIx] at hf
    cases e : atI as i with
    | none => rw [e] at hf; cases hf
    | some x =>
      rw [e] at hf
      dsimp only at hf
      split at hf
      · cases hf
      · rename_i n
        cases hf
        obtain ⟨j, y, e1, e2, e3⟩ := atI_len (ys := va) e sa.length
        obtain ⟨g', r, _⟩ := sa.get j _ y e1 e2
        exact ⟨_, _, rfl, .inr (.inl ⟨a, va, i, y, rfl, rfl, ha, e3, q _ H Z0 (r.zero (by simpa using n)) (fr0 H)⟩)⟩
  | [.lst o as, .int i], hf =>
    obtain ⟨v, w, g, k, rfl, ra, ⟨rfl, _⟩⟩ := rw2 hr
    obtain ⟨a, va, ga, rfl, ha, za, sa⟩ := ra.lstAt
    simp only [pIx] at hf
    cases e : atI as i with
    | none => rw [e] at hf; cases hf
    | some x =>
      rw [e] at hf
      dsimp only at hf
      split at hf
      · cases hf
      · rename_i n
        cases hf
        obtain ⟨j, y, e1, e2, e3⟩ := atI_len (ys := va) e sa.length
        obtain ⟨g', r, _⟩ := sa.get j _ y e1 e2
        exact ⟨_, _, rfl, .inl ⟨a, va, i, y, rfl, rfl, ha, e3, q _ H Z0 (r.zero (by simpa using n)) (fr0 H)⟩⟩
  | [.str x, .int i], hf =>
    obtain ⟨v, w, g, k, rfl, ⟨rfl, _⟩, ⟨rfl, _⟩⟩ := rw2 hr
    simp only [pIx] at hf
    split at hf
    · rename_i hl
      split at hf
      · rename_i c e
        cases hf
        exact ⟨_, _, rfl, .inr (.inr ⟨x, i, c, rfl, rfl, by rw [lim_eq]; exact hl, e, q _ H Z0 rep_str (fr0 H)⟩)⟩
      · cases hf
    · cases hf
end
def cutP {α : Type} (xs : List α) (lo hi : Option Int) : List α := (xs.drop (HT.sIx xs.length 0 lo)).take (HT.sIx xs.length xs.length hi - HT.sIx xs.length 0 lo)
end Bv

set_option maxHeartbeats 400000
namespace Bv
open PySem PySem.Spec PyProof.Rows L2

/-! ### operations on one value -/
def p1 (f : PV → Option PV) : List PV → Option PV
  | [x] => f x
  | _ => none
theorem vo1 {K : PySem.W.Frag} {f : PV → Option PV} {r : List V → Hp → VK → Prop} (h : ∀ H x v g z Q, Rep K H x v g → f x = some z → (∀ v H' g, Rep K H' z v g → Fresh H H' g → Q v H') → r [v] H Q) : VOp K (p1 f) r := by
  intro H xs vs z Q hr hf q
  match xs, hf with
  | [x], hf =>
    obtain ⟨v, g, rfl, r⟩ := rw1 hr
    exact h H x v g z Q r hf q
/-! ### slices -/
theorem cutP_owns {xs : List PV} {lo hi : Option Int} (h : PV.owns xs = false) : PV.owns (cutP xs lo hi) = false :=
  owns_of fun x m => owns_mem h (List.mem_of_mem_drop (List.mem_of_mem_take m))
theorem cutP_length {α : Type} (xs : List α) (lo hi : Option Int) : (cutP xs lo hi).length ≤ xs.length := by
  unfold cutP
  rw [List.length_take, List.length_drop]
  omega
def pCut (lo hi : Option Int) : PV → Option PV
  | .tup xs => if PV.owns xs = false then some (.tup (cutP xs lo hi)) else none
  | .lst _ xs => if PV.owns xs = false then some (.lst true (cutP xs lo hi)) else none
  | .str x => if x.length ≤ LIM then some (.str (cutS x lo hi)) else none
  | _ => none
section
variable {K : PySem.W.Frag} {X : Cx} {H : Hp}
theorem cut_seq {xs : List PV} {vs : List V} (a : Seq0 K H xs vs) (lo hi : Option Int) : Seq0 K H (cutP xs lo hi) (cutV vs lo hi) := by
  unfold cutP cutV
  rw [a.len]
  exact (a.drop _).take _
def rSlAll (K : PySem.W.Frag) : V → Option Int → Option Int → Hp → VK → Prop := fun x lo hi H Q => rSlA K x lo hi H Q ∨ rSlL K x lo hi H Q ∨ rSlS x lo hi H Q
theorem sl_all : L2.SlR X (rSlAll X.K) := sl_tupA.or (sl_list.or sl_str)
theorem cut_whole {α : Type} {xs : List α} {lo hi : Option Int} (h1 : HT.sIx xs.length 0 lo = 0) (h2 : HT.sIx xs.length xs.length hi = xs.length) : cutP xs lo hi = xs := by
  unfold cutP
  rw [h1, h2]
  simp
theorem cut_ok {x z : PV} {lo hi : Option Int} {v : V} {g : Fp} {Q : VK} (r : Rep K H x v g) (hf : pCut lo hi x = some z) (q : ∀ v H' g, Rep K H' z v g → Fresh H H' g → Q v H') : rSlAll K v lo hi H Q := by
  cases x with
  | tup xs =>
    simp only [pCut] at hf
    split at hf
    · rename_i n
      cases hf
      obtain ⟨a, va, rfl, ha, za, sa⟩ := r.tupAt
      have ta := sa.seq n
      refine .inl ⟨a, va, rfl, ha, fun hw => ?_, fun hw p np => ?_⟩
      · rw [ta.len] at hw
        rw [cut_whole hw.1 hw.2] at q
        exact q _ H Z0 ⟨a, va, rfl, ha, za, ta.reps⟩ (fr0 H)
      · obtain ⟨r, f⟩ := newTup (cut_seq ta lo hi) (Nat.le_trans (cutP_length xs lo hi) za) np
        exact q _ _ _ r f
    · cases hf
  | lst o xs =>
    simp only [pCut] at hf
    split at hf
    · rename_i n
      cases hf
      obtain ⟨a, va, ga, rfl, ha, za, sa⟩ := r.lstAt
      have ta := sa.seq n
      refine .inr (.inl ⟨a, va, rfl, ha, fun p np => ?_⟩)
      obtain ⟨r, f⟩ := newLst (cut_seq ta lo hi) (Nat.le_trans (cutP_length xs lo hi) za) np
      exact q _ _ _ r f
    · cases hf
  | str x =>
    simp only [pCut] at hf
    split at hf
    · rename_i n
      cases hf
      obtain ⟨rfl, _⟩ := r
      exact .inr (.inr ⟨x, rfl, by rw [lim_eq]; exact n, q _ H Z0 rep_str (fr0 H)⟩)
    · cases hf
  | _ => simp [pCut] at hf
def pSlLo : List PV → Option PV
  | [x, .int i] => pCut (some i) none x
  | _ => none
def pSlHi : List PV → Option PV
  | [x, .int i] => pCut none (some i) x
  | _ => none
def pSlBoth : List PV → Option PV
  | [x, .int i, .int j] => pCut (some i) (some j) x
  | _ => none
variable {W : WX} {a b c e : Expr} {es : List Expr} {pos p2 : Pos}
theorem se_slLo {oa ob : M Pnd} (ha : SO X W a oa) (hb : SO X W b ob) : SE X W (.Subscript a (.Slice (some b) none none p2) pos) (mOp pSlLo (oCons oa (oCons ob oNil))) :=
  PE.weaken (pe_slice sl_all ha (po_some hb) po_none) fun σ H Q q => ops2 (Q' := fun vs H2 => ∃ x i, vs = [x, V.int i] ∧ rSlAll X.K x (some i) none H2 Q) q (fun F ps s1 vs H1 g f1 _ h1 h2 h3 h4 h5 =>
    op_end (r := fun vs H2 Q => ∃ x i, vs = [x, V.int i] ∧ rSlAll X.K x (some i) none H2 Q) (fun H xs vs z Q hr hf q => by
      match xs, hf with
      | [x, .int i], hf =>
        obtain ⟨v, w, g, k, rfl, rx, ⟨rfl, _⟩⟩ := rw2 hr
        exact ⟨v, i, rfl, cut_ok rx hf q⟩) h1 h2 h3 h4 h5) |> fun z => by
    obtain ⟨s, f', z1, z2, z3⟩ := z
    refine ⟨s, f', z1, z2, z3.mono fun v H1 q1 => ?_⟩
    obtain ⟨s', f'', w1, w2, w3⟩ := q1
    refine ⟨s', f'', w1, w2, w3.mono fun v2 H2 q2 => ?_⟩
    obtain ⟨x, i, e1, q3⟩ := q2
    cases e1
    exact ⟨i, rfl, q3⟩
theorem se_slHi {oa ob : M Pnd} (ha : SO X W a oa) (hb : SO X W b ob) : SE X W (.Subscript a (.Slice none (some b) none p2) pos) (mOp pSlHi (oCons oa (oCons ob oNil))) :=
  PE.weaken (pe_slice sl_all ha po_none (po_some hb)) fun σ H Q q => ops2 (Q' := fun vs H2 => ∃ x i, vs = [x, V.int i] ∧ rSlAll X.K x none (some i) H2 Q) q (fun F ps s1 vs H1 g f1 _ h1 h2 h3 h4 h5 =>
    op_end (r := fun vs H2 Q => ∃ x i, vs = [x, V.int i] ∧ rSlAll X.K x none (some i) H2 Q) (fun H xs vs z Q hr hf q => by
      match xs, hf with
      | [x, .int i], hf =>
        obtain ⟨v, w, g, k, rfl, rx, ⟨rfl, _⟩⟩ := rw2 hr
        exact ⟨v, i, rfl, cut_ok rx hf q⟩) h1 h2 h3 h4 h5) |> fun z => by
    obtain ⟨s, f', z1, z2, z3⟩ := z
    refine ⟨s, f', z1, z2, z3.mono fun v H1 q1 => ?_⟩
    obtain ⟨s', f'', w1, w2, w3⟩ := q1
    refine ⟨s', f'', w1, w2, w3.mono fun v2 H2 q2 => ?_⟩
    obtain ⟨x, i, e1, q3⟩ := q2
    cases e1
    exact ⟨i, rfl, q3⟩

/-! ### built-in functions -/
def pLen1 : PV → Option PV
  | .str x => if x.length ≤ LIM then some (.int x.length) else none
  | .tup xs => some (.int xs.length)
  | .lst _ xs => some (.int xs.length)
  | _ => none
def pLen := p1 pLen1
theorem vo_len : VOp K pLen (fun xs H Q => ∃ x n, xs = [x] ∧ LenV K x H n ∧ Q (.int n) H) := by
  refine vo1 fun H x v g z Q r hf q => ?_
  cases x with
  | str y =>
    simp only [pLen1] at hf
    split at hf
    · rename_i hl
      cases hf
      obtain ⟨rfl, _⟩ := r
      exact ⟨_, _, rfl, ⟨by rw [lim_eq]; exact hl, rfl⟩, q _ H Z0 rep_int (fr0 H)⟩
    · cases hf
  | tup ys =>
    cases (Option.some.inj hf)
    obtain ⟨a, va, rfl, ha, za, sa⟩ := r.tupAt
    exact ⟨_, ys.length, rfl, .inr ⟨va, ha, sa.length.symm⟩, q _ H Z0 rep_int (fr0 H)⟩
  | lst o ys =>
    cases (Option.some.inj hf)
    obtain ⟨a, va, ga, rfl, ha, za, sa⟩ := r.lstAt
    exact ⟨_, ys.length, rfl, .inl ⟨va, ha, sa.length.symm⟩, q _ H Z0 rep_int (fr0 H)⟩
  | _ => simp [pLen1] at hf
def pTuple1 : PV → Option PV
  | .tup xs => if PV.owns xs = false then some (.tup xs) else none
  | .lst _ xs => if PV.owns xs = false then some (.tup xs) else none
  | _ => none
def pTuple := p1 pTuple1
theorem vo_tuple : VOp K pTuple (fun xs H Q => ∃ p ys, xs = [.ref p] ∧ ((SqL K H p ys ∧ ∀ l, H l = none → Q (.ref l) (upd H l (.tup ys))) ∨ (SqT K H p ys ∧ Q (.ref p) H))) := by
  refine vo1 fun H x v g z Q r hf q => ?_
  cases x with
  | tup ys =>
    simp only [pTuple1] at hf
    split at hf
    · rename_i n
      cases hf
      obtain ⟨a, va, rfl, ha, za, sa⟩ := r.tupAt
      exact ⟨a, va, rfl, .inr ⟨ha, q _ H Z0 ⟨a, va, rfl, ha, za, (sa.seq n).reps⟩ (fr0 H)⟩⟩
    · cases hf
  | lst o ys =>
    simp only [pTuple1] at hf
    split at hf
    · rename_i n
      cases hf
      obtain ⟨a, va, ga, rfl, ha, za, sa⟩ := r.lstAt
      refine ⟨a, va, rfl, .inl ⟨ha, fun p np => ?_⟩⟩
      obtain ⟨r, f⟩ := newTup (sa.seq n) za np
      exact q _ _ _ r f
    · cases hf
  | _ => simp [pTuple1] at hf
def pList1 : PV → Option PV
  | .tup xs => if PV.owns xs = false then some (.lst true xs) else none
  | .lst _ xs => if PV.owns xs = false then some (.lst true xs) else none
  | _ => none
def pList := p1 pList1
theorem vo_list : VOp K pList (fun xs H Q => ∃ p ys, xs = [.ref p] ∧ (SqL K H p ys ∨ SqT K H p ys) ∧ ∀ l, H l = none → Q (.ref l) (upd H l (.lst ys))) := by
  refine vo1 fun H x v g z Q r hf q => ?_
  cases x with
  | tup ys =>
    simp only [pList1] at hf
    split at hf
    · rename_i n
      cases hf
      obtain ⟨a, va, rfl, ha, za, sa⟩ := r.tupAt
      refine ⟨a, va, rfl, .inr ha, fun p np => ?_⟩
      obtain ⟨r, f⟩ := newLst (sa.seq n) za np
      exact q _ _ _ r f
    · cases hf
  | lst o ys =>
    simp only [pList1] at hf
    split at hf
    · rename_i n
      cases hf
      obtain ⟨a, va, ga, rfl, ha, za, sa⟩ := r.lstAt
      refine ⟨a, va, rfl, .inl ha, fun p np => ?_⟩
      obtain ⟨r, f⟩ := newLst (sa.seq n) za np
      exact q _ _ _ r f
    · cases hf
  | _ => simp [pList1] at hf
/-- the boolsP, the intsP, the textsP of a row -/
def boolsP : List PV → Option (List Bool)
  | [] => some []
  | .bl b :: r => (boolsP r).map (b :: ·)
  | _ => none
def intsP : List PV → Option (List Int)
  | [] => some []
  | .int b :: r => (intsP r).map (b :: ·)
  | _ => none
def textsP : List PV → Option (List Str)
  | [] => some []
  | .str b :: r => (textsP r).map (b :: ·)
  | _ => none
theorem bools_ok : ∀ {xs : List PV} {bs : List Bool} {vs : List V} {f : Fp}, boolsP xs = some bs → Reps K H xs vs f → vs = bs.map V.bl
  | [], bs, vs, f, e, h => by cases e; exact h.1
  | .bl b :: r, bs, vs, f, e, h => by
    simp only [boolsP, Option.map_eq_some_iff] at e
    obtain ⟨cs, e1, rfl⟩ := e
    obtain ⟨v, ws, g, l, rfl, ⟨rfl, _⟩, rs, _⟩ := h
    rw [bools_ok e1 rs]; rfl
  | .non :: r, _, _, _, e, _ => by cases e
  | .int _ :: r, _, _, _, e, _ => by cases e
  | .str _ :: r, _, _, _, e, _ => by cases e
  | .tup _ :: r, _, _, _, e, _ => by cases e
  | .lst _ _ :: r, _, _, _, e, _ => by cases e
  | .dK _ :: r, _, _, _, e, _ => by cases e
  | .dT _ :: r, _, _, _, e, _ => by cases e
  | .sK _ :: r, _, _, _, e, _ => by cases e
theorem ints_ok : ∀ {xs : List PV} {bs : List Int} {vs : List V} {f : Fp}, intsP xs = some bs → Reps K H xs vs f → vs = bs.map V.int
  | [], bs, vs, f, e, h => by cases e; exact h.1
  | .int b :: r, bs, vs, f, e, h => by
    simp only [intsP, Option.map_eq_some_iff] at e
    obtain ⟨cs, e1, rfl⟩ := e
    obtain ⟨v, ws, g, l, rfl, ⟨rfl, _⟩, rs, _⟩ := h
    rw [ints_ok e1 rs]; rfl
  | .non :: r, _, _, _, e, _ => by cases e
  | .bl _ :: r, _, _, _, e, _ => by cases e
  | .str _ :: r, _, _, _, e, _ => by cases e
  | .tup _ :: r, _, _, _, e, _ => by cases e
  | .lst _ _ :: r, _, _, _, e, _ => by cases e
  | .dK _ :: r, _, _, _, e, _ => by cases e
  | .dT _ :: r, _, _, _, e, _ => by cases e
  | .sK _ :: r, _, _, _, e, _ => by cases e
theorem texts_ok : ∀ {xs : List PV} {bs : List Str} {vs : List V} {f : Fp}, textsP xs = some bs → Reps K H xs vs f → vs = bs.map V.str
  | [], bs, vs, f, e, h => by cases e; exact h.1
  | .str b :: r, bs, vs, f, e, h => by
    simp only [textsP, Option.map_eq_some_iff] at e
    obtain ⟨cs, e1, rfl⟩ := e
    obtain ⟨v, ws, g, l, rfl, ⟨rfl, _⟩, rs, _⟩ := h
    rw [texts_ok e1 rs]; rfl
  | .non :: r, _, _, _, e, _ => by cases e
  | .bl _ :: r, _, _, _, e, _ => by cases e
  | .int _ :: r, _, _, _, e, _ => by cases e
  | .tup _ :: r, _, _, _, e, _ => by cases e
  | .lst _ _ :: r, _, _, _, e, _ => by cases e
  | .dK _ :: r, _, _, _, e, _ => by cases e
  | .dT _ :: r, _, _, _, e, _ => by cases e
  | .sK _ :: r, _, _, _, e, _ => by cases e
theorem seq_texts {ys : List Str} : Seq0 K H (ys.map PV.str) (ys.map V.str) := ⟨by simp, fun i x v e1 e2 => by
  rw [List.getElem?_map] at e1 e2
  cases h : ys[i]? with
  | none => rw [h] at e1; cases e1
  | some y => rw [h] at e1 e2; cases e1; cases e2; exact rep_str⟩
theorem seq_ints {ys : List Int} : Seq0 K H (ys.map PV.int) (ys.map V.int) := ⟨by simp, fun i x v e1 e2 => by
  rw [List.getElem?_map] at e1 e2
  cases h : ys[i]? with
  | none => rw [h] at e1; cases e1
  | some y => rw [h] at e1 e2; cases e1; cases e2; exact rep_int⟩
def pAll1 : PV → Option PV
  | .lst _ xs => (boolsP xs).map fun bs => .bl (bs.all id)
  | _ => none
def pAll := p1 pAll1
def pAny1 : PV → Option PV
  | .lst _ xs => (boolsP xs).map fun bs => .bl (bs.any id)
  | _ => none
def pAny := p1 pAny1
theorem vo_all : VOp K pAll (rAll K) := by
  refine vo1 fun H x v g z Q r hf q => ?_
  cases x with
  | lst o ys =>
    simp only [pAll1, Option.map_eq_some_iff] at hf
    obtain ⟨bs, e, rfl⟩ := hf
    obtain ⟨a, va, ga, rfl, ha, za, sa⟩ := r.lstAt
    exact ⟨a, bs, rfl, by rw [← bools_ok e sa]; exact ha, q _ H Z0 rep_bl (fr0 H)⟩
  | _ => simp [pAll1] at hf
theorem vo_any : VOp K pAny (rAny K) := by
  refine vo1 fun H x v g z Q r hf q => ?_
  cases x with
  | lst o ys =>
    simp only [pAny1, Option.map_eq_some_iff] at hf
    obtain ⟨bs, e, rfl⟩ := hf
    obtain ⟨a, va, ga, rfl, ha, za, sa⟩ := r.lstAt
    exact ⟨a, bs, rfl, by rw [← bools_ok e sa]; exact ha, q _ H Z0 rep_bl (fr0 H)⟩
  | _ => simp [pAny1] at hf
def pSumL1 : PV → Option PV
  | .lst _ xs => (intsP xs).map fun ns => .int ns.sum
  | _ => none
def pSumL := p1 pSumL1
theorem vo_sumL : VOp K pSumL (rSum K) := by
  refine vo1 fun H x v g z Q r hf q => ?_
  cases x with
  | lst o ys =>
    simp only [pSumL1, Option.map_eq_some_iff] at hf
    obtain ⟨bs, e, rfl⟩ := hf
    obtain ⟨a, va, ga, rfl, ha, za, sa⟩ := r.lstAt
    exact ⟨a, bs, rfl, by rw [← ints_ok e sa]; exact ha, q _ H Z0 rep_int (fr0 H)⟩
  | _ => simp [pSumL1] at hf
def pInt1 : List PV → Option PV
  | [.int i] => some (.int i)
  | [.bl k] => some (.int (if k then 1 else 0))
  | [.str a] => match PySem.intText? a with | some n => if a.length ≤ 640 then some (.int n) else none | none => none
  | _ => none
theorem vo_int1 : VOp K pInt1 (fun xs H Q => ((∃ i, xs = [.int i] ∧ Q (.int i) H) ∨ ∃ k, xs = [.bl k] ∧ Q (.int (if k then 1 else 0)) H) ∨ ∃ a n, xs = [.str a] ∧ PySem.intText? a = some n ∧ a.length ≤ 640 ∧ Q (.int n) H) := by
  intro H xs vs z Q hr hf q
  match xs, hf with
  | [.int i], hf =>
    obtain ⟨v, g, rfl, ⟨rfl, _⟩⟩ := rw1 hr
    cases (Option.some.inj hf)
    exact .inl (.inl ⟨i, rfl, q _ H Z0 rep_int (fr0 H)⟩)
  | [.bl i], hf =>
    obtain ⟨v, g, rfl, ⟨rfl, _⟩⟩ := rw1 hr
    cases (Option.some.inj hf)
    exact .inl (.inr ⟨i, rfl, q _ H Z0 rep_int (fr0 H)⟩)
  | [.str a], hf =>
    obtain ⟨v, g, rfl, ⟨rfl, _⟩⟩ := rw1 hr
    simp only [pInt1] at hf
    split at hf
    · rename_i n e
      split at hf
      · rename_i hl
        cases hf
        exact .inr ⟨a, n, rfl, e, hl, q _ H Z0 rep_int (fr0 H)⟩
      · cases hf
    · cases hf
def pAbs : List PV → Option PV
  | [.int i] => some (.int (if i < 0 then -i else i))
  | _ => none
theorem vo_abs : VOp K pAbs (fun xs H Q => ∃ i, xs = [.int i] ∧ Q (.int (if i < 0 then -i else i)) H) := by
  intro H xs vs z Q hr hf q
  match xs, hf with
  | [.int i], hf =>
    obtain ⟨v, g, rfl, ⟨rfl, _⟩⟩ := rw1 hr
    cases (Option.some.inj hf)
    exact ⟨i, rfl, q _ H Z0 rep_int (fr0 H)⟩
def pMin2 : List PV → Option PV
  | [.int i, .int j] => some (.int (if j < i then j else i))
  | _ => none
def pMax2 : List PV → Option PV
  | [.int i, .int j] => some (.int (if j > i then j else i))
  | _ => none
theorem vo_min2 : VOp K pMin2 (fun xs H Q => ∃ i j, xs = [.int i, .int j] ∧ Q (.int (if j < i then j else i)) H) := by
  intro H xs vs z Q hr hf q
  match xs, hf with
  | [.int i, .int j], hf =>
    obtain ⟨v, w, g, k, rfl, ⟨rfl, _⟩, ⟨rfl, _⟩⟩ := rw2 hr
    cases (Option.some.inj hf)
    exact ⟨i, j, rfl, q _ H Z0 rep_int (fr0 H)⟩
theorem vo_max2 : VOp K pMax2 (fun xs H Q => ∃ i j, xs = [.int i, .int j] ∧ Q (.int (if j > i then j else i)) H) := by
  intro H xs vs z Q hr hf q
  match xs, hf with
  | [.int i, .int j], hf =>
    obtain ⟨v, w, g, k, rfl, ⟨rfl, _⟩, ⟨rfl, _⟩⟩ := rw2 hr
    cases (Option.some.inj hf)
    exact ⟨i, j, rfl, q _ H Z0 rep_int (fr0 H)⟩
def pStr : List PV → Option PV
  | [.int i] => if i.natAbs.log2 < 1920 then some (.str (toString i)) else none
  | _ => none
theorem vo_str : VOp K pStr (fun xs H Q => ∃ i, xs = [.int i] ∧ i.natAbs.log2 < 1920 ∧ Q (.str (toString i)) H) := by
  intro H xs vs z Q hr hf q
  match xs, hf with
  | [.int i], hf =>
    obtain ⟨v, g, rfl, ⟨rfl, _⟩⟩ := rw1 hr
    simp only [pStr] at hf
    split at hf
    · rename_i hl
      cases hf
      exact ⟨i, rfl, hl, q _ H Z0 rep_str (fr0 H)⟩
    · cases hf
end

/-! ### isinstance of built-in types -/
def tyOf : PV → Option String
  | .non => some "NoneType"
  | .bl _ => some "bool"
  | .int _ => some "int"
  | .str _ => some "str"
  | .tup _ => some "tuple"
  | .lst _ _ => some "list"
  | .dK _ => some "dict"
  | .dT _ => some "dict"
  | _ => none
def isTy (T : String) (t : String) : Bool := t == T || (T == "int" && t == "bool")
def pIsi1 (T : String) (x : PV) : Option PV := (tyOf x).map fun t => .bl (isTy T t)
def pIsi (T : String) := p1 (pIsi1 T)
section
variable {K : PySem.W.Frag} {X : Cx} {H : Hp} {W : WX} {a : Expr}
theorem tyX_of {x : PV} {v : V} {g : Fp} {t : String} (r : Rep K H x v g) (e : tyOf x = some t) : TyX K H v (.type t) := by
  cases x with
  | non => cases e; rw [r.1]; exact .base .non
  | bl b => cases e; rw [r.1]; exact .base (.bl b)
  | int b => cases e; rw [r.1]; exact .base (.int b)
  | str b => cases e; rw [r.1]; exact .base (.str b)
  | tup xs =>
    cases e
    obtain ⟨a, va, rfl, ha, _, _⟩ := r.tupAt
    rcases ha with (h | ⟨o, h⟩) | ⟨o, its, n, hk, hc, _⟩
    · exact .base (.tup h)
    · exact .fTuple h
    · exact .kTuple hk hc
  | lst o xs =>
    cases e
    obtain ⟨a, va, ga, rfl, ha, _, _⟩ := r.lstAt
    rcases ha with (h | ⟨o, h⟩) | ⟨o, its, n, hk, hc, _⟩
    · exact .base (.lst h)
    · exact .base (.frz h)
    · exact .kList hk hc
  | dK xs =>
    cases e
    obtain ⟨a, ws, g, rfl, h, _⟩ := r
    exact .base (.dK h)
  | dT xs =>
    cases e
    obtain ⟨a, ws, g, rfl, h, _⟩ := r
    exact .base (.dT h)
  | sK _ => exact r.elim
def rIsi1 (K : PySem.W.Frag) (T : String) : List V → Hp → VK → Prop := fun vs H Q => ∃ x, vs = [x] ∧ rIsi K [x, .ty T] H Q
theorem vo_isi {T : String} (hT : ∀ x t, tyOf x = some t → kitB t T = some (isTy T t)) : VOp K (pIsi T) (rIsi1 K T) := by
  refine vo1 fun H x v g z Q r hf q => ?_
  simp only [pIsi1, Option.map_eq_some_iff] at hf
  obtain ⟨t, e, rfl⟩ := hf
  exact ⟨v, rfl, v, .ty T, .type t, .type T, isTy T t, rfl, .ty T, tyX_of r e, kit_ty (hT x t e), q _ H Z0 rep_bl (fr0 H)⟩
theorem kit_all {T : String} (h : kitB "NoneType" T = some (isTy T "NoneType") ∧ kitB "bool" T = some (isTy T "bool") ∧ kitB "int" T = some (isTy T "int") ∧ kitB "str" T = some (isTy T "str") ∧ kitB "tuple" T = some (isTy T "tuple") ∧ kitB "list" T = some (isTy T "list") ∧ kitB "dict" T = some (isTy T "dict")) :
    ∀ x t, tyOf x = some t → kitB t T = some (isTy T t) := by
  intro x t e
  obtain ⟨h1, h2, h3, h4, h5, h6, h7⟩ := h
  cases x <;> simp only [tyOf, Option.some.injEq, reduceCtorEq] at e <;> subst e <;> assumption
theorem kit_int : ∀ x t, tyOf x = some t → kitB t "int" = some (isTy "int" t) := kit_all (by decide +kernel)
theorem kit_bool : ∀ x t, tyOf x = some t → kitB t "bool" = some (isTy "bool" t) := kit_all (by decide +kernel)
theorem kit_str : ∀ x t, tyOf x = some t → kitB t "str" = some (isTy "str" t) := kit_all (by decide +kernel)
theorem kit_tuple : ∀ x t, tyOf x = some t → kitB t "tuple" = some (isTy "tuple" t) := kit_all (by decide +kernel)
theorem kit_list : ∀ x t, tyOf x = some t → kitB t "list" = some (isTy "list" t) := kit_all (by decide +kernel)
theorem se_isi {T : String} {x : Str} {p p2 pos : Pos} {oa : M Pnd} (hT : ∀ x t, tyOf x = some t → kitB t T = some (isTy T t)) (hg : Gl X "isinstance") (hm : X.mg "isinstance" = none) (hg2 : Gl X x) (hm2 : X.mg x = none) (hv2 : bootBuiltins x = some (.type T))
    (ha : SO X W a oa) (hn2 : x ≠ "__name__" := by decide) (hdb2 : (x == ("__debug__" : Str)) = false := by decide)
    (he : starEach [a, .Name x p2] X.env = (false, eval a X.env) :: starEach [.Name x p2] X.env := by rfl) (hpl : (backTo pos (starEach [.Name x p2] X.env)).any (·.1) = false := by rfl) (he2 : starEach [.Name x p2] X.env = (false, eval (.Name x p2) X.env) :: starEach [] X.env := by rfl) :
    SE X W (.Call (.Name "isinstance" p) [a, .Name x p2] [] pos) (mOp (pIsi T) (oCons oa oNil)) :=
  PE.weaken (pe_callB call_isi hg hm (by decide +kernel) (pa_cons ha (pa_cons (pe_bltn (v := .ty T) hg2 hm2 hv2 rfl hn2 hdb2) pa_nil he2) he) (by decide) (by decide) he hpl) fun σ H Q q => ops1 (Q' := fun vs H2 => rIsi1 X.K T vs H2 Q) q (fun F ps s1 vs H1 g f1 _ h1 h2 h3 h4 h5 => op_end (vo_isi hT) h1 h2 h3 h4 h5) |> fun z => by
    obtain ⟨s, f', z1, z2, z3⟩ := z
    refine ⟨s, f', z1, z2, z3.mono fun v H1 q1 => ?_⟩
    obtain ⟨x, e1, q3⟩ := q1
    cases e1
    exact q3
end
end Bv

set_option maxHeartbeats 400000
namespace Bv
open PySem PySem.Spec PyProof.Rows L2

/-! ### names and constants -/
def mC (x : PV) : M PV := fun s => .ok x s
def mV (i : Nat) : M PV := fun s => match s[i]? with
  | some (some x) => if x.own then .bad else .ok x s
  | _ => .bad
def mMv (i : Nat) : M PV := fun s => match s[i]? with
  | some (some x) => .ok x (s.set i none)
  | _ => .bad
section
variable {X : Cx} {W : WX} {e : Expr} {es : List Expr}
theorem se_C {x : PV} {v : V} (h : PE X e (tC v)) (r : ∀ H, Rep X.K H x v Z0) : SE X W e (mC x) := PE.weaken h fun σ H Q q => by
  obtain ⟨s, f, h1, h2, h3⟩ := q
  exact h3 v H Z0 f (r H) h1 (fun b => by have := h2 b; simpa using this) (Frm.refl fun b z => by simpa using z)
theorem se_int {i : Int} {j pos} : SE X W (.Constant (.int i) j pos) (mC (.int i)) := se_C pe_int fun _ => rep_int
theorem se_bl {i : Bool} {j pos} : SE X W (.Constant (.bool i) j pos) (mC (.bl i)) := se_C pe_bl fun _ => rep_bl
theorem se_str {i : Str} {j pos} : SE X W (.Constant (.str i) j pos) (mC (.str i)) := se_C pe_str fun _ => rep_str
theorem se_non {j pos} : SE X W (.Constant .none j pos) (mC .non) := se_C pe_non fun _ => rep_non
theorem se_v (i : Nat) {x : Str} {pos : Pos} (h : PE X (.Name x pos) (tVar i)) : SE X W (.Name x pos) (mV i) := PE.weaken h fun σ H Q q => by
  obtain ⟨s, f, h1, h2, h3⟩ := q
  unfold mV at h3
  split at h3
  · rename_i y e1
    split at h3
    · exact h3.elim
    · rename_i n
      obtain ⟨v, g, l, k1, k2, k3, k4⟩ := h1.take e1
      exact ⟨v, k1, h3 v H Z0 f (k2.zero (by simpa using n)) h1 (fun b => by have := h2 b; simpa using this) (Frm.refl fun b z => by simpa using z)⟩
  · exact h3.elim
theorem se_mv (i : Nat) {x : Str} {pos : Pos} (h : PE X (.Name x pos) (tVar i)) : SE X W (.Name x pos) (mMv i) := PE.weaken h fun σ H Q q => by
  obtain ⟨s, f, h1, h2, h3⟩ := q
  unfold mMv at h3
  split at h3
  · rename_i y e1
    obtain ⟨v, g, l, k1, k2, k3, k4⟩ := h1.take e1
    exact ⟨v, k1, h3 v H g l k2 k3 (fun b => by have := h2 b; have := k4 b; omega) (Frm.refl fun b z => by have := k4 b; omega)⟩
  · exact h3.elim

/-! ### rows of values, displays -/
def SV (X : Cx) (W : WX) (es : List Expr) (m : M (List PV)) : Prop := PA X es (rdG (Reps X.K) X W m)
def vNil : M (List PV) := fun s => .ok [] s
def vCons (m : M PV) (ms : M (List PV)) : M (List PV) := fun s => (m s).bind fun x s1 => (ms s1).bind fun xs s2 => .ok (x :: xs) s2
theorem sv_nil : SV X W [] vNil := PA.weaken pa_nil fun σ H Q q => by
  obtain ⟨s, f, h1, h2, h3⟩ := q
  exact h3 [] H Z0 f ⟨rfl, fun _ => rfl⟩ h1 (fun b => by have := h2 b; simpa using this) (Frm.refl fun b z => by simpa using z)
theorem sv_cons {m : M PV} {ms : M (List PV)} (h : SE X W e m) (hs : SV X W es ms) (hst : starEach (e :: es) X.env = (false, eval e X.env) :: starEach es X.env := by rfl) : SV X W (e :: es) (vCons m ms) :=
  PA.weaken (pa_cons h hs hst) fun σ H Q q => by
    refine rdG.bind (ρ := Rep X.K) q fun f a s1 v H1 g f1 h0 h1 h2 h3 h4 h5 => ?_
    refine rdG.next (ρ := Reps X.K) (stable_rep X.K) h1 h2 h3 h4 h5 fun ps s2 vs H2 g2 f2 k1 k2 k3 k4 k5 k6 => ?_
    exact k6 (v :: vs) H2 (fun b => g b + g2 b) f2 ⟨v, vs, g, g2, rfl, k1, k2, fun _ => rfl⟩ k3 (fun b => by have := k4 b; omega) k5
def mTup (ms : M (List PV)) : M PV := fun s => (ms s).bind fun xs s' => if xs.length ≤ LIM then .ok (.tup xs) s' else .bad
def mLst (ms : M (List PV)) : M PV := fun s => (ms s).bind fun xs s' => if xs.length ≤ LIM then .ok (.lst true xs) s' else .bad
theorem live_of {K : PySem.W.Frag} {H : Hp} {s : Sl} {τ : L2.St} {f : Fp} {p : Addr} (h : SLR K H s τ f) (n : H p = none) : f p = 0 := by
  refine Classical.byContradiction fun c => ?_
  obtain ⟨o, ho, _⟩ := h.mut c
  rw [n] at ho; cases ho
theorem live_reps {K : PySem.W.Frag} {H : Hp} {xs : List PV} {vs : List V} {f : Fp} {p : Addr} (h : Reps K H xs vs f) (n : H p = none) : f p = 0 := by
  refine Classical.byContradiction fun c => ?_
  obtain ⟨o, ho, _⟩ := h.mut c
  rw [n] at ho; cases ho
theorem keptZ {H H' : Hp} (k : ∀ b o, H b = some o → H' b = some o) : Kept H H' Z0 := fun b o e _ => k b o e
theorem SLR.keptZ {K : PySem.W.Frag} {H H' : Hp} {s : Sl} {τ : L2.St} {f : Fp} (h : SLR K H s τ f) (k : ∀ b o, H b = some o → H' b = some o) : SLR K H' s τ f := h.kept (Bv.keptZ k) (fun _ n => absurd rfl n) (fun _ _ => rfl)
theorem Reps.keptZ {K : PySem.W.Frag} {H H' : Hp} {s : List PV} {τ : List V} {f : Fp} (h : Reps K H s τ f) (k : ∀ b o, H b = some o → H' b = some o) : Reps K H' s τ f := h.kept (Bv.keptZ k) (fun _ n => absurd rfl n) (fun _ _ => rfl)
theorem Rep.keptZ {K : PySem.W.Frag} {H H' : Hp} {s : PV} {τ : V} {f : Fp} (h : Rep K H s τ f) (k : ∀ b o, H b = some o → H' b = some o) : Rep K H' s τ f := h.kept (Bv.keptZ k) (fun _ n => absurd rfl n) (fun _ _ => rfl)
theorem se_tup {ms : M (List PV)} {pos : Pos} {x1} (h : SV X W es ms) : SE X W (.Tuple es x1 pos) (mTup ms) := PE.weaken (pe_tup h) fun σ H Q q => by
  refine rdG.bind (ρ := Reps X.K) q fun f xs s1 vs H1 g f1 h0 h1 h2 h3 h4 h5 => ?_
  split at h5
  · rename_i hl
    refine ⟨by rw [h1.length, lim_eq]; exact hl, fun p np => ?_⟩
    have k := keep_upd (o := .tup vs) np
    exact h5 (.ref p) _ g f1 ⟨p, vs, rfl, SqT.of upd_same, by rw [lim_eq]; exact hl, h1.keptZ k⟩ (h2.keptZ k) h3 ⟨fun b o e z => k b o (h4.keep b o e z), h4.own⟩
  · exact h5.elim
theorem se_lst {ms : M (List PV)} {pos : Pos} (h : SV X W es ms) : SE X W (.List es pos) (mLst ms) := PE.weaken (pe_lst h) fun σ H Q q => by
  refine rdG.bind (ρ := Reps X.K) q fun f xs s1 vs H1 g f1 h0 h1 h2 h3 h4 h5 => ?_
  split at h5
  · rename_i hl
    refine ⟨by rw [h1.length, lim_eq]; exact hl, fun p np => ?_⟩
    have k := keep_upd (o := .lst vs) np
    refine h5 (.ref p) _ (fun b => g b + one p b) f1 ⟨p, vs, g, rfl, upd_same, by rw [lim_eq]; exact hl, h1.keptZ k, fun _ => rfl⟩ (h2.keptZ k) (fun b => ?_) ⟨fun b o e z => k b o (h4.keep b o e z), fun b o e z => ?_⟩
    · by_cases hb : b = p
      · subst hb
        have := live_of h2 np
        have := live_reps h1 np
        rw [one_self]; omega
      · rw [one_ne hb]; have := h3 b; omega
    · have y : g b + f1 b = 0 := h4.own b o e z
      have : b ≠ p := fun z' => by
        subst z'
        rw [h4.keep _ o e z] at np; cases np
      show g b + one p b + f1 b = 0
      rw [one_ne this]; omega
  · exact h5.elim
end

/-! ### tests -/
def BRep (_ : Hp) (b c : Bool) (g : Fp) : Prop := b = c ∧ ∀ x, g x = 0
theorem stable_b : Stable BRep := ⟨fun _ _ _ _ _ _ _ _ _ h => h, fun _ _ _ _ b h n => absurd (h.2 b) n⟩
def ST (X : Cx) (W : WX) (e : Expr) (m : M Bool) : Prop := PT X e (rdG BRep X W m)
def mT (m : M PV) : M Bool := fun s => (m s).bind fun x s' => match x with | .bl b => .ok b s' | _ => .bad
def mAnd (a b : M Bool) : M Bool := fun s => (a s).bind fun c s' => if c then b s' else .ok false s'
def mOr (a b : M Bool) : M Bool := fun s => (a s).bind fun c s' => if c then .ok true s' else b s'
def mNot (a : M Bool) : M Bool := fun s => (a s).bind fun c s' => .ok (!c) s'
def mB (a : M Bool) : M PV := fun s => (a s).bind fun c s' => .ok (.bl c) s'
def mIte {α : Type} (c : M Bool) (a b : M α) : M α := fun s => (c s).bind fun d s' => if d then a s' else b s'
section
variable {X : Cx} {W : WX} {e a b c : Expr} {rest : List Expr} {pos : Pos}
theorem gp_same {α β : Type} {ρ : Hp → α → β → Fp → Prop} {H H1 : Hp} {f g f1 : Fp} {σ : L2.St} {Q : β → Hp → Prop} {r : R α} (z : ∀ b, g b = 0) (fr : Frm H H1 f (fun b => g b + f1 b)) (h : GP ρ X W H f σ Q r) : GP ρ X W H1 f1 σ Q r := by
  have z1 : ∀ b, g b + f1 b = 0 → f1 b = 0 := fun b h => by omega
  cases r with
  | ok a s' => exact fun v H' g' f' h1 h2 h3 h4 => h v H' g' f' h1 h2 h3 ⟨fun c o e y => h4.keep c o (fr.keep c o e y) (z1 c (fr.own c o e y)), fun c o e y => h4.own c o (fr.keep c o e y) (z1 c (fr.own c o e y))⟩
  | exc x s' => exact XPost.step h fr z1
  | bad => exact h
theorem gp_ok {α β : Type} {ρ : Hp → α → β → Fp → Prop} {H H1 : Hp} {f g f1 : Fp} {σ : L2.St} {Q : β → Hp → Prop} {x : α} {s1 : Sl} {v : β} (h : GP ρ X W H f σ Q (.ok x s1)) (r : ρ H1 x v Z0) (z : ∀ b, g b = 0) (hs : SLR X.K H1 s1 σ f1) (le : ∀ b, g b + f1 b ≤ 1) (fr : Frm H H1 f (fun b => g b + f1 b)) : Q v H1 :=
  h v H1 Z0 f1 r hs (fun b => by have := le b; show 0 + f1 b ≤ 1; omega) ⟨fr.keep, fun c o e y => by have : g c + f1 c = 0 := fr.own c o e y; show 0 + f1 c = 0; omega⟩
/-- a bool's value as a test -/
theorem test_of {m : M PV} {σ : L2.St} {H : Hp} {Q : Bool → Hp → Prop} (q : rdG BRep X W (mT m) σ H Q) : rdG (Rep X.K) X W m σ H (fun x H1 => ∃ c, x = .bl c ∧ Q c H1) := by
  refine rdG.bind (ρ := Rep X.K) q fun f x s1 v H1 g f1 h0 h1 h2 h3 h4 h5 => ?_
  cases x with
  | bl d =>
    obtain ⟨rfl, z⟩ := h1
    exact ⟨d, rfl, gp_ok h5 ⟨rfl, fun _ => rfl⟩ z h2 h3 h4⟩
  | _ => exact h5.elim
theorem st_val {m : M PV} (h : SE X W e m) (he : ∀ whole, isTrue e X.env whole = (do let v ← whole; standAt e.pos; holding [v] (truthy v)) := by intro _; rfl) : ST X W e (mT m) := PT.weaken (pt_val h he) fun σ H Q q => test_of q
theorem st_cmp {op : CmpOp} {r : R2} {f : List PV → Option PV} {oa ob : M Pnd} (ho : OpR X (compareOp op) r) (vo : VOp X.K f (r2L r)) (ha : SO X W a oa) (hb : SO X W b ob) (hm : behindInMarks op b = false) : ST X W (.Compare a [op] [b] pos) (mT (mOp f (oCons oa (oCons ob oNil)))) :=
  PT.weaken (pt_cmpR ho ha hb hm) fun σ H Q q => by
    have z := ops2 (Q' := fun vs H2 => ∃ x y, vs = [x, y] ∧ r x y H2 (fun x H1 => ∃ c, x = .bl c ∧ Q c H1)) (test_of q) (fun F ps s1 vs H1 g f1 _ h1 h2 h3 h4 h5 => op_end (r := r2L r) vo h1 h2 h3 h4 h5)
    obtain ⟨s, f', z1, z2, z3⟩ := z
    refine ⟨s, f', z1, z2, z3.mono fun v H1 q1 => ?_⟩
    obtain ⟨s', f'', w1, w2, w3⟩ := q1
    refine ⟨s', f'', w1, w2, w3.mono fun v2 H2 q2 => ?_⟩
    obtain ⟨x, y, e1, q3⟩ := q2
    cases e1
    exact q3
def SW (X : Cx) (W : WX) (e : Expr) (m : M Bool) : Prop := PW X e (rdG BRep X W m)
theorem PW.weaken {X : Cx} {e : Expr} {t t' : TT} (h : PW X e t) (w : ∀ σ H Q, t' σ H Q → t σ H Q) : PW X e t' := ⟨fun wh pins s σ H Q I q => h.run wh pins s σ H Q I (w σ H Q q)⟩
theorem sw_and1 {m : M Bool} (h : ST X W a m) : SW X W (.BoolOp .And [a] pos) m := pw_and1 h
theorem sw_or1 {m : M Bool} (h : ST X W a m) : SW X W (.BoolOp .Or [a] pos) m := pw_or1 h
theorem sw_and {m n : M Bool} (h : ST X W a m) (hb : SW X W (.BoolOp .And (b :: rest) pos) n) : SW X W (.BoolOp .And (a :: b :: rest) pos) (mAnd m n) := PW.weaken (pw_and h hb) fun σ H Q q => by
  refine rdG.bind (ρ := BRep) q fun f x s1 v H1 g f1 h0 h1 h2 h3 h4 h5 => ?_
  obtain ⟨rfl, z⟩ := h1
  cases x with
  | true => exact ⟨s1, f1, h2, fun b => by have := h3 b; omega, gp_same z h4 h5⟩
  | false => exact gp_ok h5 ⟨rfl, fun _ => rfl⟩ z h2 h3 h4
theorem sw_or {m n : M Bool} (h : ST X W a m) (hb : SW X W (.BoolOp .Or (b :: rest) pos) n) : SW X W (.BoolOp .Or (a :: b :: rest) pos) (mOr m n) := PW.weaken (pw_or h hb) fun σ H Q q => by
  refine rdG.bind (ρ := BRep) q fun f x s1 v H1 g f1 h0 h1 h2 h3 h4 h5 => ?_
  obtain ⟨rfl, z⟩ := h1
  cases x with
  | false => exact ⟨s1, f1, h2, fun b => by have := h3 b; omega, gp_same z h4 h5⟩
  | true => exact gp_ok h5 ⟨rfl, fun _ => rfl⟩ z h2 h3 h4
theorem st_bool {m : M Bool} (h : SW X W e m) : ST X W e m := h.pt
theorem st_not {m : M Bool} (h : ST X W a m) : ST X W (.UnaryOp .Not a pos) (mNot m) := PT.weaken (pt_not h) fun σ H Q q => by
  refine rdG.bind (ρ := BRep) q fun f x s1 v H1 g f1 h0 h1 h2 h3 h4 h5 => ?_
  obtain ⟨rfl, z⟩ := h1
  exact gp_ok h5 ⟨rfl, fun _ => rfl⟩ z h2 h3 h4
/-- .. as values -/
def mAndV (a b : M PV) : M PV := fun s => (a s).bind fun x s' => match x with | .bl c => if c then b s' else .ok (.bl false) s' | _ => .bad
def mOrV (a b : M PV) : M PV := fun s => (a s).bind fun x s' => match x with | .bl c => if c then .ok (.bl true) s' else b s' | _ => .bad
def mNotV (a : M PV) : M PV := fun s => (a s).bind fun x s' => match x with | .bl c => .ok (.bl (!c)) s' | _ => .bad
theorem se_one {op : BoolOp} {m : M PV} (h : SE X W a m) : SE X W (.BoolOp op [a] pos) m := pe_one h
theorem se_and {m n : M PV} (h : SE X W a m) (hb : SE X W (.BoolOp .And (b :: rest) pos) n) : SE X W (.BoolOp .And (a :: b :: rest) pos) (mAndV m n) := PE.weaken (pe_and h hb) fun σ H Q q => by
  refine rdG.bind (ρ := Rep X.K) q fun f x s1 v H1 g f1 h0 h1 h2 h3 h4 h5 => ?_
  cases x with
  | bl d =>
    obtain ⟨rfl, z⟩ := h1
    refine ⟨d, rfl, ?_⟩
    cases d with
    | true => exact ⟨s1, f1, h2, fun b => by have := h3 b; omega, gp_same z h4 h5⟩
    | false => exact gp_ok h5 rep_bl z h2 h3 h4
  | _ => exact h5.elim
theorem se_or {m n : M PV} (h : SE X W a m) (hb : SE X W (.BoolOp .Or (b :: rest) pos) n) : SE X W (.BoolOp .Or (a :: b :: rest) pos) (mOrV m n) := PE.weaken (pe_or h hb) fun σ H Q q => by
  refine rdG.bind (ρ := Rep X.K) q fun f x s1 v H1 g f1 h0 h1 h2 h3 h4 h5 => ?_
  cases x with
  | bl d =>
    obtain ⟨rfl, z⟩ := h1
    refine ⟨d, rfl, ?_⟩
    cases d with
    | false => exact ⟨s1, f1, h2, fun b => by have := h3 b; omega, gp_same z h4 h5⟩
    | true => exact gp_ok h5 rep_bl z h2 h3 h4
  | _ => exact h5.elim
theorem se_not {m : M PV} (h : SE X W a m) : SE X W (.UnaryOp .Not a pos) (mNotV m) := PE.weaken (pe_not h) fun σ H Q q => by
  refine rdG.bind (ρ := Rep X.K) q fun f x s1 v H1 g f1 h0 h1 h2 h3 h4 h5 => ?_
  cases x with
  | bl d =>
    obtain ⟨rfl, z⟩ := h1
    exact ⟨d, rfl, gp_ok h5 rep_bl z h2 h3 h4⟩
  | _ => exact h5.elim
theorem se_ite {mc : M Bool} {m n : M PV} (hc : ST X W c mc) (ha : SE X W a m) (hb : SE X W b n) : SE X W (.IfExp c a b pos) (mIte mc m n) := PE.weaken (pe_ifExp hc ha hb) fun σ H Q q => by
  refine rdG.bind (ρ := BRep) q fun f x s1 v H1 g f1 h0 h1 h2 h3 h4 h5 => ?_
  obtain ⟨rfl, z⟩ := h1
  cases x with
  | true => exact ⟨s1, f1, h2, fun b => by have := h3 b; omega, gp_same z h4 h5⟩
  | false => exact ⟨s1, f1, h2, fun b => by have := h3 b; omega, gp_same z h4 h5⟩
/-- -x -/
theorem se_neg {oa : M Pnd} (ha : SO X W a oa) : SE X W (.UnaryOp .USub a pos) (mOp pNeg (oCons oa oNil)) :=
  PE.weaken (pe_un un_neg ha) fun σ H Q q => by
    have z := ops1 (Q' := fun vs H2 => ∃ x, vs = [x] ∧ rU (fun i => .int (-i)) x H2 Q) q (fun F ps s1 vs H1 g f1 _ h1 h2 h3 h4 h5 => op_end (r := r1L (rU fun i => .int (-i))) vo_neg h1 h2 h3 h4 h5)
    obtain ⟨s, f', z1, z2, z3⟩ := z
    refine ⟨s, f', z1, z2, z3.mono fun v H1 q1 => ?_⟩
    obtain ⟨x, e1, q3⟩ := q1
    cases e1
    exact q3
end
end Bv

set_option maxHeartbeats 400000
namespace Bv
open PySem PySem.Spec PyProof.Rows L2

/-! ### a < b < c of ints -/
def intOf (s : Sl) (p : Pnd) : Option Int := match p.get s with | some (.int i) => some i | _ => none
def mChain (p p' : Int → Int → Bool) (oa ob oc : M Pnd) : M PV := fun s => (oa s).bind fun pa s1 => (ob s1).bind fun pb s2 =>
  match intOf s2 pa, intOf s2 pb with
  | some i, some j => if p i j then (oc s2).bind fun pc s3 => match intOf s3 pb, intOf s3 pc with | some j', some k => .ok (.bl (p' j' k)) s3 | _, _ => .bad
    else .ok (.bl false) s2
  | _, _ => .bad
section
variable {X : Cx} {W : WX} {a b c e : Expr} {pos : Pos}
theorem intOf_rep {K : PySem.W.Frag} {σ : L2.St} {H : Hp} {s : Sl} {f g : Fp} {p : Pnd} {v : V} {i : Int} (hs : SLR K H s σ f) (hp : PRep K σ H p v g) (h : intOf s p = some i) : v = .int i ∧ ∀ b, g b = 0 := by
  unfold intOf at h
  split at h
  · rename_i j e
    cases h
    cases p with
    | val y =>
      have e : y = .int i := Option.some.inj e
      subst e
      exact hp
    | loc n =>
      have e2 : s[n]?.join = some (.int i) := e
      have e3 : s[n]? = some (some (.int i)) := by
        cases e5 : s[n]? with
        | none => rw [e5] at e2; cases e2
        | some o => rw [e5] at e2; rw [show o = some (.int i) from e2]
      obtain ⟨v', g', h', k1, k2, _⟩ := hs.take e3
      have : v' = v := by
        have := k1.symm.trans hp.1
        simpa using this
      subst this
      exact ⟨k2.1, hp.2⟩
  · cases h
theorem chain_core {p p' : Int → Int → Bool} {oa ob oc : M Pnd} {σ : L2.St} {H : Hp} {Q : VK} (q : rdG (Rep X.K) X W (mChain p p' oa ob oc) σ H Q) :
    tChain (rI0 fun i j => .bl (p i j)) (rI0 fun i j => .bl (p' i j)) (fun σ H Q => rdG (PRep X.K σ) X W oa σ H Q) (fun σ H Q => rdG (PRep X.K σ) X W ob σ H Q) (fun σ H Q => rdG (PRep X.K σ) X W oc σ H Q) σ H Q := by
  refine rdG.bind (ρ := PRep X.K σ) q fun f pa s1 v H1 g f1 h0 h1 h2 h3 h4 h5 => ?_
  refine rdG.next (ρ := PRep X.K σ) (stable_prep X.K σ) h1 h2 h3 h4 h5 fun pb s2 w H2 g2 f2 k1 k2 k3 k4 k5 k6 => ?_
  cases ei : intOf s2 pa with
  | none => rw [ei] at k6; exact k6.elim
  | some i =>
    cases ej : intOf s2 pb with
    | none => rw [ei, ej] at k6; exact k6.elim
    | some j =>
      rw [ei, ej] at k6
      dsimp only at k6
      obtain ⟨rfl, z1⟩ := intOf_rep k3 k1 ei
      obtain ⟨rfl, z2⟩ := intOf_rep k3 k2 ej
      refine ⟨i, j, rfl, rfl, p i j, rfl, ?_⟩
      have k5' : Frm H H2 f (fun b => g2 b + f2 b) := ⟨k5.keep, fun b o e z => by have : g b + g2 b + f2 b = 0 := k5.own b o e z; show g2 b + f2 b = 0; omega⟩
      cases hp : p i j with
      | false =>
        rw [hp] at k6
        rw [if_neg Bool.false_ne_true]
        exact gp_ok k6 rep_bl z2 k3 (fun b => by have := k4 b; omega) k5'
      | true =>
        rw [hp] at k6
        rw [if_pos rfl]
        refine rdG.next (ρ := PRep X.K σ) (stable_prep X.K σ) k2 k3 (fun b => by have := k4 b; omega) k5' k6 fun pc s3 u H3 g3 f3 l1 l2 l3 l4 l5 l6 => ?_
        cases ej' : intOf s3 pb with
        | none => rw [ej'] at l6; exact l6.elim
        | some j' =>
          cases ek : intOf s3 pc with
          | none => rw [ej', ek] at l6; exact l6.elim
          | some k =>
            rw [ej', ek] at l6
            obtain ⟨e1, z3⟩ := intOf_rep l3 l1 ej'
            obtain ⟨rfl, z4⟩ := intOf_rep l3 l2 ek
            cases e1
            refine ⟨j, k, rfl, rfl, ?_⟩
            exact gp_ok (g := fun b => g2 b + g3 b) l6 rep_bl (fun b => by show g2 b + g3 b = 0; rw [z2 b, z4 b]) l3 (fun b => by have := l4 b; show g2 b + g3 b + f3 b ≤ 1; omega) ⟨l5.keep, fun b o e z => by have := l5.own b o e z; exact this⟩
theorem se_chain {op op' : CmpOp} {p p' : Int → Int → Bool} {oa ob oc : M Pnd} (ho : OpR X (compareOp op) (rI0 fun i j => .bl (p i j))) (ho' : OpR X (compareOp op') (rI0 fun i j => .bl (p' i j))) (ha : SO X W a oa) (hb : SO X W b ob) (hc : SO X W c oc)
    (hm : lastMarks [op, op'] [b, c] = false := by with_unfolding_all rfl) : SE X W (.Compare a [op, op'] [b, c] pos) (mChain p p' oa ob oc) := PE.weaken (pe_chain ho ho' ha hb hc hm) fun σ H Q q => chain_core q
theorem st_chain {op op' : CmpOp} {p p' : Int → Int → Bool} {oa ob oc : M Pnd} (ho : OpR X (compareOp op) (rI0 fun i j => .bl (p i j))) (ho' : OpR X (compareOp op') (rI0 fun i j => .bl (p' i j))) (ha : SO X W a oa) (hb : SO X W b ob) (hc : SO X W c oc)
    (hm : lastMarks [op, op'] [b, c] = false := by with_unfolding_all rfl) : ST X W (.Compare a [op, op'] [b, c] pos) (mT (mChain p p' oa ob oc)) := PT.weaken (pt_chain ho ho' ha hb hc hm) fun σ H Q q => chain_core (test_of q)
end

/-! ### calls -/
inductive CR where
  | ok (x : PV) (ys : List PV)
  | exc (e : XV) (ys : List PV)
  | bad
def CPost (K : PySem.W.Frag) (mg : Str → Option Value) (H : Hp) (f : Fp) (vs : List V) (Q : VK) (E : XK) : CR → Prop
  | .ok x ys => ∀ v H' g f', Rep K H' x v g → Reps K H' ys vs f' → (∀ b, g b + f' b ≤ 1) → Frm H H' f (fun b => g b + f' b) → Q v H'
  | .exc e ys => ∀ cls d H' f', XRep K mg H' e cls d → Reps K H' ys vs f' → (∀ b, f' b ≤ 1) → Frm H H' f f' → E cls d H'
  | .bad => False
def spB (K : PySem.W.Frag) (mg : Str → Option Value) (np : Nat) (C : List PV → CR) : Sp := fun vs H Q E => ∃ xs f, xs.length = np ∧ Reps K H xs vs f ∧ (∀ b, f b ≤ 1) ∧ CPost K mg H f vs Q E (C xs)
/-- a def as it stands, with what it is worth -/
structure FB (P : Program) (w : World) (K : PySem.W.Frag) (mg : Str → Option Value) (base : Heap) (k : Nat) (x : Str) (np : Nat) (C : List PV → CR) : Prop where
  ex : ∃ (f : Addr) (fd : FuncData) (ps : List Str), ps.length = np ∧ mg x = some (.ref f) ∧ PySem.W.keepIn K (.ref f) = true ∧ Binds K fd ps [] ∧ FnOk P w K mg base (L2.CX P w) k f fd ps (spB K mg np C)

/-- what is owned is handed on for the call -/
def takeP : List Pnd → Sl → Option (List PV × Sl)
  | [], s => some ([], s)
  | .val x :: r, s => match takeP r s with | some (xs, s') => some (x :: xs, s') | none => none
  | .loc i :: r, s => match s[i]? with
    | some (some x) => match takeP r (if x.own then s.set i none else s) with | some (xs, s') => some (x :: xs, s') | none => none
    | _ => none
def putP : List Pnd → List PV → Sl → Sl
  | .loc i :: r, y :: ys, s => putP r ys (match s[i]? with | some none => s.set i (some y) | _ => s)
  | .val _ :: r, _ :: ys, s => putP r ys s
  | _, _, s => s
def mCall (C : List PV → CR) (os : M (List Pnd)) : M PV := fun s => (os s).bind fun ps s1 => match takeP ps s1 with
  | some (xs, s2) => match C xs with
    | .ok x ys => .ok x (putP ps ys s2)
    | .exc e ys => .exc e (putP ps ys s2)
    | .bad => .bad
  | none => .bad
theorem set_same {α : Type} {l : List α} {i : Nat} {x : α} (h : l[i]? = some x) : l.set i x = l := by
  apply List.ext_getElem?
  intro j
  rw [List.getElem?_set]
  split
  · rename_i e
    subst e
    have := (List.getElem?_eq_some_iff.mp h).1
    rw [if_pos this, h]
  · rfl
section
variable {K : PySem.W.Frag} {σ : L2.St} {H : Hp}
theorem take_ok : ∀ {ps : List Pnd} {vs : List V} {g f : Fp} {s s' : Sl} {xs : List PV}, PReps K σ H ps vs g → SLR K H s σ f → takeP ps s = some (xs, s') →
    ∃ fa f', Reps K H xs vs fa ∧ SLR K H s' σ f' ∧ xs.length = ps.length ∧ ∀ b, fa b + f' b = g b + f b
  | [], vs, g, f, s, s', xs, hp, hs, e => by
    cases (Option.some.inj e)
    exact ⟨Z0, f, ⟨hp.1, fun _ => rfl⟩, hs, rfl, fun b => by rw [hp.2 b]⟩
  | .val x :: r, vs, g, f, s, s', xs, hp, hs, e => by
    obtain ⟨v, ws, g1, g2, rfl, h1, h2, hg⟩ := hp
    simp only [takeP] at e
    cases e1 : takeP r s with
    | none => rw [e1] at e; cases e
    | some p =>
      obtain ⟨ys, s1⟩ := p
      rw [e1] at e
      cases (Option.some.inj e)
      obtain ⟨fa, f', k1, k2, k3, k4⟩ := take_ok h2 hs e1
      exact ⟨fun b => g1 b + fa b, f', ⟨v, ws, g1, fa, rfl, h1, k1, fun _ => rfl⟩, k2, by simp [k3], fun b => by have := k4 b; rw [hg b]; dsimp only; omega⟩
  | .loc i :: r, vs, g, f, s, s', xs, hp, hs, e => by
    obtain ⟨v, ws, g1, g2, rfl, h1, h2, hg⟩ := hp
    simp only [takeP] at e
    split at e
    · rename_i x e0
      obtain ⟨v', gx, hx, l1, l2, l3, l4⟩ := hs.take e0
      have ev : v' = v := by have := l1.symm.trans h1.1; simpa using this
      subst ev
      cases e1 : takeP r (if x.own then s.set i none else s) with
      | none => rw [e1] at e; cases e
      | some p =>
        obtain ⟨ys, s1⟩ := p
        rw [e1] at e
        cases (Option.some.inj e)
        cases ho : x.own with
        | true =>
          rw [ho, if_pos rfl] at e1
          obtain ⟨fa, f', k1, k2, k3, k4⟩ := take_ok h2 l3 e1
          exact ⟨fun b => gx b + fa b, f', ⟨v', ws, gx, fa, rfl, l2, k1, fun _ => rfl⟩, k2, by simp [k3], fun b => by have := k4 b; have := l4 b; have := h1.2 b; rw [hg b]; dsimp only; omega⟩
        | false =>
          rw [ho, if_neg Bool.false_ne_true] at e1
          obtain ⟨fa, f', k1, k2, k3, k4⟩ := take_ok h2 hs e1
          exact ⟨fa, f', ⟨v', ws, Z0, fa, rfl, l2.zero ho, k1, fun b => by simp⟩, k2, by simp [k3], fun b => by have := k4 b; have := h1.2 b; rw [hg b]; omega⟩
    · cases e
theorem put_ok : ∀ {ps : List Pnd} {vs : List V} {g f fa : Fp} {s : Sl} {ys : List PV} {H0 : Hp}, PReps K σ H0 ps vs g → SLR K H s σ f → Reps K H ys vs fa → (∀ b, fa b + f b ≤ 1) →
    ∃ f', SLR K H (putP ps ys s) σ f' ∧ ∀ b, f' b ≤ fa b + f b
  | [], vs, g, f, fa, s, ys, H0, hp, hs, hy, le => by
    cases ys <;> exact ⟨f, hs, fun b => by omega⟩
  | .val x :: r, vs, g, f, fa, s, [], H0, hp, hs, hy, le => ⟨f, hs, fun b => by omega⟩
  | .loc x :: r, vs, g, f, fa, s, [], H0, hp, hs, hy, le => ⟨f, hs, fun b => by omega⟩
  | .val x :: r, vs, g, f, fa, s, y :: ys, H0, hp, hs, hy, le => by
    obtain ⟨v, ws, g1, g2, rfl, h1, h2, hg⟩ := hp
    obtain ⟨v', ws', a1, a2, e, k1, k2, hk⟩ := hy
    cases e
    obtain ⟨f', l1, l2⟩ := put_ok h2 hs k2 (fun b => by have := le b; have := hk b; omega)
    exact ⟨f', l1, fun b => by have := l2 b; have := hk b; omega⟩
  | .loc i :: r, vs, g, f, fa, s, y :: ys, H0, hp, hs, hy, le => by
    obtain ⟨v, ws, g1, g2, rfl, h1, h2, hg⟩ := hp
    obtain ⟨v', ws', a1, a2, e, k1, k2, hk⟩ := hy
    cases e
    simp only [putP]
    cases e0 : s[i]? with
    | none =>
      obtain ⟨f', l1, l2⟩ := put_ok h2 hs k2 (fun b => by have := le b; have := hk b; omega)
      exact ⟨f', l1, fun b => by have := l2 b; have := hk b; omega⟩
    | some o =>
      cases o with
      | some z =>
        obtain ⟨f', l1, l2⟩ := put_ok h2 hs k2 (fun b => by have := le b; have := hk b; omega)
        exact ⟨f', l1, fun b => by have := l2 b; have := hk b; omega⟩
      | none =>
        have hs' := SLR.put hs e0 k1
        rw [set_same h1.1] at hs'
        obtain ⟨f', l1, l2⟩ := put_ok h2 hs' k2 (fun b => by have := le b; have := hk b; omega)
        exact ⟨f', l1, fun b => by have := l2 b; have := hk b; omega⟩
end
section
variable {X : Cx} {W : WX} {e : Expr} {es : List Expr} {pos p : Pos} {x : Str}
/-- the call's own end -/
theorem call_end {C : List PV → CR} {np : Nat} {σ : L2.St} {H H1 : Hp} {F g f1 : Fp} {ps : List Pnd} {s1 : Sl} {vs : List V} {Q : VK} (hl : ps.length = np) (hF : ∀ b, F b ≤ 1)
    (h1 : PReps X.K σ H1 ps vs g) (h2 : SLR X.K H1 s1 σ f1) (h3 : ∀ b, g b + f1 b ≤ 1) (h4 : Frm H H1 F (fun b => g b + f1 b))
    (h5 : GP (Rep X.K) X W H F σ Q (match takeP ps s1 with
      | some (xs, s2) => match C xs with
        | .ok x ys => .ok x (putP ps ys s2)
        | .exc e ys => .exc e (putP ps ys s2)
        | .bad => .bad
      | none => .bad)) : spB X.K X.mg np C vs H1 Q (WE W σ) := by
  cases e1 : takeP ps s1 with
  | none => rw [e1] at h5; exact h5.elim
  | some pr =>
    obtain ⟨xs, s2⟩ := pr
    rw [e1] at h5
    dsimp only at h5
    obtain ⟨fa, f', k1, k2, k3, k4⟩ := take_ok h1 h2 e1
    have le : ∀ b, fa b + f' b ≤ 1 := fun b => by have := k4 b; have := h3 b; omega
    refine ⟨xs, fa, k3.trans hl, k1, fun b => by have := le b; omega, ?_⟩
    have own : ∀ b o, H b = some o → F b = 0 → fa b = 0 ∧ f' b = 0 := fun b o e z => by
      have : g b + f1 b = 0 := h4.own b o e z
      have := k4 b
      omega
    cases e2 : C xs with
    | bad => rw [e2] at h5; exact h5.elim
    | ok y ys =>
      rw [e2] at h5
      intro v H' gv fa' r1 r2 r3 fr
      have st : SLR X.K H' s2 σ f' := k2.kept fr.kept (fun b n => k1.mut n) (fun b n => by have := le b; omega)
      have le2 : ∀ b, gv b + fa' b + f' b ≤ 1 := fun b => by
        by_cases hf : f' b = 0
        · have := r3 b; omega
        · obtain ⟨o, ho, _⟩ := k2.mut hf
          have : gv b + fa' b = 0 := fr.own b o ho (by have := le b; omega)
          have := le b
          omega
      obtain ⟨f'', l1, l2⟩ := put_ok h1 st r2 (fun b => by have := le2 b; omega)
      exact h5 v H' gv f'' r1 l1 (fun b => by have := l2 b; have := le2 b; omega) ⟨fun b o e z => fr.keep b o (h4.keep b o e z) (own b o e z).1, fun b o e z => by
        have y1 : gv b + fa' b = 0 := fr.own b o (h4.keep b o e z) (own b o e z).1
        have := l2 b
        have := (own b o e z).2
        show gv b + f'' b = 0
        omega⟩
    | exc y ys =>
      rw [e2] at h5
      intro cls d H' fa' r1 r2 r3 fr
      have st : SLR X.K H' s2 σ f' := k2.kept fr.kept (fun b n => k1.mut n) (fun b n => by have := le b; omega)
      have le2 : ∀ b, fa' b + f' b ≤ 1 := fun b => by
        by_cases hf : f' b = 0
        · have := r3 b; omega
        · obtain ⟨o, ho, _⟩ := k2.mut hf
          have : fa' b = 0 := fr.own b o ho (by have := le b; omega)
          have := le b
          omega
      obtain ⟨f'', l1, l2⟩ := put_ok h1 st r2 le2
      exact h5 cls d H' f'' r1 l1 (fun b => by have := l2 b; have := le2 b; omega) ⟨fun b o e z => fr.keep b o (h4.keep b o e z) (own b o e z).1, fun b o e z => by
        have y1 : fa' b = 0 := fr.own b o (h4.keep b o e z) (own b o e z).1
        have := l2 b
        have := (own b o e z).2
        omega⟩
theorem preps_length {K : PySem.W.Frag} {σ : L2.St} {H : Hp} : ∀ {ps : List Pnd} {vs : List V} {f : Fp}, PReps K σ H ps vs f → vs.length = ps.length
  | [], vs, f, h => by rw [h.1]; rfl
  | p :: ps, vs, f, h => by
    obtain ⟨v, ws, g, l, rfl, _, r, _⟩ := h
    rw [List.length_cons, List.length_cons, preps_length r]
/-- f(..): how many operands are known where they are made -/
def mCallN (np : Nat) (C : List PV → CR) (os : M (List Pnd)) : M PV := fun s => (os s).bind fun ps s1 => if ps.length = np then (match takeP ps s1 with
  | some (xs, s2) => match C xs with
    | .ok x ys => .ok x (putP ps ys s2)
    | .exc e ys => .exc e (putP ps ys s2)
    | .bad => .bad
  | none => .bad) else .bad
theorem se_call {k np : Nat} {C : List PV → CR} {os : M (List Pnd)} (tk : Takes X W) (F : FB X.prog X.w X.K X.mg X.base k x np C) (hr : Room k X.A) (hg : Gl X x) (ha : SA X W (e :: es) os)
    (hdb : (x == ("__debug__" : Str)) = false := by decide) (he : starEach (e :: es) X.env = (false, eval e X.env) :: starEach es X.env := by rfl) (hpl : (backTo pos (starEach es X.env)).any (·.1) = false := by rfl) :
    SE X W (.Call (.Name x p) (e :: es) [] pos) (mCallN np C os) := by
  obtain ⟨f, fd, ps, h1, h2, h3, h4, h5⟩ := F.ex
  refine PE.weaken (pe_callS h5 hr hg h2 h3 h4 (fun σ => passAt tk σ) ha hdb he hpl) fun σ H Q q => ?_
  refine rdG.bind (ρ := PReps X.K σ) q fun F ps s1 vs H1 g f1 h0 k1 k2 k3 k4 k5 => ?_
  split at k5
  · rename_i hl
    have z := call_end hl h0 k1 k2 k3 k4 k5
    first
      | exact z
      | (rw [List.append_nil]; exact z)
  · exact k5.elim
end
end Bv

set_option maxHeartbeats 400000
namespace Bv
open PySem PySem.Spec PyProof.Rows L2

/-! ### targets -/
section
variable {K : PySem.W.Frag} {H : Hp}
theorem getElem?_set_none {s : Sl} {i : Nat} (h : i < s.length) : (s.set i none)[i]? = some none := List.getElem?_set_self h
/-- a slot stored -/
theorem SLR.store {s : Sl} {τ : L2.St} {f g : Fp} {x : PV} {v : V} (i : Nat) (h : SLR K H s τ f) (r : Rep K H x v g) : ∃ f', SLR K H (s.set i (some x)) (τ.set i (some v)) f' ∧ ∀ b, f' b ≤ g b + f b := by
  by_cases hi : i < s.length
  · obtain ⟨l, h1, h2⟩ := SLR.forget i h
    have h3 := SLR.put h1 (getElem?_set_none hi) r
    rw [List.set_set] at h3
    exact ⟨_, h3, fun b => by have := h2 b; omega⟩
  · refine ⟨f, ?_, fun b => by omega⟩
    rw [List.set_eq_of_length_le (by omega), List.set_eq_of_length_le (by rw [h.length]; omega)]
    exact h
end
/-- a target: what storing x into it leaves; ix: the slots that it may store into -/
structure TgOk (X : Cx) (tg : Expr) (t : PV → Sl → Option Sl) (ix : List Nat) : Prop where
  ex : ∃ g, PG X tg g ∧ ∀ (x : PV) (s s1 : Sl) (v : V) (σ : L2.St) (H : Hp) (f gx : Fp) (Q : L2.St → Hp → Prop), t x s = some s1 → Rep X.K H x v gx → SLR X.K H s σ f →
    (∀ σ' f', SLR X.K H s1 σ' f' → (∀ b, f' b ≤ gx b + f b) → (∀ j, j ∉ ix → σ'[j]? = σ[j]?) → σ'.length = σ.length → Q σ' H) → g v σ H Q
def t1 (i : Nat) (x : PV) (s : Sl) : Option Sl := some (s.set i (some x))
def tN (is : List Nat) (x : PV) (s : Sl) : Option Sl := match x with
  | .tup xs => if xs.length = is.length then some ((is.zip xs).foldl (fun s p => s.set p.1 (some p.2)) s) else none
  | _ => none
section
variable {X : Cx} {pos : Pos}
theorem tg_name (i : Nat) {x : Str} (h : PG X (.Name x pos) (gName i)) : TgOk X (.Name x pos) (t1 i) [i] := ⟨gName i, h, fun x s s1 v σ H f gx Q e r hs q => by
  cases (Option.some.inj e)
  obtain ⟨f', h1, h2⟩ := hs.store i r
  exact q _ f' h1 h2 (fun j hj => List.getElem?_set_ne (fun z => hj (by simp [z]))) (List.length_set)⟩
/-- several names, one after another -/
inductive PNs (X : Cx) : List Expr → List Nat → TGs → Prop where
  | nil : PNs X [] [] gNil
  | cons {x : Str} {p : Pos} {es : List Expr} {i : Nat} {is : List Nat} {t : TGs} (h : PG X (.Name x p) (gName i)) (r : PNs X es is t) (hs : (assignEach (.Name x p :: es) X.env).map (·.2) = assign (.Name x p) X.env :: (assignEach es X.env).map (·.2)) : PNs X (.Name x p :: es) (i :: is) (gCons (gName i) t)
theorem PNs.pgs : ∀ {es : List Expr} {is : List Nat} {t : TGs}, PNs X es is t → PGs X es t
  | _, _, _, .nil => pgs_nil
  | _, _, _, .cons h r hs => pgs_cons h r.pgs hs
theorem PNs.run : ∀ {es : List Expr} {is : List Nat} {t : TGs}, PNs X es is t → ∀ {xs : List PV} {vs : List V} {s : Sl} {σ : L2.St} {H : Hp} {f gx : Fp} {Q : L2.St → Hp → Prop}, xs.length = is.length → Reps X.K H xs vs gx → SLR X.K H s σ f →
    (∀ σ' f', SLR X.K H ((is.zip xs).foldl (fun s p => s.set p.1 (some p.2)) s) σ' f' → (∀ b, f' b ≤ gx b + f b) → (∀ j, j ∉ is → σ'[j]? = σ[j]?) → σ'.length = σ.length → Q σ' H) → t vs σ H Q
  | _, _, _, .nil, [], vs, s, σ, H, f, gx, Q, hl, r, hs, q => ⟨r.1, q σ f hs (fun b => by omega) (fun _ _ => rfl) rfl⟩
  | _, _, _, .cons (i := i) (is := is) h rr hsx, x :: xs, vs, s, σ, H, f, gx, Q, hl, r, hs, q => by
    obtain ⟨v, ws, g1, g2, rfl, r1, r2, hg⟩ := r
    obtain ⟨f1, h1, h2⟩ := hs.store i r1
    refine ⟨v, ws, rfl, ?_⟩
    refine PNs.run rr (xs := xs) (vs := ws) (s := s.set i (some x)) (σ := σ.set i (some v)) (f := f1) (gx := g2) (by simpa using hl) r2 h1 fun σ' f' k1 k2 k3 k4 => ?_
    refine q σ' f' (by simpa using k1) (fun b => by have := k2 b; have := h2 b; have := hg b; omega) (fun j hj => ?_) (by rw [k4, List.length_set])
    have hj' : j ≠ i ∧ j ∉ is := by simpa using hj
    rw [k3 j hj'.2, List.getElem?_set_ne (Ne.symm hj'.1)]
  | _, _, _, .cons _ _ _, [], vs, s, σ, H, f, gx, Q, hl, r, hs, q => by simp at hl
  | _, _, _, .nil, _ :: _, vs, s, σ, H, f, gx, Q, hl, r, hs, q => by simp at hl
theorem tg_tup {es : List Expr} {k : Nat} {is : List Nat} {t : TGs} (hc : X.calm = true) (h : PNs X es is t) (hn : (assignEach es X.env).length = is.length) (hst : (assignEach es X.env).findIdx? (·.1) = none) : TgOk X (.Tuple es k pos) (tN is) is :=
  ⟨gTup X.K is.length t, pg_tup hc h.pgs hn hst, fun x s s1 v σ H f gx Q e r hs q => by
    unfold tN at e
    split at e
    · rename_i xs
      split at e
      · rename_i hl
        cases (Option.some.inj e)
        obtain ⟨a, va, rfl, ha, za, sa⟩ := r.tupAt
        exact ⟨a, va, rfl, ha, by rw [sa.length, hl], h.run hl sa hs q⟩
      · cases e
    · cases e⟩
end

/-! ### what is walked -/
structure ItOk (K : PySem.W.Frag) (J : It) (xs : List PV) (g : Fp) (IR : Hp → Prop) : Prop where
  go : ∀ i H, IR H → i < xs.length → J.go i H
  stop : ∀ H, IR H → J.stop xs.length H
  yld : ∀ i H v H' x, IR H → xs[i]? = some x → J.yld i H v H' → Rep K H' x v Z0 ∧ ∀ b o, H b = some o → H' b = some o
  st : ∀ H H' F, Kept H H' F → (∀ b, F b ≠ 0 → MutA H b) → (∀ b, g b ≠ 0 → F b = 0) → IR H → IR H'
def VIt (K : PySem.W.Frag) (it : List PV → Option (List PV)) (r : List V → Hp → (It → Hp → Prop) → Prop) : Prop :=
  ∀ H vals vs g xs R, Reps K H vals vs g → it vals = some xs → (∀ J IR, ItOk K J xs g IR → IR H → R J H) → r vs H R
def SI (X : Cx) (W : WX) (tg iter : Expr) (os : M (List Pnd)) (r : List V → Hp → (It → Hp → Prop) → Prop) : Prop := PI X tg iter (fun σ H R => rdG (PReps X.K σ) X W os σ H (fun vs H1 => r vs H1 R))
theorem PI.weaken {X : Cx} {tg e : Expr} {t t' : TI} (h : PI X tg e t) (w : ∀ σ H R, t' σ H R → t σ H R) : PI X tg e t' := ⟨fun pins s σ H R I q => h.run pins s σ H R I (w σ H R q)⟩
section
variable {K : PySem.W.Frag} {X : Cx} {W : WX} {tg l a b : Expr} {p pos : Pos}
/-- a list, a tuple, a text -/
def rSeqI (K : PySem.W.Frag) (x : V) (H : Hp) (R : It → Hp → Prop) : Prop :=
  (∃ a, x = .ref a ∧ (∃ xs, SqL K H a xs) ∧ R (Itl K a) H) ∨ (∃ a, x = .ref a ∧ (∃ xs, SqT K H a xs) ∧ R (Itt K a) H) ∨ ∃ y, x = .str y ∧ R (Its y) H
theorem thnPI {tl : TE} (hl : PE X l tl) : PI X tg l (fun σ H R => tl σ H fun x H1 => rSeqI X.K x H1 R) := by
  refine ⟨fun pins s σ H R I h => ?_⟩
  refine thn (hl.run pins s σ H _ I h) fun v s1 ⟨x, H1, I1, r1, q1⟩ => ?_
  have pk : ∀ {t : TE} {w : TI}, PI X tg l w → True := fun _ => trivial
  rcases q1 with ⟨a, e, ⟨xs, hq⟩, q⟩ | ⟨a, e, ⟨xs, hq⟩, q⟩ | ⟨y, e, q⟩
  · subst e
    cases r1
    obtain ⟨its, rv, pl, hz⟩ := I1.list hq
    refine wpAny_pyIter_list pl.isList ?_
    refine ⟨s1.heap.objs.size, [s1.heap.objs.size], _, _, H1, rfl, I1.kept (t' := s1.toks) fun b o e => Heap.get?_push_of_some _ e, turn_list a _, ⟨_, Heap.get?_push_size _ rfl, rfl, rfl⟩, fun b hb => ?_, q⟩
    have e : b = s1.heap.objs.size := by simpa using hb
    subst e
    exact I1.fpOk (Nat.le_refl _) (I1.hok.fresh (Nat.le_refl _))
  · subst e
    cases r1
    obtain ⟨its, rv, pl, hz⟩ := I1.tuple hq
    refine wpAny_pyIter_tuple (show s1.heap.IsTuple a its.toArray from pl) ?_
    refine ⟨s1.heap.objs.size, [s1.heap.objs.size], _, _, H1, rfl, I1.kept (t' := s1.toks) fun b o e => Heap.get?_push_of_some _ e, turn_tuple a _, ⟨_, Heap.get?_push_size _ rfl, rfl, rfl⟩, fun b hb => ?_, q⟩
    have e : b = s1.heap.objs.size := by simpa using hb
    subst e
    exact I1.fpOk (Nat.le_refl _) (I1.hok.fresh (Nat.le_refl _))
  · subst e
    obtain ⟨t, rfl⟩ := r1
    cases ha : y.cps.all (· < 128)
    · exact wpAny_pyIter_wide ha (pi_one (tk := s1.toks) I1 _ (turn_str _ y t "str_iterator" (.inr rfl)) ⟨_, Heap.get?_push_size _ rfl, rfl, rfl⟩ q)
    · exact wpAny_pyIter_ascii ha (pi_one (tk := s1.toks) I1 _ (turn_str _ y t "str_ascii_iterator" (.inl rfl)) ⟨_, Heap.get?_push_size _ rfl, rfl, rfl⟩ q)
def itSeq1 : PV → Option (List PV)
  | .tup xs => if PV.owns xs = false then some xs else none
  | .lst _ xs => if PV.owns xs = false then some xs else none
  | .str y => some (y.cps.toList.map fun c => .str ⟨#[c]⟩)
  | _ => none
def itSeq : List PV → Option (List PV)
  | [x] => itSeq1 x
  | _ => none
theorem si_seq {o : M Pnd} (h : SO X W l o) : SI X W tg l (oCons o oNil) (fun vs H R => ∃ x, vs = [x] ∧ rSeqI X.K x H R) := PI.weaken (thnPI h) fun σ H R q => by
  obtain ⟨s, f, h1, h2, h3⟩ := q
  refine ⟨s, f, h1, h2, ?_⟩
  unfold oCons at h3
  cases e1 : o s with
  | ok p1 s1 =>
    rw [e1] at h3
    intro v H' g f' k1 k2 k3 k4
    obtain ⟨x, e, q⟩ := h3 [v] H' g f' ⟨v, [], g, Z0, rfl, k1, ⟨rfl, fun _ => rfl⟩, fun _ => rfl⟩ k2 k3 k4
    cases e
    exact q
  | exc x s1 => rw [e1] at h3; exact h3
  | bad => rw [e1] at h3; exact h3
theorem vi_seq : VIt K itSeq (fun vs H R => ∃ x, vs = [x] ∧ rSeqI K x H R) := by
  intro H vals vs g xs R hr hf q
  match vals, hf with
  | [x], hf =>
    obtain ⟨v, ws, g1, g2, rfl, r, ⟨rfl, z2⟩, hg⟩ := hr
    have hgg : ∀ b, g b = g1 b := fun b => by rw [hg b, z2 b]; rfl
    have r : Rep K H x v g := r.congr hgg
    refine ⟨v, rfl, ?_⟩
    cases x with
    | tup ys =>
      simp only [itSeq, itSeq1] at hf
      split at hf
      · rename_i n
        cases hf
        obtain ⟨a, va, rfl, ha, za, sa⟩ := id r.tupAt
        refine .inr (.inl ⟨a, rfl, ⟨va, ha⟩, q _ (fun H' => Rep K H' (.tup xs) (.ref a) g) ⟨fun i H' hi hlt => ?_, fun H' hi => ?_, fun i H' v H2 x hi hx hy => ?_, fun H' H2 F k m d hi => hi.kept k m d⟩ r⟩)
        · obtain ⟨a', vb, e, hb, _, sb⟩ := hi.tupAt
          cases e
          have : i < vb.length := by rw [sb.length]; exact hlt
          exact ⟨vb, vb[i], hb, List.getElem?_eq_getElem this⟩
        · obtain ⟨a', vb, e, hb, _, sb⟩ := hi.tupAt
          cases e
          exact ⟨vb, hb, by rw [sb.length]; exact Nat.le_refl _⟩
        · obtain ⟨a', vb, e, hb, _, sb⟩ := hi.tupAt
          cases e
          obtain ⟨rfl, hv⟩ := hy
          exact ⟨(sb.seq n).at' i x v hx (hv vb hb), fun _ _ e => e⟩
      · cases hf
    | lst o ys =>
      simp only [itSeq, itSeq1] at hf
      split at hf
      · rename_i n
        cases hf
        obtain ⟨a, va, ga, rfl, ha, za, sa⟩ := id r.lstAt
        refine .inl ⟨a, rfl, ⟨va, ha⟩, q _ (fun H' => Rep K H' (.lst o xs) (.ref a) g) ⟨fun i H' hi hlt => ?_, fun H' hi => ?_, fun i H' v H2 x hi hx hy => ?_, fun H' H2 F k m d hi => hi.kept k m d⟩ r⟩
        · obtain ⟨a', vb, gb, e, hb, _, sb⟩ := hi.lstAt
          cases e
          have : i < vb.length := by rw [sb.length]; exact hlt
          exact ⟨vb, vb[i], hb, List.getElem?_eq_getElem this⟩
        · obtain ⟨a', vb, gb, e, hb, _, sb⟩ := hi.lstAt
          cases e
          exact ⟨vb, hb, by rw [sb.length]; exact Nat.le_refl _⟩
        · obtain ⟨a', vb, gb, e, hb, _, sb⟩ := hi.lstAt
          cases e
          obtain ⟨rfl, hv⟩ := hy
          exact ⟨(sb.seq n).at' i x v hx (hv vb hb), fun _ _ e => e⟩
      · cases hf
    | str y =>
      cases (Option.some.inj hf)
      obtain ⟨rfl, _⟩ := r
      refine .inr (.inr ⟨y, rfl, q _ (fun _ => True) ⟨fun i H' hi hlt => ?_, fun H' hi => ?_, fun i H' v H2 x hi hx hy => ?_, fun _ _ _ _ _ _ _ => trivial⟩ trivial⟩)
      · show i < y.cps.size
        simpa using hlt
      · show y.cps.size ≤ _
        simp
      · obtain ⟨rfl, c, e1, rfl⟩ := hy
        rw [List.getElem?_map] at hx
        have e2 : y.cps.toList[i]? = some c := by rw [Array.getElem?_toList]; exact e1
        rw [e2] at hx
        cases hx
        exact ⟨rep_str, fun _ _ e => e⟩
    | _ => simp [itSeq, itSeq1] at hf
noncomputable def itRng1 : List PV → Option (List PV)
  | [.int j] => @ite _ (-(2 ^ 62) ≤ j ∧ j < 2 ^ 62) (Classical.propDecidable _) (some ((List.range j.toNat).map fun (k : Nat) => .int (k : Int))) none
  | _ => none
noncomputable def itRng2 : List PV → Option (List PV)
  | [.int i, .int j] => @ite _ (-(2 ^ 62) ≤ i ∧ i < 2 ^ 62 ∧ -(2 ^ 62) ≤ j ∧ j < 2 ^ 62) (Classical.propDecidable _) (some ((List.range (j - i).toNat).map fun (k : Nat) => .int (i + (k : Int)))) none
  | _ => none
theorem it_rng {lo : Int} {n : Nat} {g : Fp} : ItOk K (Itr lo n) ((List.range n).map fun k => .int (lo + (k : Nat))) g (fun _ => True) :=
  ⟨fun i H' hi hlt => by show i < n; simpa using hlt, fun H' hi => by show n ≤ _; simp, fun i H' v H2 x hi hx hy => by
    obtain ⟨rfl, rfl⟩ := hy
    rw [List.getElem?_map] at hx
    cases h : (List.range n)[i]? with
    | none => rw [h] at hx; cases hx
    | some k =>
      rw [h] at hx
      have : k = i := by
        have := List.getElem?_eq_some_iff.mp h
        simpa using this.2.symm
      subst this
      cases hx
      exact ⟨rep_int, fun _ _ e => e⟩, fun _ _ _ _ _ _ _ => trivial⟩
theorem si_rng1 {o : M Pnd} (h : SO X W a o) (hg : Gl X "range") (hm : X.mg "range" = none) (hst : starEach [a] X.env = (false, eval a X.env) :: starEach [] X.env) (hs : starEach [a] X.env = [(false, eval a X.env)]) : SI X W tg (.Call (.Name "range" p) [a] [] pos) (oCons o oNil) (fun vs H R => ∃ j : Int, vs = [.int j] ∧ -(2 ^ 62) ≤ j ∧ j < 2 ^ 62 ∧ R (Itr 0 j.toNat) H) :=
  pi_range1 hg hm (sa_cons h sa_nil hst) hs
theorem vi_rng1 : VIt K itRng1 (fun vs H R => ∃ j : Int, vs = [.int j] ∧ -(2 ^ 62) ≤ j ∧ j < 2 ^ 62 ∧ R (Itr 0 j.toNat) H) := by
  intro H vals vs g xs R hr hf q
  match vals, hf with
  | [.int j], hf =>
    obtain ⟨v, ws, g1, g2, rfl, ⟨rfl, _⟩, ⟨rfl, _⟩, _⟩ := hr
    simp only [itRng1] at hf
    split at hf
    · rename_i hl
      cases hf
      refine ⟨j, rfl, hl.1, hl.2, q _ (fun _ => True) ?_ trivial⟩
      have := it_rng (K := K) (lo := 0) (n := j.toNat) (g := g)
      simpa using this
    · cases hf
theorem vi_rng2 : VIt K itRng2 (fun vs H R => ∃ i j : Int, vs = [.int i, .int j] ∧ (-(2 ^ 62) ≤ i ∧ i < 2 ^ 62 ∧ -(2 ^ 62) ≤ j ∧ j < 2 ^ 62) ∧ R (Itr i (j - i).toNat) H) := by
  intro H vals vs g xs R hr hf q
  match vals, hf with
  | [.int i, .int j], hf =>
    obtain ⟨v, ws, g1, g2, rfl, ⟨rfl, _⟩, ⟨v2, ws2, g3, g4, rfl, ⟨rfl, _⟩, ⟨rfl, _⟩, _⟩, _⟩ := hr
    simp only [itRng2] at hf
    split at hf
    · rename_i hl
      cases hf
      exact ⟨i, j, rfl, hl, q _ (fun _ => True) it_rng trivial⟩
    · cases hf
theorem si_rng2 {o o2 : M Pnd} (h : SO X W a o) (h2 : SO X W b o2) (hg : Gl X "range") (hm : X.mg "range" = none) (hst : starEach [a, b] X.env = (false, eval a X.env) :: starEach [b] X.env) (hst2 : starEach [b] X.env = (false, eval b X.env) :: starEach [] X.env) (hs : starEach [a, b] X.env = [(false, eval a X.env), (false, eval b X.env)]) (hs2 : starEach [b] X.env = [(false, eval b X.env)]) :
    SI X W tg (.Call (.Name "range" p) [a, b] [] pos) (oCons o (oCons o2 oNil)) (fun vs H R => ∃ i j : Int, vs = [.int i, .int j] ∧ (-(2 ^ 62) ≤ i ∧ i < 2 ^ 62 ∧ -(2 ^ 62) ≤ j ∧ j < 2 ^ 62) ∧ R (Itr i (j - i).toNat) H) :=
  pi_range2 hg hm (sa_cons h (sa_cons h2 sa_nil hst2) hst) hs hs2
end
end Bv

set_option maxHeartbeats 400000
namespace Bv
open PySem PySem.Spec PyProof.Rows L2

/-! ### comprehensions -/
def wipeS (s : Sl) : List Nat → Sl
  | [] => s
  | v :: vs => (wipeS s vs).set v none
def compL (t : PV → Sl → Option Sl) (cond : M Bool) (el : M PV) (own : List Nat) : List PV → Sl → List PV → R (List PV)
  | [], s, acc => .ok acc s
  | x :: r, s, acc => match t x s with
    | none => .bad
    | some s1 => match cond s1 with
      | .ok true s2 => match el s2 with
        | .ok y s3 => compL t cond el own r (wipeS s3 own) (acc ++ [y])
        | _ => .bad
      | .ok false s2 => compL t cond el own r (wipeS s2 own) acc
      | _ => .bad
def mComp (os : M (List Pnd)) (it : List PV → Option (List PV)) (t : PV → Sl → Option Sl) (cond : M Bool) (el : M PV) (own : List Nat) : M PV := fun s => (os s).bind fun ps s1 => match takeP ps s1 with
  | none => .bad
  | some (vals, s2) => match it vals with
    | none => .bad
    | some xs => if xs.length ≤ LIM then (match compL t cond el own xs (wipeS s2 own) [] with
      | .ok acc s3 => .ok (.lst true acc) (putP ps vals s3)
      | _ => .bad) else .bad
def mYes : M Bool := fun s => .ok true s
section
variable {K : PySem.W.Frag} {H : Hp}
theorem SLR.wipe {s : Sl} {τ : L2.St} : ∀ {vs : List Nat} {f : Fp}, SLR K H s τ f → ∃ f', SLR K H (wipeS s vs) (L2.wipe τ vs) f' ∧ ∀ b, f' b ≤ f b
  | [], f, h => ⟨f, h, fun b => Nat.le_refl _⟩
  | v :: vs, f, h => by
    obtain ⟨f1, h1, h2⟩ := SLR.wipe (vs := vs) h
    obtain ⟨f2, h3, h4⟩ := SLR.forget v h1
    by_cases hv : v < (wipeS s vs).length
    · exact ⟨f2, SLR.setNone none h3 (getElem?_set_none hv), fun b => by have := h2 b; have := h4 b; omega⟩
    · refine ⟨f2, ?_, fun b => by have := h2 b; have := h4 b; omega⟩
      unfold L2.wipe wipeS
      rw [List.set_eq_of_length_le (l := L2.wipe τ vs) (by rw [h1.length]; omega)]
      exact h3
theorem wipeS_length (s : Sl) : ∀ vs : List Nat, (wipeS s vs).length = s.length
  | [] => rfl
  | v :: vs => by unfold wipeS; rw [List.length_set, wipeS_length s vs]
theorem wipeS_none (s : Sl) : ∀ (vs : List Nat) (i : Nat), i ∈ vs → i < s.length → (wipeS s vs)[i]? = some none
  | v :: vs, i, h, hi => by
    unfold wipeS
    by_cases e : v = i
    · subst e
      exact List.getElem?_set_self (by rw [wipeS_length]; exact hi)
    · rw [List.getElem?_set_ne e]
      rcases List.mem_cons.mp h with z | z
      · exact absurd z.symm e
      · exact wipeS_none s vs i z hi
/-- back from the wiped places -/
theorem SLR.unwipe {s : Sl} {τ : L2.St} {f : Fp} : ∀ (us : List Nat), (∀ i ∈ us, i < s.length → s[i]? = some none) → SLR K H s (L2.wipe τ us) f → SLR K H s τ f
  | [], _, h => h
  | v :: us, hn, h => by
    refine SLR.unwipe us (fun i hi => hn i (List.mem_cons_of_mem _ hi)) ?_
    by_cases hv : v < s.length
    · have e : L2.wipe τ us = ((L2.wipe τ us).set v none).set v ((L2.wipe τ us)[v]?.join) := by
        rw [List.set_set]
        cases q : (L2.wipe τ us)[v]? with
        | none =>
          have h1 : ((L2.wipe τ us).set v none).length = s.length := h.length
          rw [List.length_set] at h1
          have := List.getElem?_eq_none_iff.mp q
          omega
        | some o =>
          have : (some o : Option (Option V)).join = o := by cases o <;> rfl
          rw [this, set_same q]
      rw [e]
      exact SLR.setNone _ h (hn v List.mem_cons_self hv)
    · have h1 := h.length
      unfold L2.wipe at h h1
      rw [List.length_set] at h1
      rw [List.set_eq_of_length_le (l := L2.wipe τ us) (by omega)] at h
      exact h
theorem wipe_agree {τ τ' : L2.St} : ∀ (vs : List Nat), (∀ j, j ∉ vs → τ'[j]? = τ[j]?) → τ'.length = τ.length → L2.wipe τ' vs = L2.wipe τ vs := fun vs h hl => by
  apply List.ext_getElem?
  intro j
  have key : ∀ (σ : L2.St) (us : List Nat), (L2.wipe σ us)[j]? = if j ∈ us then σ[j]?.map (fun _ => none) else σ[j]? := by
    intro σ us
    induction us with
    | nil => simp [L2.wipe]
    | cons v us ih =>
      unfold L2.wipe
      rw [List.getElem?_set]
      by_cases e : v = j
      · subst e
        rw [if_pos rfl]
        rw [L2.wipe_length]
        simp only [List.mem_cons, true_or, if_true]
        by_cases hv : v < σ.length
        · rw [if_pos hv, List.getElem?_eq_getElem hv]; rfl
        · rw [if_neg hv, List.getElem?_eq_none (by omega)]; rfl
      · rw [if_neg e, ih]
        have : (j ∈ v :: us) = (j ∈ us) := by
          simp only [List.mem_cons, eq_iff_iff]
          exact ⟨fun z => z.elim (fun y => absurd y.symm e) id, .inr⟩
        simp only [this]
  rw [key, key]
  by_cases hj : j ∈ vs
  · rw [if_pos hj, if_pos hj]
    by_cases hlt : j < τ.length
    · rw [List.getElem?_eq_getElem hlt, List.getElem?_eq_getElem (by omega)]; rfl
    · rw [List.getElem?_eq_none (by omega), List.getElem?_eq_none (by omega)]
  · rw [if_neg hj, if_neg hj, h j hj]
theorem wipe_wipe (τ : L2.St) (vs : List Nat) : L2.wipe (L2.wipe τ vs) vs = L2.wipe τ vs := wipe_agree vs (fun j hj => by
  have key : ∀ (us : List Nat), j ∉ us → (L2.wipe τ us)[j]? = τ[j]? := by
    intro us
    induction us with
    | nil => intro _; rfl
    | cons v us ih =>
      intro h
      unfold L2.wipe
      rw [List.getElem?_set_ne (fun e => h (by simp [e])), ih (fun z => h (List.mem_cons_of_mem _ z))]
  exact key vs hj) (L2.wipe_length _ _)
theorem Reps.snoc : ∀ {xs : List PV} {vs : List V} {f g : Fp} {x : PV} {v : V}, Reps K H xs vs f → Rep K H x v g → Reps K H (xs ++ [x]) (vs ++ [v]) (fun b => f b + g b)
  | [], vs, f, g, x, v, h, r => by
    obtain ⟨rfl, z⟩ := h
    exact ⟨v, [], g, Z0, rfl, r, ⟨rfl, fun _ => rfl⟩, fun b => by show f b + g b = g b + 0; rw [z b]; omega⟩
  | y :: ys, vs, f, g, x, v, h, r => by
    obtain ⟨w, ws, g1, g2, rfl, h1, h2, hg⟩ := h
    exact ⟨w, ws ++ [v], g1, fun b => g2 b + g b, rfl, h1, Reps.snoc h2 r, fun b => by show f b + g b = g1 b + (g2 b + g b); rw [hg b]; omega⟩
end

section
variable {X : Cx} {W : WX} {tg iter elt : Expr} {ifs : List Expr} {scope : Scope} {own : List (Str × Nat)} {pos : Pos}
abbrev W0 : WX := fun _ _ _ _ => False
/-- the tests of a clause -/
def SIf (X : Cx) (W : WX) (ifs : List Expr) (m : M Bool) : Prop := PTs X ifs (rdG BRep X W m)
theorem sif_nil : SIf X W [] mYes := ⟨fun pins s σ H Q I h => by
  obtain ⟨s', f, h1, h2, h3⟩ := h
  exact pts_nil.run pins s σ H Q I (h3 true H Z0 f ⟨rfl, fun _ => rfl⟩ h1 (fun b => by have := h2 b; simpa using this) (Frm.refl fun b z => by simpa using z))⟩
theorem sif_one {c : Expr} {m : M Bool} (h : ST X W c m) : SIf X W [c] m := pts_one h
theorem comp_core {os : M (List Pnd)} {r : List V → Hp → (It → Hp → Prop) → Prop} {it : List PV → Option (List PV)} {t : PV → Sl → Option Sl} {ix : List Nat} {cond : M Bool} {el : M PV} {g : TG} (vi : VIt X.K it r)
    (ht : ∀ (x : PV) (s s1 : Sl) (v : V) (σ : L2.St) (H : Hp) (f gx : Fp) (Q : L2.St → Hp → Prop), t x s = some s1 → Rep X.K H x v gx → SLR X.K H s σ f →
      (∀ σ' f', SLR X.K H s1 σ' f' → (∀ b, f' b ≤ gx b + f b) → (∀ j, j ∉ ix → σ'[j]? = σ[j]?) → σ'.length = σ.length → Q σ' H) → g v σ H Q) (hix : ∀ i ∈ ix, i ∈ own.map (·.2))
    {σ : L2.St} {H : Hp} {Q : VK} (q : rdG (Rep X.K) X W (mComp os it t cond el (own.map (·.2))) σ H Q) :
    tLc (fun σ H R => rdG (PReps X.K σ) X W os σ H (fun vs H1 => r vs H1 R)) g (rdG BRep X W0 cond) (rdG (Rep X.K) X W0 el) (own.map (·.2)) σ H Q := by
  refine rdG.bind (ρ := PReps X.K σ) q fun F ps s1 vs H1 g1 f1 h0 h1 h2 h3 h4 h5 => ?_
  cases e1 : takeP ps s1 with
  | none => rw [e1] at h5; exact h5.elim
  | some pr =>
    obtain ⟨vals, s2⟩ := pr
    rw [e1] at h5
    dsimp only at h5
    cases e2 : it vals with
    | none => rw [e2] at h5; exact h5.elim
    | some xs =>
      rw [e2] at h5
      dsimp only at h5
      split at h5
      · rename_i hlim
        obtain ⟨fa, f', k1, k2, k3, k4⟩ := take_ok h1 h2 e1
        refine vi H1 vals vs fa xs _ k1 e2 fun J IR ok hIR D hD => ?_
        obtain ⟨f2, w1, w2⟩ := k2.wipe (vs := own.map (·.2))
        have keep0 := keep_upd (H := H1) (p := D) (o := .lst []) hD
        have dead : ∀ b o, H b = some o → F b = 0 → H1 b = some o ∧ fa b + f' b = 0 ∧ b ≠ D := fun b o e z => by
          have y := h4.keep b o e z
          have y2 : g1 b + f1 b = 0 := h4.own b o e z
          refine ⟨y, by rw [k4 b]; exact y2, fun z => ?_⟩
          subst z
          rw [y] at hD; cases hD
        have faD : fa D = 0 := live_reps k1 hD
        have f2D : f2 D = 0 := by have := live_of k2 hD; have := w2 D; omega
        refine ⟨fun i m Hc => i + m = xs.length ∧ ∃ s fs acc va ga, SLR X.K Hc s (L2.wipe σ (own.map (·.2))) fs ∧ Hc D = some (.lst va) ∧ Reps X.K Hc acc va ga ∧ acc.length ≤ i ∧ (∀ b, fa b + ga b + fs b + one D b ≤ 1) ∧ IR Hc ∧ Reps X.K Hc vals vs fa ∧
            (∀ i ∈ own.map (·.2), i < s.length → s[i]? = some none) ∧ (∀ b o, H b = some o → F b = 0 → Hc b = some o ∧ fa b + ga b + fs b = 0 ∧ b ≠ D) ∧
            compL t cond el (own.map (·.2)) (xs.drop i) s acc = compL t cond el (own.map (·.2)) xs (wipeS s2 (own.map (·.2))) [],
          ⟨xs.length, by omega, wipeS s2 (own.map (·.2)), f2, [], [], Z0, w1.keptZ keep0, upd_same, ⟨rfl, fun _ => rfl⟩, Nat.zero_le _, fun b => ?_, ?_, k1.keptZ keep0, fun i hi hl => wipeS_none _ _ _ hi (by rw [wipeS_length] at hl; exact hl), fun b o e z => ?_, rfl⟩, fun i m Hc hW => ?_⟩
        · by_cases hb : b = D
          · subst hb; rw [one_self]; show fa b + 0 + f2 b + 1 ≤ 1; omega
          · rw [one_ne hb]; have := k4 b; have := h3 b; have := w2 b; show fa b + 0 + f2 b + 0 ≤ 1; omega
        · exact ok.st H1 _ Z0 (keptZ keep0) (fun _ n => absurd rfl n) (fun _ _ => rfl) hIR
        · obtain ⟨y1, y2, y3⟩ := dead b o e z
          refine ⟨by rw [upd_ne y3]; exact y1, ?_, y3⟩
          have := w2 b
          show fa b + 0 + f2 b = 0
          omega
        · obtain ⟨him, s, fs, acc, va, ga, a1, a2, a3, a4, a5, a6, a7, a8, a9, a10⟩ := hW
          by_cases hi : i < xs.length
          · -- a turn
            refine .inr ⟨ok.go i Hc a6 hi, fun Hn => i + 1 + (m - 1) = xs.length ∧ ∃ s fs acc va ga, SLR X.K Hn s (L2.wipe σ (own.map (·.2))) fs ∧ Hn D = some (.lst va) ∧ Reps X.K Hn acc va ga ∧ acc.length ≤ i + 1 ∧ (∀ b, fa b + ga b + fs b + one D b ≤ 1) ∧ IR Hn ∧ Reps X.K Hn vals vs fa ∧
                (∀ i ∈ own.map (·.2), i < s.length → s[i]? = some none) ∧ (∀ b o, H b = some o → F b = 0 → Hn b = some o ∧ fa b + ga b + fs b = 0 ∧ b ≠ D) ∧
                compL t cond el (own.map (·.2)) (xs.drop (i + 1)) s acc = compL t cond el (own.map (·.2)) xs (wipeS s2 (own.map (·.2))) [], fun Hn hn => ⟨m - 1, by omega, hn⟩, fun v Hy hy => ?_⟩
            have hx : xs[i]? = some xs[i] := List.getElem?_eq_getElem hi
            obtain ⟨rx, ky⟩ := ok.yld i Hc v Hy xs[i] a6 hx hy
            have ed : xs.drop i = xs[i] :: xs.drop (i + 1) := List.drop_eq_getElem_cons hi
            rw [ed] at a10
            simp only [compL] at a10
            -- what stands when the item has come
            have b1 := a1.keptZ ky
            have b2 := ky _ _ a2
            have b3 := a3.keptZ ky
            have b6 : IR Hy := ok.st Hc Hy Z0 (keptZ ky) (fun _ n => absurd rfl n) (fun _ _ => rfl) a6
            have b7 := a7.keptZ ky
            have notbad : ∀ {Pp : Prop}, compL t cond el (own.map (·.2)) xs (wipeS s2 (own.map (·.2))) [] = .bad → Pp := fun e => by rw [e] at h5; exact h5.elim
            cases et : t xs[i] s with
            | none => rw [et] at a10; exact notbad a10.symm
            | some s3 =>
              rw [et] at a10
              dsimp only at a10
              refine ht xs[i] s s3 v _ Hy fs Z0 _ et rx b1 fun σ3 f3 c1 c2 c3 c4 => ?_
              have f3le : ∀ b, f3 b ≤ fs b := fun b => by have : f3 b ≤ 0 + fs b := c2 b; omega
              refine ⟨?_, ?_⟩
              · rw [wipe_agree (own.map (·.2)) (fun j hj => c3 j fun z => hj (hix j z)) c4, wipe_wipe]
              -- the test
              have ow : ∀ b, fa b + ga b + one D b ≠ 0 → f3 b = 0 := fun b n => by have := a5 b; have := f3le b; omega
              refine ⟨s3, f3, c1, fun b => by have := a5 b; have := f3le b; omega, ?_⟩
              cases ec : cond s3 with
              | bad => rw [ec] at a10; exact notbad a10.symm
              | exc z s4 => rw [ec] at a10; exact notbad a10.symm
              | ok c s4 =>
                rw [ec] at a10
                intro cb H4 gc f4 d1 d2 d3 d4
                obtain ⟨rfl, zc⟩ := d1
                have k4' : Kept Hy H4 f3 := d4.kept
                have mu3 : ∀ b, f3 b ≠ 0 → MutA Hy b := fun b n => c1.mut n
                have D4 : H4 D = some (.lst va) := k4' D _ b2 (ow D (by rw [one_self]; omega))
                have acc4 : Reps X.K H4 acc va ga := b3.kept k4' mu3 fun b n => ow b (by omega)
                have val4 : Reps X.K H4 vals vs fa := b7.kept k4' mu3 fun b n => ow b (by omega)
                have ir4 : IR H4 := ok.st Hy H4 f3 k4' mu3 (fun b n => ow b (by omega)) b6
                have own4 : ∀ b, fa b + ga b + f4 b + one D b ≤ 1 := fun b => by
                  by_cases hb : fa b + ga b + one D b = 0
                  · have := d3 b; omega
                  · have hz := ow b hb
                    have there : ∃ o, Hy b = some o := by
                      by_cases e1 : fa b = 0
                      · by_cases e2 : ga b = 0
                        · have : b = D := by
                            refine Classical.byContradiction fun z => ?_
                            rw [one_ne z] at hb; omega
                          subst this; exact ⟨_, b2⟩
                        · obtain ⟨o, ho, _⟩ := b3.mut e2; exact ⟨o, ho⟩
                      · obtain ⟨o, ho, _⟩ := b7.mut e1; exact ⟨o, ho⟩
                    obtain ⟨o, ho⟩ := there
                    have : gc b + f4 b = 0 := d4.own b o ho hz
                    have := a5 b
                    omega
                have dead4 : ∀ b o, H b = some o → F b = 0 → H4 b = some o ∧ fa b + ga b + f4 b = 0 ∧ b ≠ D := fun b o e z => by
                  obtain ⟨y1, y2, y3⟩ := a9 b o e z
                  have z3 : f3 b = 0 := by have := f3le b; omega
                  have y4 := ky b o y1
                  have : gc b + f4 b = 0 := d4.own b o y4 z3
                  exact ⟨d4.keep b o y4 z3, by omega, y3⟩
                cases c with
                | false =>
                  rw [if_neg Bool.false_ne_true]
                  dsimp only at a10
                  obtain ⟨f5, m1, m2⟩ := d2.wipe (vs := own.map (·.2))
                  rw [wipe_agree (own.map (·.2)) (fun j hj => c3 j fun z => hj (hix j z)) c4, wipe_wipe] at m1
                  exact ⟨by omega, wipeS s4 (own.map (·.2)), f5, acc, va, ga, m1, D4, acc4, by omega, fun b => by have := own4 b; have := m2 b; omega, ir4, val4,
                    fun i hi hl => wipeS_none _ _ _ hi (by rw [wipeS_length] at hl; exact hl), fun b o e z => by
                      obtain ⟨y1, y2, y3⟩ := dead4 b o e z
                      have := m2 b
                      exact ⟨y1, by omega, y3⟩, a10⟩
                | true =>
                  rw [if_pos rfl]
                  dsimp only at a10
                  refine ⟨s4, f4, d2, fun b => by have := d3 b; omega, ?_⟩
                  cases ee : el s4 with
                  | bad => rw [ee] at a10; exact notbad a10.symm
                  | exc z s5 => rw [ee] at a10; exact notbad a10.symm
                  | ok y s5 =>
                    rw [ee] at a10
                    dsimp only at a10
                    intro vy H5 gy f5 n1 n2 n3 n4
                    have ow4 : ∀ b, fa b + ga b + one D b ≠ 0 → f4 b = 0 := fun b n => by have := own4 b; omega
                    have mu4 : ∀ b, f4 b ≠ 0 → MutA H4 b := fun b n => d2.mut n
                    have D5 : H5 D = some (.lst va) := n4.kept D _ D4 (ow4 D (by rw [one_self]; omega))
                    have acc5 : Reps X.K H5 acc va ga := acc4.kept n4.kept mu4 fun b n => ow4 b (by omega)
                    have val5 : Reps X.K H5 vals vs fa := val4.kept n4.kept mu4 fun b n => ow4 b (by omega)
                    have ir5 : IR H5 := ok.st H4 H5 f4 n4.kept mu4 (fun b n => ow4 b (by omega)) ir4
                    have own5 : ∀ b, fa b + ga b + gy b + f5 b + one D b ≤ 1 := fun b => by
                      by_cases hb : fa b + ga b + one D b = 0
                      · have := n3 b; omega
                      · have hz := ow4 b hb
                        have there : ∃ o, H4 b = some o := by
                          by_cases e1 : fa b = 0
                          · by_cases e2 : ga b = 0
                            · have : b = D := by
                                refine Classical.byContradiction fun z => ?_
                                rw [one_ne z] at hb; omega
                              subst this; exact ⟨_, D4⟩
                            · obtain ⟨o, ho, _⟩ := acc4.mut e2; exact ⟨o, ho⟩
                          · obtain ⟨o, ho, _⟩ := val4.mut e1; exact ⟨o, ho⟩
                        obtain ⟨o, ho⟩ := there
                        have : gy b + f5 b = 0 := n4.own b o ho hz
                        have := own4 b
                        omega
                    -- the list grows
                    have up : Kept H5 (upd H5 D (.lst (va ++ [vy]))) (one D) := fun b o e z => by
                      have : b ≠ D := fun e' => by rw [e', one_self] at z; omega
                      rw [upd_ne this]; exact e
                    have muD : ∀ b, one D b ≠ 0 → MutA H5 b := fun b n => by
                      have : b = D := Classical.byContradiction fun z => n (one_ne z)
                      subst this; exact ⟨_, D5, trivial⟩
                    have oneD : ∀ {b : Addr}, fa b + ga b + gy b + f5 b ≠ 0 → one D b = 0 := fun {b} n => by have := own5 b; omega
                    obtain ⟨f6, m1, m2⟩ := n2.wipe (vs := own.map (·.2))
                    rw [wipe_agree (own.map (·.2)) (fun j hj => c3 j fun z => hj (hix j z)) c4, wipe_wipe] at m1
                    have hlen : acc.length < sizeLine := by rw [lim_eq]; omega
                    refine ⟨va, D5, by rw [acc5.length]; exact hlen, by omega, wipeS s5 (own.map (·.2)), f6, acc ++ [y], va ++ [vy], fun b => ga b + gy b, m1.kept up muD fun b n => oneD (by have := m2 b; omega), upd_same,
                      (acc5.snoc n1).kept up muD fun b n => oneD (by omega), by simp; omega, fun b => by have := own5 b; have := m2 b; show fa b + (ga b + gy b) + f6 b + one D b ≤ 1; omega,
                      ok.st H5 _ (one D) up muD (fun b n => oneD (by omega)) ir5, val5.kept up muD fun b n => oneD (by omega), fun i hi hl => wipeS_none _ _ _ hi (by rw [wipeS_length] at hl; exact hl), fun b o e z => ?_, a10⟩
                    obtain ⟨y1, y2, y3⟩ := dead4 b o e z
                    have z4 : f4 b = 0 := by omega
                    have y5 := n4.keep b o y1 z4
                    have : gy b + f5 b = 0 := n4.own b o y1 z4
                    have := m2 b
                    exact ⟨by rw [upd_ne y3]; exact y5, by show fa b + (ga b + gy b) + f6 b = 0; omega, y3⟩
          · -- the end
            have ei : i = xs.length := by omega
            subst ei
            refine .inl ⟨ok.stop Hc a6, ?_⟩
            rw [List.drop_length] at a10
            simp only [compL] at a10
            rw [← a10] at h5
            have u1 := a1.unwipe (own.map (·.2)) a8
            obtain ⟨f6, l1, l2⟩ := put_ok h1 u1 a7 (fun b => by have := a5 b; omega)
            refine h5 (.ref D) Hc (fun b => ga b + one D b) f6 ⟨D, va, ga, rfl, a2, by rw [lim_eq]; omega, a3, fun _ => rfl⟩ l1 (fun b => by have := a5 b; have := l2 b; show ga b + one D b + f6 b ≤ 1; omega) ⟨fun b o e z => (a9 b o e z).1, fun b o e z => ?_⟩
            obtain ⟨y1, y2, y3⟩ := a9 b o e z
            have := l2 b
            have : one D b = 0 := one_ne y3
            show ga b + one D b + f6 b = 0
            omega
      · exact h5.elim
end
end Bv

set_option maxHeartbeats 400000
namespace Bv
open PySem PySem.Spec PyProof.Rows L2

section
variable {X : Cx} {W : WX} {tg iter elt e a : Expr} {ifs : List Expr} {scope : Scope} {own : List (Str × Nat)} {pos : Pos}
/-- names stored one after another -/
inductive NmT : List Nat → TGs → Prop where
  | nil : NmT [] gNil
  | cons {i : Nat} {is : List Nat} {t : TGs} (r : NmT is t) : NmT (i :: is) (gCons (gName i) t)
theorem NmT.run {K : PySem.W.Frag} : ∀ {is : List Nat} {t : TGs}, NmT is t → ∀ {xs : List PV} {vs : List V} {s : Sl} {σ : L2.St} {H : Hp} {f gx : Fp} {Q : L2.St → Hp → Prop}, xs.length = is.length → Reps K H xs vs gx → SLR K H s σ f →
    (∀ σ' f', SLR K H ((is.zip xs).foldl (fun s p => s.set p.1 (some p.2)) s) σ' f' → (∀ b, f' b ≤ gx b + f b) → (∀ j, j ∉ is → σ'[j]? = σ[j]?) → σ'.length = σ.length → Q σ' H) → t vs σ H Q
  | _, _, .nil, [], vs, s, σ, H, f, gx, Q, hl, r, hs, q => ⟨r.1, q σ f hs (fun b => by omega) (fun _ _ => rfl) rfl⟩
  | _, _, .cons (i := i) (is := is) rr, x :: xs, vs, s, σ, H, f, gx, Q, hl, r, hs, q => by
    obtain ⟨v, ws, g1, g2, rfl, r1, r2, hg⟩ := r
    obtain ⟨f1, h1, h2⟩ := hs.store i r1
    refine ⟨v, ws, rfl, ?_⟩
    refine NmT.run rr (xs := xs) (vs := ws) (s := s.set i (some x)) (σ := σ.set i (some v)) (f := f1) (gx := g2) (by simpa using hl) r2 h1 fun σ' f' k1 k2 k3 k4 => ?_
    refine q σ' f' (by simpa using k1) (fun b => by have := k2 b; have := h2 b; have := hg b; omega) (fun j hj => ?_) (by rw [k4, List.length_set])
    have hj' : j ≠ i ∧ j ∉ is := by simpa using hj
    rw [k3 j hj'.2, List.getElem?_set_ne (Ne.symm hj'.1)]
  | _, _, .cons _, [], vs, s, σ, H, f, gx, Q, hl, r, hs, q => by simp at hl
  | _, _, .nil, _ :: _, vs, s, σ, H, f, gx, Q, hl, r, hs, q => by simp at hl
/-- every block of a comprehension that starts in X -/
abbrev Blk (X : Cx) (scope : Scope) (P : Cx → Prop) : Prop := ∀ (s : Shared) (H : Hp) (C : Addr) (cl : List (Str × Addr)) (fp : List Addr), P (X.blk s H scope (compEnvC scope cl C X.env) fp)
/-- a target of a block: its reading does not hang on the block -/
structure TgB (X : Cx) (scope : Scope) (tg : Expr) (t : PV → Sl → Option Sl) (ix : List Nat) : Prop where
  ex : ∃ g, Blk X scope (fun Y => PG Y tg g) ∧ ∀ (x : PV) (s s1 : Sl) (v : V) (σ : L2.St) (H : Hp) (f gx : Fp) (Q : L2.St → Hp → Prop), t x s = some s1 → Rep X.K H x v gx → SLR X.K H s σ f →
    (∀ σ' f', SLR X.K H s1 σ' f' → (∀ b, f' b ≤ gx b + f b) → (∀ j, j ∉ ix → σ'[j]? = σ[j]?) → σ'.length = σ.length → Q σ' H) → g v σ H Q
theorem tgb_name (i : Nat) {x : Str} {p : Pos} (h : Blk X scope (fun Y => PG Y (.Name x p) (gName i))) : TgB X scope (.Name x p) (t1 i) [i] := ⟨gName i, h, fun x s s1 v σ H f gx Q e r hs q => by
  cases (Option.some.inj e)
  obtain ⟨f', h1, h2⟩ := hs.store i r
  exact q _ f' h1 h2 (fun j hj => List.getElem?_set_ne (fun z => hj (by simp [z]))) (List.length_set)⟩
/-- several names of a block -/
inductive BNs (X : Cx) (scope : Scope) : List Expr → List Nat → TGs → Prop where
  | nil : BNs X scope [] [] gNil
  | cons {x : Str} {p : Pos} {es : List Expr} {i : Nat} {is : List Nat} {t : TGs} (h : Blk X scope (fun Y => PG Y (.Name x p) (gName i))) (r : BNs X scope es is t) (hs : Blk X scope (fun Y => (assignEach (.Name x p :: es) Y.env).map (·.2) = assign (.Name x p) Y.env :: (assignEach es Y.env).map (·.2))) : BNs X scope (.Name x p :: es) (i :: is) (gCons (gName i) t)
theorem BNs.pns : ∀ {es : List Expr} {is : List Nat} {t : TGs}, BNs X scope es is t → Blk X scope (fun Y => PNs Y es is t)
  | _, _, _, .nil => fun _ _ _ _ _ => .nil
  | _, _, _, .cons h r hs => fun s H C cl fp => .cons (h s H C cl fp) (BNs.pns r s H C cl fp) (hs s H C cl fp)
theorem BNs.nm : ∀ {es : List Expr} {is : List Nat} {t : TGs}, BNs X scope es is t → NmT is t
  | _, _, _, .nil => .nil
  | _, _, _, .cons _ r _ => .cons r.nm
theorem tgb_tup {es : List Expr} {k : Nat} {is : List Nat} {t : TGs} {p : Pos} (hc : X.calm = true) (h : BNs X scope es is t) (hn : Blk X scope (fun Y => (assignEach es Y.env).length = is.length)) (hst : Blk X scope (fun Y => (assignEach es Y.env).findIdx? (·.1) = none)) : TgB X scope (.Tuple es k p) (tN is) is :=
  ⟨gTup X.K is.length t, fun s H C cl fp => pg_tup (X := X.blk s H scope (compEnvC scope cl C X.env) fp) hc (h.pns s H C cl fp).pgs (hn s H C cl fp) (hst s H C cl fp), fun x s s1 v σ H f gx Q e r hs q => by
    unfold tN at e
    split at e
    · rename_i xs
      split at e
      · rename_i hl
        cases (Option.some.inj e)
        obtain ⟨a, va, rfl, ha, za, sa⟩ := r.tupAt
        exact ⟨a, va, rfl, ha, by rw [sa.length, hl], h.nm.run hl sa hs q⟩
      · cases e
    · cases e⟩
theorem se_comp {os : M (List Pnd)} {r : List V → Hp → (It → Hp → Prop) → Prop} {it : List PV → Option (List PV)} {t : PV → Sl → Option Sl} {ix : List Nat} {cond : M Bool} {el : M PV}
    (hc : X.calm = true) (hN : X.N.Nodup) (hi : SI X W tg iter os r) (vi : VIt X.K it r) (ok : BlkOk X.N X.env.scope scope own) (ht : TgB X scope tg t ix) (hix : ∀ i ∈ ix, i ∈ own.map (·.2))
    (hcond : Blk X scope (fun Y => SIf Y W0 ifs cond)) (hel : Blk X scope (fun Y => SE Y W0 elt el)) (hs : ∀ x, foldedSetIterable iter X.env x = pure x := by intro _; rfl) :
    SE X W (.ListComp elt [⟨tg, iter, ifs, 0⟩] scope pos) (mComp os it t cond el (own.map (·.2))) := by
  obtain ⟨g, hg, hgt⟩ := ht.ex
  exact PE.weaken (pe_lc (tt := rdG BRep X W0 cond) (te := rdG (Rep X.K) X W0 el) hc hN hi ok hg hcond hel hs) fun σ H Q q => comp_core vi hgt hix q
end

/-! ### methods that change a list -/
/-- the receiver is the slot i, which owns a list -/
def mMeth (i : Nat) (f : PV → List PV → Option (PV × PV)) (ms : M (List PV)) : M PV := fun s => match s[i]? with
  | some (some (.lst true _)) => (ms s).bind fun ys s1 => match s1[i]? with
    | some (some (.lst true xs)) => match f (.lst true xs) ys with
      | some (z, x') => .ok z (s1.set i (some x'))
      | none => .bad
    | _ => .bad
  | _ => .bad
def VMt (K : PySem.W.Frag) (f : PV → List PV → Option (PV × PV)) (r : V → List V → Hp → VK → Prop) : Prop :=
  ∀ H x v gx ys ws gy z x' Q, Rep K H (.lst true x) v gx → Reps K H ys ws gy → (∀ b, gx b + gy b ≤ 1) → f (.lst true x) ys = some (z, x') →
    (∀ vz H' gz gx', Rep K H' z vz gz → Rep K H' x' v gx' → (∀ b, gz b + gx' b ≤ gx b + gy b) → Kept H H' gx → Q vz H') → r v ws H Q
def fApp : PV → List PV → Option (PV × PV)
  | .lst true xs, [y] => if xs.length < LIM then some (.non, .lst true (xs ++ [y])) else none
  | _, _ => none
def fPop : PV → List PV → Option (PV × PV)
  | .lst true xs, [] => match xs.getLast? with | some y => some (y, .lst true xs.dropLast) | none => none
  | _, _ => none
noncomputable def fPopAt : PV → List PV → Option (PV × PV)
  | .lst true xs, [.int i] => @ite _ (-(2 ^ 63) ≤ i ∧ i < 2 ^ 63) (Classical.propDecidable _) (match seqIndex? i xs.length with
    | some k => match xs[k]? with | some y => some (y, .lst true (xs.eraseIdx k)) | none => none
    | none => none) none
  | _, _ => none
section
variable {K : PySem.W.Frag} {H : Hp}
theorem kept_upd {D : Addr} {o : HO} : Kept H (upd H D o) (one D) := fun b u e z => by
  have : b ≠ D := fun e' => by rw [e', one_self] at z; omega
  rw [upd_ne this]; exact e
theorem mut_one {D : Addr} {vs : List V} (h : H D = some (.lst vs)) : ∀ b, one D b ≠ 0 → MutA H b := fun b n => by
  have : b = D := Classical.byContradiction fun z => n (one_ne z)
  subst this; exact ⟨_, h, trivial⟩
theorem vm_app : VMt K fApp rAppend := by
  intro H x v gx ys ws gy z x' Q r rs le e q
  match ys, e with
  | [y], e =>
    obtain ⟨w, us, g1, g2, rfl, ry, ⟨rfl, z2⟩, hg⟩ := rs
    obtain ⟨a, va, g, rfl, ha, hz, ra, hga⟩ := r
    simp only [fApp] at e
    split at e
    · rename_i hl
      cases e
      refine ⟨a, va, w, rfl, rfl, ha, by rw [ra.length, lim_eq]; exact hl, ?_⟩
      have mu := mut_one ha
      have dj : ∀ b, g b + g1 b ≠ 0 → one a b = 0 := fun b n => by have := le b; have := hga b; have := hg b; omega
      exact q .non _ Z0 (fun b => (g b + g1 b) + one a b) rep_non ⟨a, va ++ [w], fun b => g b + g1 b, rfl, upd_same, by rw [List.length_append, List.length_singleton, lim_eq]; omega, (ra.snoc ry).kept kept_upd mu dj, fun _ => rfl⟩
        (fun b => by have := hga b; have := hg b; have : g2 b = 0 := z2 b; show 0 + (g b + g1 b + one a b) ≤ _; omega)
        (fun b o e z => kept_upd b o e (by have := hga b; omega))
    · cases e
theorem Reps.erase : ∀ {xs : List PV} {vs : List V} {f : Fp} {k : Nat} {x : PV}, Reps K H xs vs f → xs[k]? = some x → ∃ v g h, vs[k]? = some v ∧ Rep K H x v g ∧ Reps K H (xs.eraseIdx k) (vs.eraseIdx k) h ∧ ∀ b, f b = g b + h b
  | [], vs, f, k, x, h, e => by simp at e
  | y :: r, vs, f, 0, x, h, e => by
    obtain ⟨w, ws, g1, g2, rfl, h1, h2, hg⟩ := h
    have : y = x := by simpa using e
    subst this
    exact ⟨w, g1, g2, rfl, h1, h2, hg⟩
  | y :: r, vs, f, k + 1, x, h, e => by
    obtain ⟨w, ws, g1, g2, rfl, h1, h2, hg⟩ := h
    obtain ⟨v, g, h, k1, k2, k3, k4⟩ := Reps.erase (k := k) h2 (by simpa using e)
    exact ⟨v, g, fun b => g1 b + h b, by simpa using k1, k2, ⟨w, ws.eraseIdx k, g1, h, rfl, h1, k3, fun _ => rfl⟩, fun b => by have := hg b; have := k4 b; show f b = g b + (g1 b + h b); omega⟩
theorem vm_popAt : VMt K fPopAt rPopAt := by
  intro H x v gx ys ws gy z x' Q r rs le e q
  match ys, e with
  | [.int i], e =>
    obtain ⟨w, us, g1, g2, rfl, ⟨rfl, _⟩, ⟨rfl, z2⟩, hg⟩ := rs
    obtain ⟨a, va, g, rfl, ha, hz, ra, hga⟩ := r
    simp only [fPopAt] at e
    split at e
    · rename_i hl
      cases e1 : seqIndex? i x.length with
      | none => rw [e1] at e; cases e
      | some k =>
        rw [e1] at e
        dsimp only at e
        cases e2 : x[k]? with
        | none => rw [e2] at e; cases e
        | some y =>
          rw [e2] at e
          cases e
          obtain ⟨vy, gy', gr, k1, k2, k3, k4⟩ := ra.erase e2
          refine ⟨a, va, i, k, vy, rfl, rfl, ha, hl.1, hl.2, by rw [ra.length]; exact e1, k1, ?_⟩
          have mu := mut_one ha
          have dj : ∀ b, g b ≠ 0 → one a b = 0 := fun b n => by have := le b; have := hga b; omega
          exact q vy _ gy' (fun b => gr b + one a b) (k2.kept kept_upd mu fun b n => dj b (by have := k4 b; omega)) ⟨a, _, gr, rfl, upd_same, by have := len_erase x k; omega, k3.kept kept_upd mu fun b n => dj b (by have := k4 b; omega), fun _ => rfl⟩
            (fun b => by have := hga b; have := k4 b; show gy' b + (gr b + one a b) ≤ _; omega) (fun b o e z => kept_upd b o e (by have := hga b; omega))
    · cases e
theorem eraseIdx_last {α : Type} : ∀ (l : List α), l.eraseIdx (l.length - 1) = l.dropLast
  | [] => rfl
  | [x] => rfl
  | x :: y :: r => by
    have := eraseIdx_last (y :: r)
    simp only [List.length_cons, Nat.add_sub_cancel] at this ⊢
    simp only [List.eraseIdx_cons_succ, List.dropLast_cons₂]
    rw [this]
theorem vm_pop : VMt K fPop rPop := by
  intro H x v gx ys ws gy z x' Q r rs le e q
  match ys, e with
  | [], e =>
    obtain ⟨rfl, z2⟩ := rs
    obtain ⟨a, va, g, rfl, ha, hz, ra, hga⟩ := r
    simp only [fPop] at e
    cases e2 : x.getLast? with
    | none => rw [e2] at e; cases e
    | some y =>
      rw [e2] at e
      cases e
      rw [List.getLast?_eq_getElem?] at e2
      obtain ⟨vy, gy', gr, k1, k2, k3, k4⟩ := ra.erase e2
      rw [eraseIdx_last] at k3
      have e3 : va.eraseIdx (x.length - 1) = va.dropLast := by rw [← ra.length]; exact eraseIdx_last va
      rw [e3] at k3
      refine ⟨a, va, vy, rfl, rfl, ha, by rw [ra.length]; exact k1, ?_⟩
      have mu := mut_one ha
      have dj : ∀ b, g b ≠ 0 → one a b = 0 := fun b n => by have := le b; have := hga b; omega
      exact q vy _ gy' (fun b => gr b + one a b) (k2.kept kept_upd mu fun b n => dj b (by have := k4 b; omega)) ⟨a, _, gr, rfl, upd_same, by rw [List.length_dropLast]; omega, k3.kept kept_upd mu fun b n => dj b (by have := k4 b; omega), fun _ => rfl⟩
        (fun b => by have := hga b; have := k4 b; show gy' b + (gr b + one a b) ≤ _; omega) (fun b o e z => kept_upd b o e (by have := hga b; omega))
end
section
variable {X : Cx} {W : WX} {e : Expr} {es : List Expr} {x : Str} {p apos pos : Pos} {name : Str} {id : String} {r : V → List V → Hp → VK → Prop} {f : PV → List PV → Option (PV × PV)}
/-- behind the arguments -/
theorem meth_end {i : Nat} (vm : VMt X.K f r) {ms : M (List PV)} {σ : L2.St} {H : Hp} {Q : VK} {s : Sl} {F : Fp} (h1 : SLR X.K H s σ F) (h2 : ∀ b, F b ≤ 1) (h3 : GP (Rep X.K) X W H F σ Q (mMeth i f ms s)) :
    ∃ a, σ[i]? = some (some (.ref a)) ∧ tyV X.K "list" (.ref a) H ∧ rdG (Reps X.K) X W ms σ H (fun ws H2 => r (.ref a) ws H2 Q) := by
  unfold mMeth at h3
  split at h3
  · rename_i xs0 e0
    obtain ⟨v, g0, h0, k1, k2, k3, k4⟩ := h1.take e0
    obtain ⟨a, va, g, rfl, ha, hz, ra, hga⟩ := k2
    refine ⟨a, k1, .inl ⟨rfl, _, .inl (.inl ha)⟩, s, F, h1, h2, ?_⟩
    cases em : ms s with
    | bad => rw [em] at h3; exact h3
    | exc y s1 => rw [em] at h3; exact h3
    | ok ys s1 =>
      rw [em] at h3
      simp only [R.bind_ok] at h3
      intro ws H2 gy f2 l1 l2 l3 l4
      split at h3
      · rename_i xs1 e1
        obtain ⟨v', gx, hx, m1, m2, m3, m4⟩ := l2.take e1
        have ev : v' = .ref a := by have := m1.symm.trans k1; simpa using this
        subst ev
        split at h3
        · rename_i z x' ef
          refine vm H2 xs1 (.ref a) gx ys ws gy z x' Q m2 l1 (fun b => by have := l3 b; have := m4 b; omega) ef fun vz H' gz gx' n1 n2 n3 n4 => ?_
          have hs' : SLR X.K H' (s1.set i none) σ hx := m3.kept n4 (fun b n => m2.mut n) (fun b n => by have := l3 b; have := m4 b; omega)
          have hi : i < s1.length := (List.getElem?_eq_some_iff.mp e1).1
          have hp := SLR.put hs' (getElem?_set_none hi) n2
          rw [List.set_set, set_same m1] at hp
          refine h3 vz H' gz (fun b => gx' b + hx b) n1 hp (fun b => by have := n3 b; have := l3 b; have := m4 b; show gz b + (gx' b + hx b) ≤ 1; omega) ⟨fun b o e z => ?_, fun b o e z => ?_⟩
          · have y := l4.keep b o e z
            have : gy b + f2 b = 0 := l4.own b o e z
            exact n4 b o y (by have := m4 b; omega)
          · have : gy b + f2 b = 0 := l4.own b o e z
            have := n3 b
            have := m4 b
            show gz b + (gx' b + hx b) = 0
            omega
        · exact h3.elim
      · exact h3.elim
  · exact h3.elim
theorem MtM.mtR {X : Cx} {id : String} {r : V → List V → Hp → VK → Prop} (h : MtM X id r) : MtR X id r := h
/-- x.m(e, ..) of a list in a slot -/
theorem se_meth (i : Nat) {ms : M (List PV)} (slot : Slot "list" name id) (hty : typeOf (.builtin id) = pure (.type "method_descriptor")) (hm : MtR X id r) (vm : VMt X.K f r) (ho : PE X (.Name x p) (tVar i)) (ha : SV X W (e :: es) ms)
    (hbase : attributeBase (.Name x p) name X.env (eval (.Name x p) X.env) = eval (.Name x p) X.env := by rfl)
    (hfew : ((backTo pos (starEach (e :: es) X.env)).all (fun x => !x.1) && (backToKw pos (keywordEach [] X.env)).all (fun x => x.1.isSome)
      && decide ((e :: es).length + ([] : List Keyword).length + (if ([] : List Keyword).isEmpty then 0 else 1) < 30)) = true := by rfl)
    (hline : (apos.endLine == pos.line) = true := by rfl) (hs : starEach (e :: es) X.env = (false, eval e X.env) :: starEach es X.env := by rfl) (hplain : (backTo pos (starEach es X.env)).any (·.1) = false := by rfl) :
    SE X W (.Call (.Attribute (.Name x p) name apos) (e :: es) [] pos) (mMeth i f ms) :=
  PE.weaken (pe_bm PySem.F.plainAttrs_list slot hty hm ho ha hbase hfew hline hs hplain) fun σ H Q q => by
    obtain ⟨s, F, h1, h2, h3⟩ := q
    obtain ⟨a, k1, k2, k3⟩ := meth_end vm h1 h2 h3
    exact ⟨.ref a, k1, k2, k3⟩
/-- x.m() -/
theorem se_meth0 (i : Nat) (slot : Slot "list" name id) (hty : typeOf (.builtin id) = pure (.type "method_descriptor")) (hm : MtR X id r) (vm : VMt X.K f r) (ho : PE X (.Name x p) (tVar i))
    (hbase : attributeBase (.Name x p) name X.env (eval (.Name x p) X.env) = eval (.Name x p) X.env := by rfl) (hline : (apos.endLine == pos.line) = true := by rfl) :
    SE X W (.Call (.Attribute (.Name x p) name apos) [] [] pos) (mMeth i f vNil) :=
  PE.weaken (pe_bm0 PySem.F.plainAttrs_list slot hty hm ho hbase hline) fun σ H Q q => by
    obtain ⟨s, F, h1, h2, h3⟩ := q
    obtain ⟨a, k1, k2, s', f', z1, z2, z3⟩ := meth_end vm h1 h2 h3
    exact ⟨.ref a, k1, k2, z3 [] H Z0 f' ⟨rfl, fun _ => rfl⟩ z1 (fun b => by have := z2 b; simpa using this) (Frm.refl fun b z => by simpa using z)⟩
end
end Bv

set_option maxHeartbeats 400000
namespace Bv
open PySem PySem.Spec PyProof.Rows L2

/-! ### statements -/
inductive Out where
  | nx (s : Sl)
  | rt (x : PV) (s : Sl)
  | bk (s : Sl)
  | ct (s : Sl)
  | exc (x : XV) (s : Sl)
  | bad
abbrev MS := Sl → Out
def R.out {α : Type} : R α → (α → Sl → Out) → Out
  | .ok a s, k => k a s
  | .exc x s, _ => .exc x s
  | .bad, _ => .bad
@[simp] theorem R.out_ok {α : Type} (a : α) (s : Sl) (k : α → Sl → Out) : (R.ok a s).out k = k a s := rfl
@[simp] theorem R.out_exc {α : Type} (x : XV) (s : Sl) (k : α → Sl → Out) : (R.exc x s : R α).out k = .exc x s := rfl
@[simp] theorem R.out_bad {α : Type} (k : α → Sl → Out) : (R.bad : R α).out k = .bad := rfl
def PinE (pn : List Nat) (σ σ' : L2.St) : Prop := σ'.length = σ.length ∧ ∀ i ∈ pn, σ'[i]? = σ[i]?
theorem PinE.refl (pn : List Nat) (σ : L2.St) : PinE pn σ σ := ⟨rfl, fun _ _ => rfl⟩
theorem PinE.trans {pn : List Nat} {a b c : L2.St} (x : PinE pn a b) (y : PinE pn b c) : PinE pn a c := ⟨y.1.trans x.1, fun i hi => (y.2 i hi).trans (x.2 i hi)⟩
theorem PinE.sub {pn qn : List Nat} {a b : L2.St} (x : PinE qn a b) (h : ∀ i ∈ pn, i ∈ qn) : PinE pn a b := ⟨x.1, fun i hi => x.2 i (h i hi)⟩

def SEnd (K : PySem.W.Frag) (pn : List Nat) (H : Hp) (f : Fp) (σ : L2.St) (D : L2.St → Hp → Prop) (s' : Sl) : Prop :=
  ∀ σ' H' f', PinE pn σ σ' → SLR K H' s' σ' f' → (∀ b, f' b ≤ 1) → Frm H H' f f' → D σ' H'
def OP (X : Cx) (W : WX) (pn : List Nat) (D : Ends) (H : Hp) (f : Fp) (σ : L2.St) : Out → Prop
  | .nx s' => SEnd X.K pn H f σ D.nx s'
  | .bk s' => SEnd X.K pn H f σ D.bk s'
  | .ct s' => SEnd X.K pn H f σ D.ct s'
  | .rt x s' => ∀ v σ' H' g f', PinE pn σ σ' → Rep X.K H' x v g → SLR X.K H' s' σ' f' → (∀ b, g b + f' b ≤ 1) → Frm H H' f (fun b => g b + f' b) → D.rt v H'
  | .exc x s' => ∀ cls d σ' H' f', PinE pn σ σ' → XRep X.K X.mg H' x cls d → SLR X.K H' s' σ' f' → (∀ b, f' b ≤ 1) → Frm H H' f f' → W cls d σ' H'
  | .bad => False
def rdS (X : Cx) (W : WX) (pn : List Nat) (m : MS) : TS := fun D σ H => ∃ s f, SLR X.K H s σ f ∧ (∀ b, f b ≤ 1) ∧ OP X W pn D H f σ (m s)
def SS (X : Cx) (W : WX) (pn : List Nat) (st : Stmt) (m : MS) : Prop := PS X st (rdS X W pn m)
def SSs (X : Cx) (W : WX) (pn : List Nat) (st : List Stmt) (m : MS) : Prop := PSs X st (rdS X W pn m)

theorem Frm.go {H H1 H' : Hp} {f h1 f1 f2 : Fp} (a : Frm H H1 f h1) (b : Frm H1 H' f1 f2) (le : ∀ b, h1 b = 0 → f1 b = 0) : Frm H H' f f2 :=
  ⟨fun c o e z => b.keep c o (a.keep c o e z) (le c (a.own c o e z)), fun c o e z => b.own c o (a.keep c o e z) (le c (a.own c o e z))⟩
section
variable {X : Cx} {W : WX} {pn : List Nat} {D : Ends} {H H1 : Hp} {f f1 h1 : Fp} {σ σ1 : L2.St}
theorem SEnd.step {E : L2.St → Hp → Prop} {s' : Sl} (p : SEnd X.K pn H f σ E s') (pe : PinE pn σ σ1) (fr : Frm H H1 f h1) (le : ∀ b, h1 b = 0 → f1 b = 0) : SEnd X.K pn H1 f1 σ1 E s' :=
  fun σ' H' f' a b c d => p σ' H' f' (pe.trans a) b c (fr.go d le)
theorem OP.step {o : Out} (p : OP X W pn D H f σ o) (pe : PinE pn σ σ1) (fr : Frm H H1 f h1) (le : ∀ b, h1 b = 0 → f1 b = 0) : OP X W pn D H1 f1 σ1 o := by
  cases o with
  | nx s' => exact SEnd.step (p : SEnd X.K pn H f σ D.nx s') pe fr le
  | bk s' => exact SEnd.step (p : SEnd X.K pn H f σ D.bk s') pe fr le
  | ct s' => exact SEnd.step (p : SEnd X.K pn H f σ D.ct s') pe fr le
  | rt x s' => exact fun v σ' H' g f' a b c d e => p v σ' H' g f' (pe.trans a) b c d (fr.go e le)
  | exc x s' => exact fun cls d σ' H' f' a b c e e' => p cls d σ' H' f' (pe.trans a) b c e (fr.go e' le)
  | bad => exact p
/-- an expression first -/
theorem rdS.bind {α β : Type} {ρ : Hp → α → β → Fp → Prop} {m : M α} {k : α → Sl → Out} {Q1 : β → Hp → Prop}
    (h : rdS X W pn (fun s => (m s).out k) D σ H)
    (hk : ∀ f a s1 v H1 g f1, (∀ b, f b ≤ 1) → ρ H1 a v g → SLR X.K H1 s1 σ f1 → (∀ b, g b + f1 b ≤ 1) → Frm H H1 f (fun b => g b + f1 b) → OP X W pn D H f σ (k a s1) → Q1 v H1) : rdG ρ X W m σ H Q1 := by
  obtain ⟨s, f, h1, h2, h3⟩ := h
  refine ⟨s, f, h1, h2, ?_⟩
  dsimp only at h3
  cases e : m s with
  | ok a s1 =>
    rw [e] at h3
    exact fun v H' g f' p q r t => hk f a s1 v H' g f' h2 p q r t h3
  | exc x s1 =>
    rw [e] at h3
    exact fun cls d H' f' a b c e => h3 cls d σ H' f' (PinE.refl _ _) a b c e
  | bad => rw [e] at h3; exact h3
theorem PSs.weaken' {st : List Stmt} {t t' : TS} (h : PSs X st t) (w : ∀ D σ H, t' D σ H → t D σ H) : PSs X st t' := ⟨fun pins s σ H D I q => h.run pins s σ H D I (w D σ H q)⟩
theorem PS.weaken' {st : Stmt} {t t' : TS} (h : PS X st t) (w : ∀ D σ H, t' D σ H → t D σ H) : PS X st t' := ⟨fun pins s σ H D I q => h.run pins s σ H D I (w D σ H q)⟩
end

def mNx : MS := fun s => .nx s
def Out.then (o : Out) (n : MS) : Out := match o with | .nx s' => n s' | o => o
def mSeq (m n : MS) : MS := fun s => (m s).then n
def mDrop (m : M PV) : MS := fun s => (m s).out fun _ s' => .nx s'
def mRet (m : M PV) : MS := fun s => (m s).out fun x s' => .rt x s'
def mRetN : MS := fun s => .rt .non s
def mBk : MS := fun s => .bk s
def mCt : MS := fun s => .ct s
def mIf (c : M Bool) (a b : MS) : MS := fun s => (c s).out fun d s' => if d then a s' else b s'
def mAsg (m : M PV) (t : PV → Sl → Option Sl) : MS := fun s => (m s).out fun x s' => match t x s' with | some s2 => .nx s2 | none => .bad
section
variable {X : Cx} {W : WX} {pn : List Nat} {st : Stmt} {rest : List Stmt} {m n : MS} {e c : Expr} {pos : Pos}
theorem ss_nx {t : TS} (h : PS X st tNext) : SS X W pn st mNx := PS.weaken' h fun D σ H ⟨s, f, h1, h2, h3⟩ => h3 σ H f (PinE.refl _ _) h1 h2 (Frm.refl fun b z => z)
theorem sss_nil : SSs X W pn [] mNx := PSs.weaken' pss_nil fun D σ H ⟨s, f, h1, h2, h3⟩ => h3 σ H f (PinE.refl _ _) h1 h2 (Frm.refl fun b z => z)
theorem sss_cons (h1 : SS X W pn st m) (h2 : SSs X W pn rest n) : SSs X W pn (st :: rest) (mSeq m n) := PSs.weaken' (pss_cons h1 h2) fun D σ H ⟨s, f, a1, a2, a3⟩ => by
  refine ⟨s, f, a1, a2, ?_⟩
  unfold mSeq at a3
  cases eo : m s with
  | nx s' =>
    rw [eo] at a3
    intro σ' H' f' p1 p2 p3 p4
    exact ⟨s', f', p2, p3, OP.step (show OP X W pn D H f σ (n s') from a3) p1 p4 (fun b z => z)⟩
  | bk s' => rw [eo] at a3; exact a3
  | ct s' => rw [eo] at a3; exact a3
  | rt x s' => rw [eo] at a3; exact a3
  | exc x s' => rw [eo] at a3; exact a3
  | bad => rw [eo] at a3; exact a3
theorem sss_one (h1 : SS X W pn st m) : SSs X W pn [st] m := pss_one h1
theorem ss_pass : SS X W pn (.Pass pos) mNx := PS.weaken' ps_pass fun D σ H ⟨s, f, h1, h2, h3⟩ => h3 σ H f (PinE.refl _ _) h1 h2 (Frm.refl fun b z => z)
theorem ss_bk : SS X W pn (.Break pos) mBk := PS.weaken' ps_break fun D σ H ⟨s, f, h1, h2, h3⟩ => h3 σ H f (PinE.refl _ _) h1 h2 (Frm.refl fun b z => z)
theorem ss_ct : SS X W pn (.Continue pos) mCt := PS.weaken' ps_continue fun D σ H ⟨s, f, h1, h2, h3⟩ => h3 σ H f (PinE.refl _ _) h1 h2 (Frm.refl fun b z => z)
theorem ss_expr {m : M PV} (he : SE X W e m) (hs : swapsWith e none pos.line X.env = pure false := by rfl) : SS X W pn (.Expr e pos) (mDrop m) := PS.weaken' (ps_expr he hs) fun D σ H q =>
  rdS.bind (ρ := Rep X.K) q fun f x s1 v H1 g f1 h0 h1 h2 h3 h4 h5 => h5 σ H1 f1 (PinE.refl _ _) h2 (fun b => by have := h3 b; omega) ⟨h4.keep, fun b o e z => by have : g b + f1 b = 0 := h4.own b o e z; omega⟩
theorem ss_ret {m : M PV} (he : SE X W e m) : SS X W pn (.Return (some e) pos) (mRet m) := PS.weaken' (ps_ret he) fun D σ H q =>
  rdS.bind (ρ := Rep X.K) q fun f x s1 v H1 g f1 h0 h1 h2 h3 h4 h5 => h5 v σ H1 g f1 (PinE.refl _ _) h1 h2 h3 h4
theorem ss_retN : SS X W pn (.Return none pos) mRetN := PS.weaken' ps_retN fun D σ H ⟨s, f, h1, h2, h3⟩ => h3 .non σ H Z0 f (PinE.refl _ _) rep_non h1 (fun b => by have := h2 b; simpa using this) (Frm.refl fun b z => by simpa using z)
theorem ss_if {a b : List Stmt} {mc : M Bool} (hc : ST X W c mc) (ha : SSs X W pn a m) (hb : SSs X W pn b n) : SS X W pn (.If c a b pos) (mIf mc m n) := PS.weaken' (ps_if hc ha hb) fun D σ H q =>
  rdS.bind (ρ := BRep) q fun f x s1 v H1 g f1 h0 h1 h2 h3 h4 h5 => by
    obtain ⟨rfl, z⟩ := h1
    cases x with
    | true => exact ⟨s1, f1, h2, fun b => by have := h3 b; omega, OP.step h5 (PinE.refl _ _) h4 (fun b z => by omega)⟩
    | false => exact ⟨s1, f1, h2, fun b => by have := h3 b; omega, OP.step h5 (PinE.refl _ _) h4 (fun b z => by omega)⟩
/-- behind the value of a store -/
theorem asg_end {g : TG} {t : PV → Sl → Option Sl} {ix : List Nat} (hp : ∀ i ∈ pn, i ∉ ix)
    (hg : ∀ (x : PV) (s s1 : Sl) (v : V) (σ : L2.St) (H : Hp) (f gx : Fp) (Q : L2.St → Hp → Prop), t x s = some s1 → Rep X.K H x v gx → SLR X.K H s σ f →
      (∀ σ' f', SLR X.K H s1 σ' f' → (∀ b, f' b ≤ gx b + f b) → (∀ j, j ∉ ix → σ'[j]? = σ[j]?) → σ'.length = σ.length → Q σ' H) → g v σ H Q)
    {m : M PV} {D : Ends} {σ : L2.St} {H : Hp} (q : rdS X W pn (mAsg m t) D σ H) : rdG (Rep X.K) X W m σ H (fun x H1 => g x σ H1 D.nx) :=
  rdS.bind (ρ := Rep X.K) q fun f x s1 v H1 gx f1 h0 h1 h2 h3 h4 h5 => by
    cases et : t x s1 with
    | none => rw [et] at h5; exact h5.elim
    | some s2 =>
      rw [et] at h5
      refine hg x s1 s2 v σ H1 f1 gx _ et h1 h2 fun σ' f' k1 k2 k3 k4 => ?_
      exact h5 σ' H1 f' ⟨k4, fun i hi => k3 i (hp i hi)⟩ k1 (fun b => by have := k2 b; have := h3 b; omega) ⟨h4.keep, fun b o e z => by have : gx b + f1 b = 0 := h4.own b o e z; have := k2 b; omega⟩
theorem ss_asg {tg : Expr} {m : M PV} {t : PV → Sl → Option Sl} {ix : List Nat} (he : SE X W e m) (ht : TgOk X tg t ix) (hp : ∀ i ∈ pn, i ∉ ix) (hs : swapsWithSole [tg] e pos.line X.env = pure false := by rfl) (hw : swappedStores [tg] e X.env = pure none := by rfl)
    (h1 : (assignEach [tg] X.env).map (·.2) = [assign tg X.env] := by rfl) : SS X W pn (.Assign [tg] e pos) (mAsg m t) := by
  obtain ⟨g, hg, hgt⟩ := ht.ex
  exact PS.weaken' (ps_asg he hg hs hw h1) fun D σ H q => asg_end hp hgt q
theorem gname_ok (i : Nat) (x : PV) (s s1 : Sl) (v : V) (σ : L2.St) (H : Hp) (f gx : Fp) (Q : L2.St → Hp → Prop) (e : t1 i x s = some s1) (r : Rep X.K H x v gx) (hs : SLR X.K H s σ f)
    (q : ∀ σ' f', SLR X.K H s1 σ' f' → (∀ b, f' b ≤ gx b + f b) → (∀ j, j ∉ [i] → σ'[j]? = σ[j]?) → σ'.length = σ.length → Q σ' H) : gName i v σ H Q := by
  cases (Option.some.inj e)
  obtain ⟨f', h1, h2⟩ := hs.store i r
  exact q _ f' h1 h2 (fun j hj => List.getElem?_set_ne (fun z => hj (by simp [z]))) (List.length_set)
theorem ss_set (i : Nat) {x : Str} {m : M PV} {pos' : Pos} (he : SE X W e m) (hN : X.N.Nodup) (hi : X.N[i]? = some x) (hx : Loc X.env.scope x) (hp : ∀ j ∈ pn, j ∉ [i]) (hs : swapsWith e (some (.Name x pos')) pos.line X.env = pure false) (hf : X.fn x = true ∨ X.env.scope.names.lookup x = some .local) :
    SS X W pn (.Assign [.Name x pos'] e pos) (mAsg m (t1 i)) :=
  PS.weaken' (ps_set hN hi hx he hs hf) fun D σ H q => asg_end hp (gname_ok i) q
theorem ss_setLc (i : Nat) {y : Str} {py : Pos} {elt tg iter : Expr} {ifs : List Expr} {scope : Scope} {own : List (Str × Nat)} {spos : Pos} {os : M (List Pnd)} {r : List V → Hp → (It → Hp → Prop) → Prop} {it : List PV → Option (List PV)} {t : PV → Sl → Option Sl} {ix : List Nat} {cond : M Bool} {el : M PV}
    (hc : X.calm = true) (hN : X.N.Nodup) (hy : X.N[i]? = some y) (hyl : X.env.scope.names.lookup y = some .local) (hp : ∀ j ∈ pn, j ∉ [i])
    (hsw : swapsWith (.ListComp elt [⟨tg, iter, ifs, 0⟩] scope pos) (some (.Name y py)) spos.line X.env = pure true)
    (hi : SI X W tg iter os r) (vi : VIt X.K it r) (ok : BlkOk X.N X.env.scope scope own) (ht : TgB X scope tg t ix) (hix : ∀ i ∈ ix, i ∈ own.map (·.2))
    (hcond : Blk X scope (fun Y => SIf Y W0 ifs cond)) (hel : Blk X scope (fun Y => SE Y W0 elt el)) (hs : ∀ x, foldedSetIterable iter X.env x = pure x := by intro _; rfl) :
    SS X W pn (.Assign [.Name y py] (.ListComp elt [⟨tg, iter, ifs, 0⟩] scope pos) spos) (mAsg (mComp os it t cond el (own.map (·.2))) (t1 i)) := by
  obtain ⟨g, hg, hgt⟩ := ht.ex
  exact PS.weaken' (ps_setLc (tt := rdG BRep X W0 cond) (te := rdG (Rep X.K) X W0 el) hc hN hy hyl hsw hi ok hg hcond hel hs) fun D σ H q => comp_core vi hgt hix (asg_end hp (gname_ok i) q)
/-- a, b = x, y -/
def mPar (i j : Nat) (ms : M (List PV)) : MS := fun s => (ms s).out fun xs s' => match xs with | [x, y] => .nx ((s'.set i (some x)).set j (some y)) | _ => .bad
theorem ss_par (i j : Nat) {x y : Str} {a b : Expr} {ms : M (List PV)} {px py pt : Pos} {kt k2 pt2} (hc : X.calm = true) (hN : X.N.Nodup) (hi : X.N[i]? = some x) (hj : X.N[j]? = some y) (hij : i ≠ j)
    (hx : X.env.scope.names.lookup x = some .local) (hy : X.env.scope.names.lookup y = some .local) (hp : ∀ k ∈ pn, k ∉ [i, j]) (ha : SV X W [a, b] ms)
    (hw : swappedStores [.Tuple [.Name x px, .Name y py] kt pt] (.Tuple [a, b] k2 pt2) X.env = pure (some [x, y]))
    (hs : swapsWithSole [.Tuple [.Name x px, .Name y py] kt pt] (.Tuple [a, b] k2 pt2) pos.line X.env = pure false := by rfl) :
    SS X W pn (.Assign [.Tuple [.Name x px, .Name y py] kt pt] (.Tuple [a, b] k2 pt2) pos) (mPar i j ms) := PS.weaken' (ps_par hc hN hi hj hij hx hy ha hw hs) fun D σ H q =>
  rdS.bind (ρ := Reps X.K) q fun f xs s1 vs H1 g f1 h0 h1 h2 h3 h4 h5 => by
    match xs, h1, h5 with
    | [x, y], h1, h5 =>
      obtain ⟨v, ws, g1, g2, rfl, r1, ⟨w, us, g3, g4, rfl, r2, ⟨rfl, z4⟩, hg2⟩, hg⟩ := h1
      obtain ⟨f2, k1, k2⟩ := h2.store i r1
      obtain ⟨f3, k3, k4⟩ := k1.store j r2
      have le : ∀ b, f3 b ≤ g b + f1 b := fun b => by have := k2 b; have := k4 b; have := hg b; have := hg2 b; omega
      exact ⟨v, w, rfl, h5 _ H1 f3 ⟨by simp, fun k hk => by
        have := hp k hk
        have n1 : i ≠ k := fun z => this (by simp [z])
        have n2 : j ≠ k := fun z => this (by simp [z])
        rw [List.getElem?_set_ne n2, List.getElem?_set_ne n1]⟩ k3 (fun b => by have := le b; have := h3 b; omega) ⟨h4.keep, fun b o e z => by have : g b + f1 b = 0 := h4.own b o e z; have := le b; omega⟩⟩
    | [], h1, h5 => exact h5.elim
    | [x], h1, h5 => exact h5.elim
    | x :: y :: z :: r, h1, h5 => exact h5.elim
end
end Bv

set_option maxHeartbeats 400000
namespace Bv
open PySem PySem.Spec PyProof.Rows L2

/-! ### for -/
def forL (t : PV → Sl → Option Sl) (b : MS) : List PV → Sl → Out
  | [], s => .nx s
  | x :: r, s => match t x s with
    | none => .bad
    | some s1 => match b s1 with
      | .nx s2 => forL t b r s2
      | .ct s2 => forL t b r s2
      | .bk s2 => .nx s2
      | .rt y s2 => .rt y s2
      | .exc y s2 => .exc y s2
      | .bad => .bad
def finL (ps : List Pnd) (vals : List PV) : Out → Out
  | .nx s => .nx (putP ps vals s)
  | .rt x s => .rt x (putP ps vals s)
  | .exc x s => .exc x (putP ps vals s)
  | _ => .bad
def locsIn (pn : List Nat) : List Pnd → Bool
  | [] => true
  | .loc i :: r => pn.contains i && locsIn pn r
  | .val _ :: r => locsIn pn r
def mFor (pn : List Nat) (os : M (List Pnd)) (it : List PV → Option (List PV)) (t : PV → Sl → Option Sl) (b : MS) : MS := fun s => (os s).out fun ps s1 =>
  if locsIn pn ps = true then match takeP ps s1 with
    | some (vals, s2) => match it vals with
      | some xs => finL ps vals (forL t b xs s2)
      | none => .bad
    | none => .bad
  else .bad
section
variable {K : PySem.W.Frag} {H H' : Hp} {σ σ' : L2.St}
theorem PReps.pin {pn : List Nat} : ∀ {ps : List Pnd} {vs : List V} {g : Fp}, PReps K σ H ps vs g → locsIn pn ps = true → PinE pn σ σ' → PReps K σ' H ps vs g
  | [], vs, g, h, l, p => h
  | .loc i :: r, vs, g, h, l, p => by
    obtain ⟨v, ws, g1, g2, e, h1, h2, hg⟩ := h
    simp only [locsIn, Bool.and_eq_true] at l
    exact ⟨v, ws, g1, g2, e, ⟨by rw [p.2 i (by simpa using l.1)]; exact h1.1, h1.2⟩, PReps.pin h2 l.2 p, hg⟩
  | .val x :: r, vs, g, h, l, p => by
    obtain ⟨v, ws, g1, g2, e, h1, h2, hg⟩ := h
    exact ⟨v, ws, g1, g2, e, h1, PReps.pin h2 l p, hg⟩
end
section
variable {X : Cx} {W : WX} {pn qn : List Nat} {tg iter : Expr} {body : List Stmt} {pos : Pos}
theorem ss_for {os : M (List Pnd)} {r : List V → Hp → (It → Hp → Prop) → Prop} {it : List PV → Option (List PV)} {t : PV → Sl → Option Sl} {ix : List Nat} {b : MS}
    (po : PassesOwn (model X.prog X.w) X.A X.env X.xe) (hc : X.calm = true) (hi : SI X W tg iter os r) (vi : VIt X.K it r) (ht : TgOk X tg t ix) (hix : ∀ i ∈ qn, i ∉ ix) (hpq : ∀ i ∈ pn, i ∈ qn) (hb : SSs X W qn body b)
    (hs : ∀ x, foldedSetIterable iter X.env x = pure x := by intro _; rfl) : SS X W pn (.For tg iter body [] pos) (mFor qn os it t b) := by
  obtain ⟨g, hg, hgt⟩ := ht.ex
  refine PS.weaken' (ps_for po hc hi hg hb hs) fun D σ H q => ?_
  refine rdS.bind (ρ := PReps X.K σ) q fun F ps s1 vs H1 g1 f1 h0 h1 h2 h3 h4 h5 => ?_
  split at h5
  · rename_i hloc
    cases e1 : takeP ps s1 with
    | none => rw [e1] at h5; exact h5.elim
    | some pr =>
      obtain ⟨vals, s2⟩ := pr
      rw [e1] at h5
      dsimp only at h5
      cases e2 : it vals with
      | none => rw [e2] at h5; exact h5.elim
      | some xs =>
        rw [e2] at h5
        dsimp only at h5
        obtain ⟨fa, f', k1, k2, k3, k4⟩ := take_ok h1 h2 e1
        refine vi H1 vals vs fa xs _ k1 e2 fun J IR ok hIR => ?_
        -- the list back in its place
        have back : ∀ {σ' : L2.St} {H' : Hp} {s' : Sl} {fs : Fp}, PinE qn σ σ' → SLR X.K H' s' σ' fs → Reps X.K H' vals vs fa → (∀ b, fa b + fs b ≤ 1) → ∃ f'', SLR X.K H' (putP ps vals s') σ' f'' ∧ ∀ b, f'' b ≤ fa b + fs b :=
          fun p a b c => put_ok (h1.pin hloc p) a b c
        refine ⟨fun i m σc Hc => i + m = xs.length ∧ ∃ s fs, SLR X.K Hc s σc fs ∧ (∀ b, fa b + fs b ≤ 1) ∧ IR Hc ∧ Reps X.K Hc vals vs fa ∧ PinE qn σ σc ∧ Frm H Hc F (fun b => fa b + fs b) ∧
            finL ps vals (forL t b (xs.drop i) s) = finL ps vals (forL t b xs s2),
          ⟨xs.length, by omega, s2, f', k2, fun b => by have := k4 b; have := h3 b; omega, hIR, k1, PinE.refl _ _, ⟨h4.keep, fun b o e z => by have : g1 b + f1 b = 0 := h4.own b o e z; have := k4 b; show fa b + f' b = 0; omega⟩, rfl⟩, fun i m σc Hc hW => ?_⟩
        obtain ⟨him, s, fs, a1, a5, a6, a7, ap, af, a10⟩ := hW
        by_cases hi : i < xs.length
        · have notbad : ∀ {Pp : Prop}, finL ps vals (forL t b xs s2) = .bad → Pp := fun e => by rw [e] at h5; exact h5.elim
          refine .inr ⟨ok.go i Hc a6 hi, fun σn Hn => i + 1 + (m - 1) = xs.length ∧ ∃ s fs, SLR X.K Hn s σn fs ∧ (∀ b, fa b + fs b ≤ 1) ∧ IR Hn ∧ Reps X.K Hn vals vs fa ∧ PinE qn σ σn ∧ Frm H Hn F (fun b => fa b + fs b) ∧
              finL ps vals (forL t b (xs.drop (i + 1)) s) = finL ps vals (forL t b xs s2), fun σn Hn hn => ⟨m - 1, by omega, hn⟩, fun v Hy hy => ?_⟩
          have hx : xs[i]? = some xs[i] := List.getElem?_eq_getElem hi
          obtain ⟨rx, ky⟩ := ok.yld i Hc v Hy xs[i] a6 hx hy
          have ed : xs.drop i = xs[i] :: xs.drop (i + 1) := List.drop_eq_getElem_cons hi
          rw [ed] at a10
          simp only [forL] at a10
          have b1 := a1.keptZ ky
          have b6 : IR Hy := ok.st Hc Hy Z0 (keptZ ky) (fun _ n => absurd rfl n) (fun _ _ => rfl) a6
          have b7 := a7.keptZ ky
          cases et : t xs[i] s with
          | none => rw [et] at a10; exact notbad a10.symm
          | some s3 =>
            rw [et] at a10
            dsimp only at a10
            refine hgt xs[i] s s3 v _ Hy fs Z0 _ et rx b1 fun σ3 f3 c1 c2 c3 c4 => ?_
            have f3le : ∀ b, f3 b ≤ fs b := fun b => by have : f3 b ≤ 0 + fs b := c2 b; omega
            have p3 : PinE qn σ σ3 := ap.trans ⟨c4, fun j hj => c3 j (hix j hj)⟩
            -- what the body leaves
            have leaves : ∀ {H' : Hp} {g f4 : Fp}, Frm Hy H' f3 (fun b => g b + f4 b) → (∀ b, g b + f4 b ≤ 1) → IR H' ∧ Reps X.K H' vals vs fa ∧ (∀ b, g b + (fa b + f4 b) ≤ 1) ∧ Frm H H' F (fun b => g b + (fa b + f4 b)) := fun {H' g f4} fr le => by
              have dj : ∀ b, fa b ≠ 0 → f3 b = 0 := fun b n => by have := a5 b; have := f3le b; omega
              have mu : ∀ b, f3 b ≠ 0 → MutA Hy b := fun b n => c1.mut n
              refine ⟨ok.st Hy H' f3 fr.kept mu dj b6, b7.kept fr.kept mu dj, fun b => ?_, ⟨fun b o e z => ?_, fun b o e z => ?_⟩⟩
              · by_cases hb : fa b = 0
                · have := le b; omega
                · obtain ⟨o, ho, _⟩ := b7.mut hb
                  have : g b + f4 b = 0 := fr.own b o ho (dj b hb)
                  have := a5 b
                  omega
              · have z2 : fa b + fs b = 0 := af.own b o e z
                exact fr.keep b o (ky b o (af.keep b o e z)) (by have := f3le b; omega)
              · have z2 : fa b + fs b = 0 := af.own b o e z
                have : g b + f4 b = 0 := fr.own b o (ky b o (af.keep b o e z)) (by have := f3le b; omega)
                show g b + (fa b + f4 b) = 0
                omega
            have leaves0 : ∀ {H' : Hp} {f4 : Fp}, Frm Hy H' f3 f4 → (∀ b, f4 b ≤ 1) → IR H' ∧ Reps X.K H' vals vs fa ∧ (∀ b, fa b + f4 b ≤ 1) ∧ Frm H H' F (fun b => fa b + f4 b) := fun {H' f4} fr le => by
              obtain ⟨x1, x2, x3, x4⟩ := leaves (g := Z0) (f4 := f4) ⟨fr.keep, fun b o e z => by have := fr.own b o e z; show 0 + f4 b = 0; omega⟩ (fun b => by have := le b; show 0 + f4 b ≤ 1; omega)
              exact ⟨x1, x2, fun b => by have : 0 + (fa b + f4 b) ≤ 1 := x3 b; omega, ⟨x4.keep, fun b o e z => by have : 0 + (fa b + f4 b) = 0 := x4.own b o e z; show fa b + f4 b = 0; omega⟩⟩
            refine ⟨s3, f3, c1, fun b => by have := a5 b; have := f3le b; omega, ?_⟩
            have again : ∀ s4, finL ps vals (forL t b (xs.drop (i + 1)) s4) = finL ps vals (forL t b xs s2) → SEnd X.K qn Hy f3 σ3 (fun σn Hn => i + 1 + (m - 1) = xs.length ∧ ∃ s fs, SLR X.K Hn s σn fs ∧ (∀ b, fa b + fs b ≤ 1) ∧ IR Hn ∧ Reps X.K Hn vals vs fa ∧ PinE qn σ σn ∧ Frm H Hn F (fun b => fa b + fs b) ∧
              finL ps vals (forL t b (xs.drop (i + 1)) s) = finL ps vals (forL t b xs s2)) s4 := fun s4 e σ' H' f4 q1 q2 q3 q4 => by
              obtain ⟨x1, x2, x3, x4⟩ := leaves0 q4 q3
              exact ⟨by omega, s4, f4, q2, x3, x1, x2, p3.trans q1, x4, e⟩
            cases eb : b s3 with
            | nx s4 => rw [eb] at a10; exact again s4 a10
            | ct s4 => rw [eb] at a10; exact again s4 a10
            | bad => rw [eb] at a10; exact notbad a10.symm
            | bk s4 =>
              rw [eb] at a10
              rw [← a10] at h5
              intro σ' H' f4 q1 q2 q3 q4
              obtain ⟨x1, x2, x3, x4⟩ := leaves0 q4 q3
              obtain ⟨f5, y1, y2⟩ := back (p3.trans q1) q2 x2 x3
              exact h5 σ' H' f5 ((p3.trans q1).sub hpq) y1 (fun b => by have := y2 b; have := x3 b; omega) ⟨x4.keep, fun b o e z => by have : fa b + f4 b = 0 := x4.own b o e z; have := y2 b; omega⟩
            | rt y s4 =>
              rw [eb] at a10
              rw [← a10] at h5
              intro vy σ' H' gy f4 q1 q0 q2 q3 q4
              obtain ⟨x1, x2, x3, x4⟩ := leaves q4 q3
              obtain ⟨f5, y1, y2⟩ := back (p3.trans q1) q2 x2 (fun b => by have := x3 b; omega)
              exact h5 vy σ' H' gy f5 ((p3.trans q1).sub hpq) q0 y1 (fun b => by have := y2 b; have := x3 b; omega) ⟨x4.keep, fun b o e z => by have : gy b + (fa b + f4 b) = 0 := x4.own b o e z; have := y2 b; show gy b + f5 b = 0; omega⟩
            | exc y s4 =>
              rw [eb] at a10
              rw [← a10] at h5
              intro cls d σ' H' f4 q1 q0 q2 q3 q4
              obtain ⟨x1, x2, x3, x4⟩ := leaves0 q4 q3
              obtain ⟨f5, y1, y2⟩ := back (p3.trans q1) q2 x2 x3
              exact h5 cls d σ' H' f5 ((p3.trans q1).sub hpq) q0 y1 (fun b => by have := y2 b; have := x3 b; omega) ⟨x4.keep, fun b o e z => by have : fa b + f4 b = 0 := x4.own b o e z; have := y2 b; omega⟩
        · have ei : i = xs.length := by omega
          subst ei
          refine .inl ⟨ok.stop Hc a6, ?_⟩
          rw [List.drop_length] at a10
          simp only [forL] at a10
          rw [← a10] at h5
          obtain ⟨f5, y1, y2⟩ := back ap a1 a7 a5
          exact h5 σc Hc f5 (ap.sub hpq) y1 (fun b => by have := y2 b; have := a5 b; omega) ⟨af.keep, fun b o e z => by have : fa b + fs b = 0 := af.own b o e z; have := y2 b; omega⟩
  · exact h5.elim

/-! ### while -/
def whileL (c : M Bool) (b : MS) : Nat → Sl → Out
  | 0, _ => .bad
  | n + 1, s => (c s).out fun d s1 => if d then (match b s1 with
      | .nx s2 => whileL c b n s2
      | .ct s2 => whileL c b n s2
      | .bk s2 => .nx s2
      | .rt y s2 => .rt y s2
      | .exc y s2 => .exc y s2
      | .bad => .bad) else .nx s1
open Classical in
noncomputable def mWhile (c : M Bool) (b : MS) : MS := fun s => if h : ∃ n, whileL c b n s ≠ .bad then whileL c b h.choose s else .bad
theorem whileL_more {c : M Bool} {b : MS} : ∀ {n : Nat} {s : Sl}, whileL c b n s ≠ .bad → whileL c b (n + 1) s = whileL c b n s
  | 0, s, h => absurd rfl h
  | n + 1, s, h => by
    unfold whileL at h ⊢
    cases ec : c s with
    | bad => rfl
    | exc x s1 => rfl
    | ok d s1 =>
      rw [ec] at h
      simp only [R.out_ok] at h ⊢
      cases d with
      | false => rfl
      | true =>
        rw [if_pos rfl] at h ⊢
        rw [if_pos rfl]
        cases eb : b s1 with
        | nx s2 =>
          rw [eb] at h
          exact whileL_more h
        | ct s2 =>
          rw [eb] at h
          exact whileL_more h
        | bk s2 => rfl
        | rt y s2 => rfl
        | exc y s2 => rfl
        | bad => rfl
theorem whileL_le {c : M Bool} {b : MS} {n : Nat} {s : Sl} (h : whileL c b n s ≠ .bad) : ∀ k, whileL c b (n + k) s = whileL c b n s
  | 0 => rfl
  | k + 1 => by
    have ih := whileL_le h k
    rw [← Nat.add_assoc, whileL_more (by rw [ih]; exact h), ih]
theorem whileL_eq {c : M Bool} {b : MS} {n m : Nat} {s : Sl} (h : whileL c b n s ≠ .bad) (h' : whileL c b m s ≠ .bad) : whileL c b n s = whileL c b m s := by
  rcases Nat.le_total n m with l | l
  · obtain ⟨k, rfl⟩ := Nat.exists_eq_add_of_le l
    rw [whileL_le h k]
  · obtain ⟨k, rfl⟩ := Nat.exists_eq_add_of_le l
    rw [whileL_le h' k]
theorem mWhile_eq {c : M Bool} {b : MS} {n : Nat} {s : Sl} (h : whileL c b n s ≠ .bad) : mWhile c b s = whileL c b n s := by
  have hx : ∃ n, whileL c b n s ≠ .bad := ⟨n, h⟩
  unfold mWhile
  rw [dif_pos hx]
  exact whileL_eq hx.choose_spec h
theorem ss_while {c : Expr} {mc : M Bool} {b : MS} (po : PassesOwn (model X.prog X.w) X.A X.env X.xe) (hc : ST X W c mc) (hb : SSs X W pn body b) : SS X W pn (.While c body [] pos) (mWhile mc b) := by
  refine PS.weaken' (ps_while po hc hb) fun D σ H q => ?_
  obtain ⟨s, f, h1, h2, h3⟩ := q
  unfold mWhile at h3
  split at h3
  · rename_i hx
    refine ⟨fun m σc Hc => ∃ s fs, SLR X.K Hc s σc fs ∧ (∀ b, fs b ≤ 1) ∧ OP X W pn D Hc fs σc (whileL mc b m s), ⟨_, s, f, h1, h2, h3⟩, fun m σc Hc hW => ?_⟩
    obtain ⟨s, fs, a1, a2, a3⟩ := hW
    cases m with
    | zero => exact a3.elim
    | succ m =>
      refine rdS.bind (X := X) (W := W) (pn := pn) (D := D) (ρ := BRep) (k := fun d s1 => if d then (match b s1 with
      | .nx s2 => whileL mc b m s2
      | .ct s2 => whileL mc b m s2
      | .bk s2 => .nx s2
      | .rt y s2 => .rt y s2
      | .exc y s2 => .exc y s2
      | .bad => .bad) else .nx s1) ⟨s, fs, a1, a2, a3⟩ fun F d s1 cb H1 g f1 h0 k1 k2 k3 k4 k5 => ?_
      obtain ⟨rfl, z⟩ := k1
      cases d with
      | false =>
        rw [if_neg Bool.false_ne_true] at k5 ⊢
        exact k5 σc H1 f1 (PinE.refl _ _) k2 (fun b => by have := k3 b; omega) ⟨k4.keep, fun b o e z => by have : g b + f1 b = 0 := k4.own b o e z; omega⟩
      | true =>
        rw [if_pos rfl] at k5 ⊢
        have k6 : OP X W pn D H1 f1 σc (match b s1 with
          | .nx s2 => whileL mc b m s2
          | .ct s2 => whileL mc b m s2
          | .bk s2 => .nx s2
          | .rt y s2 => .rt y s2
          | .exc y s2 => .exc y s2
          | .bad => .bad) := OP.step k5 (PinE.refl _ _) k4 (fun b z => by omega)
        refine ⟨fun σn Hn => ∃ s fs, SLR X.K Hn s σn fs ∧ (∀ b, fs b ≤ 1) ∧ OP X W pn D Hn fs σn (whileL mc b m s), fun σn Hn hn => ⟨m, by omega, hn⟩, s1, f1, k2, fun b => by have := k3 b; omega, ?_⟩
        cases eb : b s1 with
        | nx s2 => rw [eb] at k6; exact fun σ' H' f' p1 p2 p3 p4 => ⟨s2, f', p2, p3, OP.step k6 p1 p4 (fun b z => z)⟩
        | ct s2 => rw [eb] at k6; exact fun σ' H' f' p1 p2 p3 p4 => ⟨s2, f', p2, p3, OP.step k6 p1 p4 (fun b z => z)⟩
        | bk s2 => rw [eb] at k6; exact k6
        | rt y s2 => rw [eb] at k6; exact k6
        | exc y s2 => rw [eb] at k6; exact k6
        | bad => rw [eb] at k6; exact k6
  · exact h3.elim
end
end Bv

set_option maxHeartbeats 400000
namespace Bv
open PySem PySem.Spec PyProof.Rows L2

/-! ### a def -/
def backP (pn : List Nat) : Nat → List PV → Sl → Option (List PV)
  | _, [], _ => some []
  | i, x :: r, o :: t => match (if x.own then (if pn.contains i then o else none) else some x), backP pn (i + 1) r t with
    | some y, some ys => some (y :: ys)
    | _, _ => none
  | _, _ :: _, [] => none
def endB (pn : List Nat) (xs : List PV) : Out → CR
  | .nx s => match backP pn 0 xs s with | some ys => .ok .non ys | none => .bad
  | .rt x s => match backP pn 0 xs s with | some ys => .ok x ys | none => .bad
  | .exc x s => match backP pn 0 xs s with | some ys => .exc x ys | none => .bad
  | _ => .bad
/-- what a call is worth: n names, np parameters, pn those that are never stored to -/
def runB (n np : Nat) (pn : List Nat) (m : MS) (xs : List PV) : CR := if xs.length = np then endB pn xs (m (xs.map some ++ List.replicate (n - np) none)) else .bad
section
variable {K : PySem.W.Frag} {H H' : Hp}
theorem slr_start : ∀ {xs : List PV} {vs : List V} {f : Fp} (k : Nat), Reps K H xs vs f → SLR K H (xs.map some ++ List.replicate k none) (vs.map some ++ List.replicate k none) f
  | [], vs, f, k, h => by
    obtain ⟨rfl, z⟩ := h
    induction k with
    | zero => exact ⟨rfl, z⟩
    | succ k ih => exact ⟨none, _, rfl, ih⟩
  | x :: xs, vs, f, k, h => by
    obtain ⟨v, ws, g, l, rfl, r, rs, hg⟩ := h
    exact ⟨v, _, g, l, rfl, r, slr_start k rs, hg⟩
theorem back_ok {pn : List Nat} {F : Fp} (kp : Kept H H' F) (mu : ∀ b, F b ≠ 0 → MutA H b) : ∀ {xs : List PV} {vs : List V} {f g : Fp} {s : Sl} {τ : L2.St} {ys : List PV} (i : Nat), Reps K H xs vs f → SLR K H' s τ g → (∀ j, (i + j) ∈ pn → j < vs.length → τ[j]? = (vs[j]?).map some) → backP pn i xs s = some ys →
    ∃ fy, Reps K H' ys vs fy ∧ ∀ b, fy b ≤ g b
  | [], vs, f, g, s, τ, ys, i, h, hs, p, e => by
    simp only [backP, Option.some.injEq] at e
    subst e
    exact ⟨Z0, ⟨h.1, fun _ => rfl⟩, fun _ => Nat.zero_le _⟩
  | x :: xs, vs, f, g, [], τ, ys, i, h, hs, p, e => by simp [backP] at e
  | x :: xs, vs, f, g, o :: t, τ, ys, i, h, hs, p, e => by
    obtain ⟨v, ws, g1, g2, rfl, r, rs, hg⟩ := h
    have tail : ∃ τ' gt, SLR K H' t τ' gt ∧ (∀ b, gt b ≤ g b) ∧ (∃ o', τ = o' :: τ') := by
      cases o with
      | none =>
        obtain ⟨o', t', e1, q⟩ := hs
        exact ⟨t', g, q, fun _ => Nat.le_refl _, o', e1⟩
      | some y =>
        obtain ⟨w, t', a1, a2, e1, q1, q2, hq⟩ := hs
        exact ⟨t', a2, q2, fun b => by have := hq b; omega, some w, e1⟩
    have ho : (if x.own then (if pn.contains i then o else none) else some x) = none ∨ ∃ y, (if x.own then (if pn.contains i then o else none) else some x) = some y := by
      cases (if x.own then (if pn.contains i then o else none) else some x) with
      | none => exact .inl rfl
      | some y => exact .inr ⟨y, rfl⟩
    unfold backP at e
    rcases ho with ho | ⟨y, ho⟩
    · rw [ho] at e; cases e
    · rw [ho] at e
      cases eb : backP pn (i + 1) xs t with
      | none => rw [eb] at e; cases e
      | some zs =>
        rw [eb] at e
        cases e
        by_cases hx : x.own = true
        · rw [if_pos hx] at ho
          by_cases hp : pn.contains i = true
          · rw [if_pos hp] at ho
            subst ho
            obtain ⟨w, t', a1, a2, e1, q1, q2, hq⟩ := hs
            subst e1
            have hv : w = v := by
              have := p 0 (by simpa using hp) (by simp)
              simpa using this
            subst hv
            obtain ⟨fy, h1, h2⟩ := back_ok kp mu (i + 1) rs q2 (fun j hj hl => by
              have := p (j + 1) (by rw [Nat.add_comm j 1, ← Nat.add_assoc]; exact hj) (by simp; omega)
              simpa using this) eb
            exact ⟨fun b => a1 b + fy b, ⟨w, ws, a1, fy, rfl, q1, h1, fun _ => rfl⟩, fun b => by have := h2 b; have := hq b; show a1 b + fy b ≤ g b; omega⟩
          · rw [if_neg hp] at ho; cases ho
        · rw [if_neg hx] at ho
          cases ho
          obtain ⟨τ', gt, q2, le, o', e1⟩ := tail
          subst e1
          obtain ⟨fy, h1, h2⟩ := back_ok kp mu (i + 1) rs q2 (fun j hj hl => by
              have := p (j + 1) (by rw [Nat.add_comm j 1, ← Nat.add_assoc]; exact hj) (by simp; omega)
              simpa using this) eb
          have rz := r.zero (by simpa using hx)
          exact ⟨fy, ⟨v, ws, Z0, fy, rfl, rz.kept kp mu (fun b n => absurd rfl n), h1, fun b => by simp⟩, fun b => Nat.le_trans (h2 b) (le b)⟩
end
section
variable {P : Program} {w : World} {K : PySem.W.Frag} {mg : Str → Option Value} {base : Heap}
/-- the context of a def's body -/
abbrev BX (P : Program) (w : World) (K : PySem.W.Frag) (mg : Str → Option Value) (base : Heap) (N : List Str) (x : Str) (st : Stmt) (f : Addr) (cdv : Value) (A : Around) (outer : List Env) (s : Shared) (H : Hp) (E : XK) : Cx := cxOf (L2.CX P w) P w K mg base N x (defScope st) f cdv A outer s H E
abbrev WB (E : XK) : WX := fun cls d _ H => E cls d H
theorem bx_tk {N : List Str} {x : Str} {st : Stmt} {f : Addr} {cdv : Value} {A : Around} {outer : List Env} {s : Shared} {H : Hp} {E : XK} : Takes (BX P w K mg base N x st f cdv A outer s H E) (WB E) := takes_of rfl rfl rfl rfl
theorem bx_po {N : List Str} {x : Str} {st : Stmt} {f : Addr} {cdv : Value} {A : Around} {outer : List Env} {s : Shared} {H : Hp} {E : XK} : PassesOwn (model (BX P w K mg base N x st f cdv A outer s H E).prog (BX P w K mg base N x st f cdv A outer s H E).w) (BX P w K mg base N x st f cdv A outer s H E).A (BX P w K mg base N x st f cdv A outer s H E).env (BX P w K mg base N x st f cdv A outer s H E).xe := PassesOwn.leaving
/-- THE RULE: a def as it stands is worth what its body is worth -/
theorem fk_of {x : Str} {st : Stmt} {f : Addr} {fd : FuncData} {N ps : List Str} {pn : List Nat} {m : MS} {k : Nat} (F : Fun K x x st f fd) (S : FnScope N ps (defScope st))
    (hb : ∀ (cdv : Value) (A : Around) (outer : List Env) (s : Shared) (H : Hp) (E : XK), Room k (A.deeper (envOfC x (defScope st) s.heap.objs.size f cdv)) → SSs (BX P w K mg base N x st f cdv A outer s H E) (WB E) pn (defBody st) m) :
    FnOk P w K mg base (L2.CX P w) (k + 1) f fd ps (spB K mg ps.length (runB N.length ps.length pn m)) := by
  refine F.okX S (fun vs H Q E h => ?_) (fun cdv A outer s H vs Q E hr h => ?_)
  · obtain ⟨xs, g, hl, r, _⟩ := h
    rw [r.length, hl]
  · obtain ⟨xs, g, hl, r, le, c⟩ := h
    refine ⟨_, hb cdv A outer s H E hr, ?_⟩
    unfold runB at c
    rw [if_pos hl] at c
    have hst : L2.start N vs = vs.map some ++ List.replicate (N.length - ps.length) none := by unfold L2.start; rw [r.length, hl]
    refine ⟨_, g, by rw [hst]; exact slr_start (N.length - ps.length) r, le, ?_⟩
    have pins : ∀ {σ' : L2.St} {s' : Sl} {H' : Hp} {f' g' : Fp} {ys : List PV}, PinE pn (L2.start N vs) σ' → SLR K H' s' σ' f' → Frm H H' g g' → backP pn 0 xs s' = some ys → ∃ fy, Reps K H' ys vs fy ∧ ∀ b, fy b ≤ f' b := fun {σ' s' H' f' g' ys} pe sl fr e =>
      back_ok fr.kept (fun b n => r.mut n) 0 r sl (fun j hj hlt => by
        rw [Nat.zero_add] at hj
        rw [pe.2 j hj, hst, List.getElem?_append_left (by simpa using hlt), List.getElem?_map]) e
    cases eo : m (xs.map some ++ List.replicate (N.length - ps.length) none) with
    | bad => rw [eo] at c; exact c.elim
    | bk s' => rw [eo] at c; exact c.elim
    | ct s' => rw [eo] at c; exact c.elim
    | nx s' =>
      rw [eo] at c
      intro σ' H' f' p1 p2 p3 p4
      simp only [endB] at c
      cases eb : backP pn 0 xs s' with
      | none => rw [eb] at c; exact c.elim
      | some ys =>
        rw [eb] at c
        obtain ⟨fy, y1, y2⟩ := pins p1 p2 p4 eb
        exact c .non H' Z0 fy rep_non y1 (fun b => by have := y2 b; have := p3 b; show 0 + fy b ≤ 1; omega) ⟨p4.keep, fun b o e z => by have := p4.own b o e z; have := y2 b; show 0 + fy b = 0; omega⟩
    | rt y s' =>
      rw [eo] at c
      intro v σ' H' gv f' p1 p0 p2 p3 p4
      simp only [endB] at c
      cases eb : backP pn 0 xs s' with
      | none => rw [eb] at c; exact c.elim
      | some ys =>
        rw [eb] at c
        obtain ⟨fy, y1, y2⟩ := pins p1 p2 p4 eb
        exact c v H' gv fy p0 y1 (fun b => by have := y2 b; have := p3 b; omega) ⟨p4.keep, fun b o e z => by have : gv b + f' b = 0 := p4.own b o e z; have := y2 b; show gv b + fy b = 0; omega⟩
    | exc y s' =>
      rw [eo] at c
      intro cls d σ' H' f' p1 p0 p2 p3 p4
      simp only [endB] at c
      cases eb : backP pn 0 xs s' with
      | none => rw [eb] at c; exact c.elim
      | some ys =>
        rw [eb] at c
        obtain ⟨fy, y1, y2⟩ := pins p1 p2 p4 eb
        exact c cls d H' fy p0 y1 (fun b => by have := y2 b; have := p3 b; omega) ⟨p4.keep, fun b o e z => by have := p4.own b o e z; have := y2 b; omega⟩
theorem fb_of {x : Str} {st : Stmt} {f : Addr} {fd : FuncData} {N ps : List Str} {pn : List Nat} {m : MS} {k : Nat} (F : Fun K x x st f fd) (S : FnScope N ps (defScope st)) (gx : mg x = some (.ref f)) (bd : Binds K fd ps [])
    (hb : ∀ (cdv : Value) (A : Around) (outer : List Env) (s : Shared) (H : Hp) (E : XK), Room k (A.deeper (envOfC x (defScope st) s.heap.objs.size f cdv)) → SSs (BX P w K mg base N x st f cdv A outer s H E) (WB E) pn (defBody st) m) :
    FB P w K mg base (k + 1) x ps.length (runB N.length ps.length pn m) := ⟨f, fd, ps, rfl, gx, F.kp, bd, fk_of F S hb⟩
theorem FB.mono {j k : Nat} {x : Str} {np : Nat} {C : List PV → CR} (F : FB P w K mg base j x np C) (h : j ≤ k) : FB P w K mg base k x np C := by
  obtain ⟨f, fd, ps, h1, h2, h3, h4, h5⟩ := F.ex
  exact ⟨f, fd, ps, h1, h2, h3, h4, h5.mono h⟩
end
section
variable {X : Cx} {W : WX} {pos p : Pos} {x : Str}
theorem pe_call0S {CX : CXT} {k : Nat} {f : Addr} {fd : FuncData} {ps : List Str} {sp : Sp} {E : L2.St → XK} (F : FnOk X.prog X.w X.K X.mg X.base CX k f fd ps sp) (hr : Room k X.A) (hg : Gl X x) (hm : X.mg x = some (.ref f)) (hk : PySem.W.keepIn X.K (.ref f) = true) (hb : Binds X.K fd ps []) (hx : ∀ σ, PassesAt CX X σ (E σ))
    (hdb : (x == ("__debug__" : Str)) = false := by decide) : PE X (.Call (.Name x p) [] [] pos) (tCallS sp E tNil) := by
  refine ⟨fun pins s σ H Q I h => ?_⟩
  refine wpAny_Call_Name_kw (ld_glob I hg hm ?_ hdb)
  exact PySem.W.callWith_K0 I.kIn hk (run_fnS (us := []) F hr hb (hx σ) I .nil h)
theorem se_call0 {k : Nat} {C : List PV → CR} (tk : Takes X W) (F : FB X.prog X.w X.K X.mg X.base k x 0 C) (hr : Room k X.A) (hg : Gl X x) (hdb : (x == ("__debug__" : Str)) = false := by decide) :
    SE X W (.Call (.Name x p) [] [] pos) (mCallN 0 C oNil) := by
  obtain ⟨f, fd, ps, h1, h2, h3, h4, h5⟩ := F.ex
  refine PE.weaken (pe_call0S h5 hr hg h2 h3 h4 (fun σ => passAt tk σ) hdb) fun σ H Q q => ?_
  obtain ⟨s, f, q1, q2, q3⟩ := q
  have q3 : GP (Rep X.K) X W H f σ Q (match takeP [] s with
      | some (xs, s2) => match C xs with
        | .ok x ys => .ok x (putP [] ys s2)
        | .exc e ys => .exc e (putP [] ys s2)
        | .bad => .bad
      | none => .bad) := q3
  exact call_end (g := Z0) (ps := []) rfl q2 ⟨rfl, fun _ => rfl⟩ q1 (fun b => by have := q2 b; show 0 + f b ≤ 1; omega) (Frm.refl fun b z => by show 0 + f b = 0; omega) q3
end
end Bv

set_option maxHeartbeats 400000
namespace Bv
open PySem PySem.Spec PyProof.Rows L2

/-! ### names -/
/-- a name looked at when the operation is done -/
def oN (i : Nat) : M Pnd := fun s => match s[i]? with | some (some _) => .ok (.loc i) s | _ => .bad
/-- a name as a value: what it owns goes along -/
def mN (i : Nat) : M PV := fun s => match s[i]? with
  | some (some x) => .ok x (if x.own then s.set i none else s)
  | _ => .bad
section
variable {X : Cx} {W : WX} {e : Expr} {x : Str} {pos : Pos}
theorem so_N (i : Nat) (h : PE X (.Name x pos) (tVar i)) : SO X W (.Name x pos) (oN i) := so_B i h
theorem se_N (i : Nat) (h : PE X (.Name x pos) (tVar i)) : SE X W (.Name x pos) (mN i) := PE.weaken h fun σ H Q q => by
  obtain ⟨s, f, h1, h2, h3⟩ := q
  unfold mN at h3
  split at h3
  · rename_i y e1
    obtain ⟨v, g, l, k1, k2, k3, k4⟩ := h1.take e1
    by_cases ho : y.own = true
    · rw [if_pos ho] at h3
      exact ⟨v, k1, h3 v H g l k2 k3 (fun b => by have := h2 b; have := k4 b; omega) (Frm.refl fun b z => by have := k4 b; omega)⟩
    · rw [if_neg ho] at h3
      exact ⟨v, k1, h3 v H Z0 f (k2.zero (by simpa using ho)) h1 (fun b => by have := h2 b; simpa using this) (Frm.refl fun b z => by simpa using z)⟩
  · exact h3.elim
theorem se_G {x' : PV} {v : V} {u : Value} (hg : Gl X x) (hm : X.mg x = some u) (r : RelV v u) (hr : ∀ H, Rep X.K H x' v Z0) (hd : (x == ("__debug__" : Str)) = false := by decide) : SE X W (.Name x pos) (mC x') := se_C (pe_glob hg hm r hd) hr
theorem se_Gint {i : Int} (hg : Gl X x) (hm : ∃ t, X.mg x = some (.int i t)) (hd : (x == ("__debug__" : Str)) = false := by decide) : SE X W (.Name x pos) (mC (.int i)) := by
  obtain ⟨t, ht⟩ := hm
  exact se_C (pe_glob hg ht (v := .int i) ⟨t, rfl⟩ hd) fun _ => rep_int
theorem se_Gstr {i : Str} (hg : Gl X x) (hm : ∃ t, X.mg x = some (.str i t)) (hd : (x == ("__debug__" : Str)) = false := by decide) : SE X W (.Name x pos) (mC (.str i)) := by
  obtain ⟨t, ht⟩ := hm
  exact se_C (pe_glob hg ht (v := .str i) ⟨t, rfl⟩ hd) fun _ => rep_str
end

/-! ### a list that is shared from now on: no one changes it -/
def frzP : PV → Option PV
  | .lst true xs => if PV.owns xs = false then some (.lst false xs) else none
  | x => if x.own = false then some x else none
def mFz (m : M PV) : M PV := fun s => (m s).bind fun x s' => match frzP x with | some y => .ok y s' | none => .bad
def mFzN (i : Nat) : M PV := fun s => match s[i]? with
  | some (some x) => match frzP x with | some y => .ok y (s.set i (some y)) | none => .bad
  | _ => .bad
section
variable {X : Cx} {W : WX} {e : Expr} {x : Str} {pos : Pos}
/-- behind the value: perhaps a list is locked for good -/
theorem pe_frz {t : TE} (h : PE X e t) : PE X e (fun σ H Q => t σ H fun v H1 => Q v H1 ∨ ∃ d xs, H1 d = some (.lst xs) ∧ ∀ od, Q v (upd H1 d (.frz od (.lst xs)))) := by
  refine ⟨fun pins s σ H Q I hw => thn (h.run pins s σ H _ I hw) fun u s1 hq => ?_⟩
  obtain ⟨v, H1, I1, r1, q⟩ := hq
  rcases q with q | ⟨d, xs, hd, q⟩
  · exact ⟨v, H1, I1, r1, q⟩
  · obtain ⟨od, I2⟩ := I1.lock hd trivial
    exact ⟨v, _, I2, r1, q od⟩
theorem frz_d {K : PySem.W.Frag} {H : Hp} {x y : PV} {v : V} {g : Fp} (r : Rep K H x v g) (e : (if x.own = false then some x else none) = some y) : y = x ∧ ∀ b, g b = 0 := by
  split at e
  · rename_i n
    cases e
    exact ⟨rfl, r.free n⟩
  · cases e
theorem frz_ok {K : PySem.W.Frag} {H : Hp} {x y : PV} {v : V} {g : Fp} (r : Rep K H x v g) (e : frzP x = some y) :
    (y = x ∧ ∀ b, g b = 0) ∨ ∃ d xs, v = .ref d ∧ H d = some (.lst xs) ∧ (∀ b, g b = one d b) ∧ ∀ od, Rep K (upd H d (.frz od (.lst xs))) y v Z0 := by
  cases x with
  | lst o xs =>
    cases o with
    | true =>
      simp only [frzP] at e
      split at e
      · rename_i n
        cases e
        obtain ⟨a, va, ga, rfl, ha, hz, ra, hg⟩ := r
        have z := ra.free n
        refine .inr ⟨a, va, rfl, ha, fun b => by rw [hg b, z b]; omega, fun od => ⟨a, va, rfl, .inl ⟨od, upd_same⟩, hz, ?_, fun _ => rfl⟩⟩
        have ra0 : Reps K H xs va Z0 := ra.congr fun b => by rw [z b]
        exact ra0.kept (F := one a) kept_upd (mut_one ha) (fun b n => absurd rfl n)
      · cases e
    | false => exact .inl (frz_d r e)
  | non => exact .inl (frz_d r e)
  | bl b => exact .inl (frz_d r e)
  | int i => exact .inl (frz_d r e)
  | str i => exact .inl (frz_d r e)
  | tup i => exact .inl (frz_d r e)
  | dK i => exact .inl (frz_d r e)
  | dT i => exact .inl (frz_d r e)
  | sK i => exact .inl (frz_d r e)
theorem se_fz {m : M PV} (h : SE X W e m) : SE X W e (mFz m) := PE.weaken (pe_frz h) fun σ H Q q => by
  refine rdG.bind (ρ := Rep X.K) q fun f x s1 v H1 g f1 h0 h1 h2 h3 h4 h5 => ?_
  cases ef : frzP x with
  | none => rw [ef] at h5; exact h5.elim
  | some y =>
    rw [ef] at h5
    rcases frz_ok h1 ef with ⟨rfl, z⟩ | ⟨d, xs, rfl, hd, hg, ry⟩
    · exact .inl (h5 v H1 g f1 h1 h2 h3 h4)
    · refine .inr ⟨d, xs, hd, fun od => ?_⟩
      have fd : f1 d = 0 := by have := h3 d; have := hg d; rw [one_self] at this; omega
      have dj : ∀ b, f1 b ≠ 0 → one d b = 0 := fun b n => one_ne fun z => n (by rw [z]; exact fd)
      refine h5 (.ref d) _ Z0 f1 (ry od) (h2.kept kept_upd (mut_one hd) dj) (fun b => by have := h3 b; show 0 + f1 b ≤ 1; omega) ⟨fun b o e z => ?_, fun b o e z => ?_⟩
      · have y1 : g b + f1 b = 0 := h4.own b o e z
        have : b ≠ d := fun z' => by have := hg b; rw [z', one_self] at this; rw [z'] at y1; omega
        rw [upd_ne this]; exact h4.keep b o e z
      · have y1 : g b + f1 b = 0 := h4.own b o e z
        show 0 + f1 b = 0
        omega
theorem se_FzN (i : Nat) (h : PE X (.Name x pos) (tVar i)) : SE X W (.Name x pos) (mFzN i) := PE.weaken (pe_frz h) fun σ H Q q => by
  obtain ⟨s, f, h1, h2, h3⟩ := q
  unfold mFzN at h3
  split at h3
  · rename_i y e1
    cases ef : frzP y with
    | none => rw [ef] at h3; exact h3.elim
    | some z =>
      rw [ef] at h3
      obtain ⟨v, g, l, k1, k2, k3, k4⟩ := h1.take e1
      have hi : i < s.length := (List.getElem?_eq_some_iff.mp e1).1
      refine ⟨v, k1, ?_⟩
      rcases frz_ok k2 ef with ⟨rfl, zz⟩ | ⟨d, xs, rfl, hd, hg, ry⟩
      · left
        have : s.set i (some z) = s := set_same e1
        dsimp only at h3
        rw [this] at h3
        exact h3 v H g f k2 h1 (fun b => by have := h2 b; have := zz b; omega) (Frm.refl fun b z => by have := zz b; omega)
      · refine .inr ⟨d, xs, hd, fun od => ?_⟩
        have ld : l d = 0 := by have := h2 d; have := k4 d; have := hg d; rw [one_self] at this; omega
        have dj : ∀ b, l b ≠ 0 → one d b = 0 := fun b n => one_ne fun z => n (by rw [z]; exact ld)
        have hs2 := SLR.put (k3.kept kept_upd (mut_one hd) dj) (getElem?_set_none hi) (ry od)
        rw [List.set_set, set_same k1] at hs2
        refine h3 (.ref d) _ Z0 _ (ry od) hs2 (fun b => by have := h2 b; have := k4 b; show 0 + (0 + l b) ≤ 1; omega) ⟨fun b o e z => ?_, fun b o e z => ?_⟩
        · have : b ≠ d := fun z' => by have y1 := hg b; have y2 := k4 b; rw [z', one_self] at y1; rw [z'] at y2 z; omega
          rw [upd_ne this]; exact e
        · have := k4 b; show 0 + (0 + l b) = 0; omega
  · exact h3.elim
end

/-! ### x[i] = e, x[i] += e -/
def mSetI (i : Nat) (ie m : M PV) : MS := fun s => (m s).out fun z s1 => match s1[i]? with
  | some (some _) => (ie s1).out fun k s2 => match k with
    | .int j => match s2[i]? with
      | some (some (.lst true xs)) => match ixN xs.length j with
        | some n => .nx (s2.set i (some (.lst true (xs.set n z))))
        | none => .bad
      | _ => .bad
    | _ => .bad
  | _ => .bad
def mAugI (i k : Nat) (f : Int → Int → Int) (m : M PV) : MS := fun s => match s[i]? with
  | some (some (.lst true xs)) => match xs[k]? with
    | some (.int a) => (m s).out fun y s1 => match y with
      | .int b => match s1[i]? with
        | some (some (.lst true ys)) => if k < ys.length then .nx (s1.set i (some (.lst true (ys.set k (.int (f a b)))))) else .bad
        | _ => .bad
      | _ => .bad
    | _ => .bad
  | _ => .bad
section
variable {K : PySem.W.Frag} {H : Hp}
/-- one place of a row is stored anew: what stood there goes -/
theorem Reps.setAt : ∀ {xs : List PV} {vs : List V} {f g : Fp} {n : Nat} {z : PV} {v : V}, Reps K H xs vs f → n < xs.length → Rep K H z v g → ∃ f', Reps K H (xs.set n z) (vs.set n v) f' ∧ ∀ b, f' b ≤ f b + g b
  | [], vs, f, g, n, z, v, h, hl, r => by simp at hl
  | x :: xs, vs, f, g, 0, z, v, h, hl, r => by
    obtain ⟨w, ws, g1, g2, rfl, r1, r2, hg⟩ := h
    exact ⟨fun b => g b + g2 b, ⟨v, ws, g, g2, rfl, r, r2, fun _ => rfl⟩, fun b => by have := hg b; show g b + g2 b ≤ _; omega⟩
  | x :: xs, vs, f, g, n + 1, z, v, h, hl, r => by
    obtain ⟨w, ws, g1, g2, rfl, r1, r2, hg⟩ := h
    obtain ⟨f', h1, h2⟩ := Reps.setAt (n := n) r2 (by simpa using hl) r
    exact ⟨fun b => g1 b + f' b, ⟨w, ws.set n v, g1, f', rfl, r1, h1, fun _ => rfl⟩, fun b => by have := hg b; have := h2 b; show g1 b + f' b ≤ _; omega⟩
end
section
variable {X : Cx} {W : WX} {pn : List Nat} {e ie : Expr} {x : Str} {p tpos pos : Pos}
/-- the store itself -/
theorem set_end {i n : Nat} {xs : List PV} {z : PV} {v : V} {σ : L2.St} {H : Hp} {s : Sl} {f g : Fp} {a : V} {Q : Hp → Prop} {j : Int}
    (ha : σ[i]? = some (some a)) (hs : SLR X.K H s σ f) (e1 : s[i]? = some (some (.lst true xs))) (hj : ixN xs.length j = some n) (rz : Rep X.K H z v g) (le : ∀ b, g b + f b ≤ 1)
    (q : ∀ H' f', SLR X.K H' (s.set i (some (.lst true (xs.set n z)))) σ f' → (∀ b, f' b ≤ g b + f b) → Kept H H' f → Q H') : rSetL a (.int j) v H Q := by
  obtain ⟨v', gx, hx, m1, m2, m3, m4⟩ := hs.take e1
  have ev : v' = a := by have := m1.symm.trans ha; simpa using this
  subst ev
  obtain ⟨d, va, ga, rfl, hd, hz, ra, hga⟩ := m2
  obtain ⟨_, hn, _, _⟩ := ixN_seq hj
  obtain ⟨f2, k1, k2⟩ := ra.setAt hn rz
  refine ⟨d, va, j, n, rfl, rfl, hd, by rw [ra.length]; exact hj, ?_⟩
  have one1 : ∀ b, f2 b ≠ 0 → one d b = 0 := fun b c => by have := le b; have := m4 b; have := hga b; have := k2 b; omega
  have dj : ∀ b, hx b ≠ 0 → one d b = 0 := fun b c => by have := le b; have := m4 b; have := hga b; omega
  have rep' : Rep X.K (upd H d (.lst (va.set n v))) (.lst true (xs.set n z)) (.ref d) (fun b => f2 b + one d b) :=
    ⟨d, _, f2, rfl, upd_same, by rw [List.length_set]; exact hz, k1.kept kept_upd (mut_one hd) one1, fun _ => rfl⟩
  have hi : i < s.length := (List.getElem?_eq_some_iff.mp e1).1
  have hs2 := SLR.put (m3.kept kept_upd (mut_one hd) dj) (getElem?_set_none hi) rep'
  rw [List.set_set, set_same ha] at hs2
  exact q _ _ hs2 (fun b => by have := k2 b; have := m4 b; have := hga b; show f2 b + one d b + hx b ≤ _; omega) fun b o e z => kept_upd b o e (by have := m4 b; have := hga b; omega)
theorem ss_setI (i : Nat) {mi m : M PV} (he : SE X W e m) (ho : PE X (.Name x p) (tVar i)) (hi : SE X W ie mi) (hs : swapsWithSole [.Subscript (.Name x p) ie tpos] e pos.line X.env = pure false := by rfl) (hw : swappedStores [.Subscript (.Name x p) ie tpos] e X.env = pure none := by rfl)
    (h1 : (assignEach [.Subscript (.Name x p) ie tpos] X.env).map (·.2) = [assign (.Subscript (.Name x p) ie tpos) X.env] := by rfl)
    (ha : ∀ v, assign (.Subscript (.Name x p) ie tpos) X.env v = (do
      let ov ← holding [v] (eval (.Name x p) X.env)
      let iv ← holding [v, ov] (eval ie X.env)
      standAt tpos
      holding [v, ov, iv] (setItem ov iv v)
      release [v, ov, iv] []) := by intro _; rfl) : SS X W pn (.Assign [.Subscript (.Name x p) ie tpos] e pos) (mSetI i mi m) :=
  PS.weaken' (ps_asg he (pg_sub ho hi set_list ha) hs hw h1) fun D σ H q => by
    refine rdS.bind (ρ := Rep X.K) q fun f z s1 v H1 g f1 h0 h1 h2 h3 h4 h5 => ?_
    split at h5
    · rename_i y0 e0
      obtain ⟨a, _, _, ka, _, _, _⟩ := h2.take e0
      refine ⟨a, ka, s1, f1, h2, fun b => by have := h3 b; omega, ?_⟩
      cases ek : mi s1 with
      | bad => rw [ek] at h5; exact h5
      | exc y s2 =>
        rw [ek] at h5
        exact fun cls d H' f' a b c e => h5 cls d σ H' f' (PinE.refl _ _) a b c ⟨fun b o z1 z2 => e.keep b o (h4.keep b o z1 z2) (by have : g b + f1 b = 0 := h4.own b o z1 z2; omega), fun b o z1 z2 => e.own b o (h4.keep b o z1 z2) (by have : g b + f1 b = 0 := h4.own b o z1 z2; omega)⟩
      | ok k s2 =>
        rw [ek] at h5
        simp only [R.out_ok] at h5
        intro vk H2 gk f2 l1 l2 l3 l4
        split at h5
        · rename_i j
          obtain ⟨rfl, zk⟩ := l1
          split at h5
          · rename_i xs e2
            split at h5
            · rename_i n hn
              have dz : ∀ b, g b ≠ 0 → f1 b = 0 := fun b c => by have := h3 b; omega
              have rz : Rep X.K H2 z v g := h1.kept l4.kept (fun b c => h2.mut c) dz
              have le2 : ∀ b, g b + f2 b ≤ 1 := fun b => by
                by_cases hb : g b = 0
                · have := l3 b; omega
                · obtain ⟨o, ho, _⟩ := h1.mut hb
                  have : gk b + f2 b = 0 := l4.own b o ho (dz b hb)
                  have := h3 b
                  omega
              refine set_end ka l2 e2 hn rz le2 fun H3 f3 n1 n2 n3 => ?_
              refine h5 σ H3 f3 (PinE.refl _ _) n1 (fun b => by have := n2 b; have := le2 b; omega) ⟨fun b o z1 z2 => ?_, fun b o z1 z2 => ?_⟩
              · have y1 : g b + f1 b = 0 := h4.own b o z1 z2
                have y2 : gk b + f2 b = 0 := l4.own b o (h4.keep b o z1 z2) (by omega)
                exact n3 b o (l4.keep b o (h4.keep b o z1 z2) (by omega)) (by omega)
              · have y1 : g b + f1 b = 0 := h4.own b o z1 z2
                have y2 : gk b + f2 b = 0 := l4.own b o (h4.keep b o z1 z2) (by omega)
                have := n2 b
                omega
            · exact h5.elim
          · exact h5.elim
        · exact h5.elim
    · exact h5.elim
/-- a list's place read, by values -/
theorem get_list : PGet X (fun o i H Q => ∃ p xs k z, o = .ref p ∧ i = .int ((k : Nat) : Int) ∧ H p = some (.lst xs) ∧ xs[k]? = some z ∧ Q z H) := by
  intro pins s σ H o i ov iv Q I ro ri h
  obtain ⟨p, xs, k, z, rfl, rfl, hp, hz, q⟩ := h
  cases ro
  obtain ⟨t, rfl⟩ := ri
  obtain ⟨its, r, pl, hsz⟩ := I.list (.inl (.inl hp))
  obtain ⟨w, ew, rw'⟩ := r.get hz
  have hn := line63
  have hk : k < xs.length := (List.getElem?_eq_some_iff.mp hz).1
  exact wpAny_getItem_list pl.isList (Int.natCast_nonneg k) (by omega) (by simpa using ew) ⟨z, H, I, rw', q⟩
theorem ss_augI (i k : Nat) {op : Operator} {f : Int → Int → Int} {m : M PV} {j : Nat} {p2 : Pos} (ho : PE X (.Name x p) (tVar i)) (hop : PIp X op (ipI f)) (he : SE X W e m)
    (ha : ∀ ov iv new, augStore (.Constant (.int ((k : Nat) : Int)) j p2) ov iv new = (do holding [new, ov, iv] (setItem ov iv new); release [new, ov, iv] []; pure .next) := by intros; rfl) :
    SS X W pn (.AugAssign (.Subscript (.Name x p) (.Constant (.int ((k : Nat) : Int)) j p2) tpos) op e pos) (mAugI i k f m) :=
  PS.weaken' (ps_augS ho pe_int get_list he hop set_list ha) fun D σ H q => by
    obtain ⟨s, F, h1, h2, h3⟩ := q
    unfold mAugI at h3
    split at h3
    · rename_i xs e0
      split at h3
      · rename_i a e1
        obtain ⟨v0, g0, l0, k1, k2, k3, k4⟩ := h1.take e0
        obtain ⟨d, va, ga, rfl, hd, hz, ra, hga⟩ := k2
        have hk : k < va.length := by rw [ra.length]; exact (List.getElem?_eq_some_iff.mp e1).1
        obtain ⟨ge, re, _⟩ := ra.get k _ _ e1 (List.getElem?_eq_getElem hk)
        refine ⟨.ref d, k1, d, va, k, va[k], rfl, rfl, hd, List.getElem?_eq_getElem hk, ?_⟩
        rw [re.1]
        refine rdS.bind (X := X) (W := W) (pn := pn) (D := D) (ρ := Rep X.K) ⟨s, F, h1, h2, h3⟩ fun F' y s1 vy H1 g f1 h0 l1 l2 l3 l4 l5 => ?_
        split at l5
        · rename_i b
          obtain ⟨rfl, zy⟩ := l1
          split at l5
          · rename_i ys e2
            split at l5
            · rename_i hlt
              refine ⟨a, b, rfl, rfl, ?_⟩
              have hn : ixN ys.length ((k : Nat) : Int) = some k := by
                unfold ixN
                rw [if_pos (Int.natCast_nonneg k), if_pos (by omega)]
                simp
              refine set_end (g := Z0) k1 l2 e2 hn rep_int (fun b => by have := l3 b; show 0 + f1 b ≤ 1; omega) fun H3 f3 n1 n2 n3 => ?_
              refine l5 σ H3 f3 (PinE.refl _ _) n1 (fun b => by have : f3 b ≤ 0 + f1 b := n2 b; have := l3 b; omega) ⟨fun b o z1 z2 => ?_, fun b o z1 z2 => ?_⟩
              · have y1 : g b + f1 b = 0 := l4.own b o z1 z2
                exact n3 b o (l4.keep b o z1 z2) (by omega)
              · have y1 : g b + f1 b = 0 := l4.own b o z1 z2
                have : f3 b ≤ 0 + f1 b := n2 b
                omega
            · exact l5.elim
          · exact l5.elim
        · exact l5.elim
      · exact h3.elim
    · exact h3.elim
end
end Bv

set_option maxHeartbeats 1000000
namespace Bv
open PySem PySem.Spec PyProof.Rows L2

/-! ### {e for x in xs}: sets of ints and texts; here their sizes alone -/
instance memK (k : Key) (acc : List Key) : Decidable (k ∈ acc) := @List.instDecidableMemOfLawfulBEq Key instBEqOfDecidableEq inferInstance k acc
def insK (acc : List Key) (k : Key) : List Key := if k ∈ acc then acc else acc ++ [k]
def SKo (P : Program) (w : World) (a : Addr) (acc : List Key) : HO := SetK P w a (fun j => decide (j ∈ acc)) acc.length
theorem sko_add {P : Program} {w : World} {a : Addr} {acc : List Key} {k : Key} :
    SetK P w a (fun j => (fun j => decide (j ∈ acc)) j || decide (j = k)) (if (fun j => decide (j ∈ acc)) k = true then acc.length else acc.length + 1) = SKo P w a (insK acc k) := by
  unfold SKo insK
  by_cases h : k ∈ acc
  · rw [if_pos h]
    have e : (fun j => (fun j => decide (j ∈ acc)) j || decide (j = k)) = (fun j => decide (j ∈ acc)) := by
      funext j
      by_cases hj : j = k
      · subst hj; simp [h]
      · simp [hj]
    rw [e, if_pos (by simpa using h)]
  · rw [if_neg h]
    have e : (fun j => (fun j => decide (j ∈ acc)) j || decide (j = k)) = (fun j => decide (j ∈ acc ++ [k])) := by
      funext j
      simp [List.mem_append]
    rw [e, if_neg (by simpa using h)]
    simp
def keyP : PV → Option Key
  | .int i => some (.inl i)
  | .str x => some (.inr x)
  | _ => none
section
variable {X : Cx}
theorem setK0 (P : Program) (w : World) (h : Heap) : (h.push { cls := .type "set", dict := none, data := .set #[] 0 (.fresh 0 0 (!w.params.followText "set-order")) }).SetOf (mixKind P w) h.objs.size (fun j => decide (j ∈ ([] : List Key))) ([] : List Key).length :=
  ⟨_, #[], 0, _, Heap.get?_push_size _ rfl, ⟨rfl, rfl, rfl⟩, rfl, (fun e he => by simp at he), (fun k => by simp), (by decide), (by rfl), rfl⟩
/-- one element more -/
theorem addK_ok {pins : List (Addr × Obj)} {σ : L2.St} {H : Hp} {s : Shared} {E : Value → Shared → Prop} {D : Addr} {acc : List Key} {k : Key} {u : Value} {Q : Value → Shared → Prop} (I : Inv X pins σ H s) (hD : H D = some (SKo X.prog X.w D acc)) (r : RelV (kV k) u) (room : acc.length + 1 < scanBound)
    (h : ∀ s', Inv X pins σ (upd H D (SKo X.prog X.w D (insK acc k))) s' → Q .none s') : wpAny (model X.prog X.w) X.A (call (.builtin "set.add") [.ref D, u]) Q E s := by
  refine call_set_add (kV_is r) (key_scan r) (setK_get I hD) room fun h' sb new => ?_
  have he : ∃ u, h'.get? D = some u := by
    have ⟨o, _, _, _, ho, _⟩ := new
    exact ⟨o, ho⟩
  have J := I.write (e := D) (t' := s.toks + 1) (by rw [hD]; trivial) (.inl rfl) (fun b u hb hu => (sb.2 b hb).trans hu) he (setK_new new)
  rw [sko_add] at J
  exact h _ J
/-- {elt for target in iter if ..}: D the new set -/
def tScK (P : Program) (w : World) (wi : TI) (g : TG) (tt : TT) (te : TE) (vs : List Nat) : TE := fun σ H Q => wi σ H fun J H1 => ∀ D, H1 D = none → ∃ W : Nat → Nat → Hp → Prop, (∃ m, W 0 m (upd H1 D (SKo P w D []))) ∧ ∀ i m H, W i m H →
  (J.stop i H ∧ Q (.ref D) H) ∨ (J.go i H ∧ ∃ Nx : Hp → Prop, (∀ H', Nx H' → ∃ m', m' < m ∧ W (i + 1) m' H') ∧ ∀ x H', J.yld i H x H' → g x (L2.wipe σ vs) H' fun σ2 H2 => L2.wipe σ2 vs = L2.wipe σ vs ∧ tt σ2 H2 fun b H3 =>
    if b = true then te σ2 H3 fun y H4 => ∃ (k : Key) (acc : List Key), y = kV k ∧ H4 D = some (SKo P w D acc) ∧ acc.length + 1 < scanBound ∧ Nx (upd H4 D (SKo P w D (insK acc k))) else Nx H3)
theorem pe_scK {elt tg iter : Expr} {ifs : List Expr} {scope : Scope} {own : List (Str × Nat)} {pos : Pos} {wi : TI} {g : TG} {tt : TT} {te : TE} (hc : X.calm = true) (hN : X.N.Nodup) (hi : PI X tg iter wi) (ok : BlkOk X.N X.env.scope scope own)
    (hg : Blk X scope (fun Y => PG Y tg g)) (ht : Blk X scope (fun Y => PTs Y ifs tt)) (he : Blk X scope (fun Y => PE Y elt te)) (hs : ∀ x, foldedSetIterable iter X.env x = pure x := by intro _; rfl) :
    PE X (.SetComp elt [⟨tg, iter, ifs, 0⟩] scope pos) (tScK X.prog X.w wi g tt te (own.map (·.2))) := by
  refine ⟨fun pins s σ H Q I h => ?_⟩
  rw [PpSet.eval_SetComp]
  have hfree : ∀ y ∈ scope.names, y.2 = .free → ∃ c, X.env.cells.lookup y.1 = some c := fun y hy e => by
    rcases ok.free y hy e with k | k
    · exact I.ok.has _ (.inl k)
    · exact I.ok.has _ (.inr k)
  refine wpAny_comprehension_free (use := none) rfl hs (closure_ok hfree) ok.kind (fun y hy e => by rw [ok.uniq y hy, e])
    (thn (hi.run pins s σ H _ I h) fun xv s1 hx => thn hx fun itv s2 h2 => ?_)
  obtain ⟨it, fp, tn, J, H2, e, I2, T, st2, f2, q⟩ := h2
  subst e
  refine PpSet.newSet_ok (newEnv_comp ?_)
  obtain ⟨D, hD⟩ : ∃ D, D = s2.heap.objs.size := ⟨_, rfl⟩
  have hDn : H2 D = none := I2.hok.fresh (Nat.le_of_eq hD.symm)
  obtain ⟨W, ⟨m0, w0⟩, turn⟩ := q D hDn
  generalize hs3 : ({ s2 with heap := s2.heap.push { cls := .type "set", dict := none, data := .set #[] 0 (.fresh 0 0 (!X.w.params.followText "set-order")) } } : Shared) = s3
  generalize hH3 : upd H2 D (SKo X.prog X.w D []) = H3 at w0
  have I3 : Inv X pins σ H3 s3 := by
    rw [← hs3, ← hH3]
    refine I2.laid (t' := s2.toks) (fun b o e => Heap.get?_push_of_some _ e) (Nat.le_of_eq hD.symm) ?_
    rw [hD]
    exact setK_new (setK0 X.prog X.w _)
  have h3 : s3.heap = s2.heap.push { cls := .type "set", dict := none, data := .set #[] 0 (.fresh 0 0 (!X.w.params.followText "set-order")) } := by rw [← hs3]
  have f3 : ∀ b ∈ fp, FpOk X pins H3 b ∧ b < s3.heap.objs.size := fun b hb => by
    obtain ⟨o, e, _⟩ := T.obj _ _ st2 b hb
    have hlt := Heap.lt_size e
    refine ⟨⟨?_, (f2 b hb).2⟩, by rw [h3, Heap.size_push]; exact Nat.lt_succ_of_lt hlt⟩
    rw [← hH3, upd_ne (by rw [hD]; exact Nat.ne_of_lt hlt)]
    exact (f2 b hb).1
  have st3 : tn 0 s3.heap := T.keep _ _ _ st2 fun b _ o e => by rw [h3]; exact Heap.get?_push_of_some _ e
  have I4 := block_start I3 ok hN f3
  have pg := hg s3 H3 s3.heap.objs.size (cellsFrom (s3.heap.objs.size + 1) scope.names (cloFrom X.env.cells scope.names [])) fp
  have pt := ht s3 H3 s3.heap.objs.size (cellsFrom (s3.heap.objs.size + 1) scope.names (cloFrom X.env.cells scope.names [])) fp
  have pe := he s3 H3 s3.heap.objs.size (cellsFrom (s3.heap.objs.size + 1) scope.names (cloFrom X.env.cells scope.names [])) fp
  have hs3' : ({ s2 with heap := s2.heap.push { cls := .type "set", dict := none, data := .set #[] 0 (.fresh 0 0 (!X.w.params.followText "set-order")) } } : Shared) = s3 := hs3
  show codeAny _ _ (.compStart (.SetComp elt [⟨tg, iter, ifs, 0⟩] scope pos) 0 (.ref it) (.ref s2.heap.objs.size) (compEnvC scope (cellsFrom (s3.heap.objs.size + 1) scope.names (cloFrom X.env.cells scope.names [])) s3.heap.objs.size X.env)) (compPost (model X.prog X.w) X.A X.xe none _ (.ref s2.heap.objs.size) s3.heap.objs.size) { s3 with heap := pushCells (s3.heap.push { cls := .type "dict", data := .dict #[] }) scope.names }
  rw [← hD]
  generalize hce : compEnvC scope (cellsFrom (s3.heap.objs.size + 1) scope.names (cloFrom X.env.cells scope.names [])) s3.heap.objs.size X.env = ce at I4 pg pt pe ⊢
  have cL : ce.locals = s3.heap.objs.size := by subst hce; rfl
  have nfp : ∀ b ∈ fp, H3 b = none := fun b hb => (f3 b hb).1.1
  generalize hs4 : ({ s3 with heap := pushCells (s3.heap.push { cls := .type "dict", data := .dict #[] }) scope.names } : Shared) = s4 at I4 ⊢
  have st4 : tn 0 s4.heap := T.keep _ _ _ st3 fun b _ o e => by rw [← hs4]; exact pushCells_keeps _ _ _ _ (Heap.get?_push_of_some _ e)
  have stat : ∀ {σ' : L2.St} {H' : Hp} {s' : Shared}, Inv (X.blk s3 H3 scope ce fp) [] σ' H' s' → (∀ b ∈ fp, H' b = none) → ∀ b ∈ fp, FpOk (X.blk s3 H3 scope ce fp) [] H' b := fun {σ' H' s'} I' hn b hb =>
    ⟨hn b hb, (I'.ok.exf b hb).1, I'.ok.exfs b hb, .inl hb, fun x c e => (I'.ok.exf b hb).2 x c e, fun p hp => absurd (show p ∈ ([] : List (Addr × Obj)) ++ [] from hp) (by simp)⟩
  have loop : codeAny (model X.prog X.w) X.A (.compLoop (.SetComp elt [⟨tg, iter, ifs, 0⟩] scope pos) 0 (.ref it) (.ref D) ce) (compPost (model X.prog X.w) X.A X.xe none (EP X pins σ Q) (.ref D) s3.heap.objs.size) s4 := by
    refine PpSet.compLoopS_any (fun n s' => ∃ i H', Inv (X.blk s3 H3 scope ce fp) [] (L2.wipe σ (own.map (·.2))) H' s' ∧ tn i s'.heap ∧ (∀ b ∈ fp, H' b = none) ∧ W i n H') ?_ m0 ⟨0, H3, I4, st4, nfp, w0⟩
    rintro n s5 ⟨i, H5, I5, st5, n5, w5⟩
    rcases turn i n H5 w5 with ⟨stop, qq⟩ | ⟨go, Nx, hNx, step⟩
    · refine thnF (T.done (X.blk s3 H3 scope ce fp) rfl rfl rfl hc i [] s5 _ H5 (fun _ _ => False) I5 (stat I5 n5) st5 stop) fun r s6 ⟨hr, I6⟩ => ?_
      subst hr
      have I7 : Inv X pins σ H5 s6 := I3.call' (ch := fp) I6.os I6.base I6.hok I6.bare fun b hb => ⟨(f3 b hb).1.2.2.2.1, (f3 b hb).1.2.1, (f3 b hb).1.2.2.2.2.1, (f3 b hb).1.2.2.2.2.2⟩
      have nC : H5 s3.heap.objs.size = none := by
        have z : H5 ce.locals = none := I6.free
        rw [cL] at z
        exact z
      obtain ⟨m, hn, _⟩ := I6.loc
      have hn : s6.heap.Ns ce.locals m := hn
      rw [cL] at hn
      refine ⟨m, hn, fun h'' sb => ?_⟩
      obtain ⟨f0, f1, f2, f3, f4, f5⟩ := I3.fpOk (Nat.le_refl _) nC
      exact ⟨.ref D, H5, I7.turned (t' := s6.toks) (fun b o hb e => (sb.2 b hb).trans e) f0 f1 f3 f4 f5, rfl, qq⟩
    · refine thnF (T.item (X.blk s3 H3 scope ce fp) rfl rfl rfl hc i [] s5 _ H5 (fun _ _ => False) I5 (stat I5 n5) st5 go) fun r s6 ⟨u, hr, h6⟩ => ?_
      subst hr
      refine thnF h6 fun _ s7 ⟨x, H7, I7, r7, y7, st7, n7⟩ => ?_
      have I7' := I7.pinned (stat I7 n7) (T.obj _ _ st7)
      refine thnF (pg.run _ s7 _ H7 x u _ I7' r7 (step x H7 y7)) fun _ s8 ⟨σ8, H8, I8, hw8, q8⟩ => ?_
      refine thnF (pt.run _ s8 σ8 H8 _ I8 q8) fun b s9 ⟨H9, I9, q9⟩ => ?_
      have fin : ∀ {s' : Shared} {H' : Hp}, Inv (X.blk s3 H3 scope ce fp) ([] ++ pinsAt fp s7.heap) σ8 H' s' → Nx H' → ∃ m, m < n ∧ ∃ i H', Inv (X.blk s3 H3 scope ce fp) [] (L2.wipe σ (own.map (·.2))) H' s' ∧ tn i s'.heap ∧ (∀ b ∈ fp, H' b = none) ∧ W i m H' := fun {s' H'} I' nx => by
        obtain ⟨m', hm, w'⟩ := hNx H' nx
        have pin' : ∀ b ∈ fp, ∀ o, s7.heap.get? b = some o → s'.heap.get? b = some o ∧ H' b = none := fun b hb o e =>
          let z := I'.pin (b, o) (List.mem_append_right _ (List.mem_append_right _ (mem_pinsAt hb e)))
          ⟨z.1, z.2.1⟩
        have hl : (L2.wipe σ (own.map (·.2))).length = σ8.length := by rw [← hw8, L2.wipe_length]
        refine ⟨m', hm, i + 1, H', (I'.unpinned (pins := [])).weak hl (fun j v e => ?_), T.keep _ _ _ st7 fun b hb o e => (pin' b hb o e).1, fun b hb => ?_, w'⟩
        · rw [← hw8] at e
          exact (L2.wipe_some e).1
        · obtain ⟨o, e, _⟩ := T.obj _ _ st7 b hb
          exact (pin' b hb o e).2
      cases b with
      | false =>
        simp only [Bool.false_eq_true, if_false] at q9 ⊢
        exact fin I9 q9
      | true =>
        simp only [if_true] at q9 ⊢
        refine thnF (pe.run _ s9 σ8 H9 _ I9 q9) fun z s10 ⟨yv, H10, I10, r10, k, acc, ey, hD10, room, nx⟩ => ?_
        subst ey
        exact addK_ok (X := X.blk s3 H3 scope ce fp) I10 hD10 r10 room fun s11 I11 => fin I11 nx
  exact PpSet.codeAny_compStart_set loop (T.self X.A 0 _ _ _ st4 loop)
/-- len of such a set -/
theorem pe_lenScK {e : Expr} {te : TE} {p pos : Pos} (hg : Gl X "len") (hm : X.mg "len" = none) (ha : PE X e te) (na : starEach [e] X.env = (false, eval e X.env) :: starEach [] X.env := by rfl) :
    PE X (.Call (.Name "len" p) [e] [] pos) (fun σ H Q => te σ H fun x H1 => ∃ (a : Addr) (acc : List Key), x = .ref a ∧ H1 a = some (SKo X.prog X.w a acc) ∧ Q (.int acc.length) H1) := by
  refine ⟨fun pins s σ H Q I h => ?_⟩
  refine Call_ (ld_blt I hg hm boot_len ?_)
  refine PyProof.Rows.callWith_builtin1 (PyProof.Rows.args_cons (thn (ha.run pins s σ H _ I h) fun v s1 ⟨x, H1, I1, r1, q1⟩ => PyProof.Rows.args_nil ?_) na) na rfl
  obtain ⟨a, acc, rfl, hq, q1⟩ := q1
  cases r1
  obtain ⟨o, es, ep, t, ho, hex, hd, _, _, hsb, hf, hn⟩ := setK_get I1 hq
  exact call_len_set ho hex hd hf (by unfold scanBound at hsb; omega) ⟨.int acc.length, H1, I1.tok _, ⟨_, by rw [hn]⟩, q1⟩
end
/-- the keys of a row, each once -/
def keysL (t : PV → Sl → Option Sl) (cond : M Bool) (el : M PV) (own : List Nat) : List PV → Sl → List Key → R (List Key)
  | [], s, acc => .ok acc s
  | x :: r, s, acc => match t x s with
    | none => .bad
    | some s1 => match cond s1 with
      | .ok false s2 => keysL t cond el own r (wipeS s2 own) acc
      | .ok true s2 => match el s2 with
        | .ok y s3 => match keyP y with
          | some k => keysL t cond el own r (wipeS s3 own) (insK acc k)
          | none => .bad
        | _ => .bad
      | _ => .bad

def mLenSc (os : M (List Pnd)) (it : List PV → Option (List PV)) (t : PV → Sl → Option Sl) (cond : M Bool) (el : M PV) (own : List Nat) : M PV := fun s => (os s).bind fun ps s1 => match takeP ps s1 with
  | none => .bad
  | some (vals, s2) => match it vals with
    | none => .bad
    | some xs => if xs.length ≤ 4000 then (match keysL t cond el own xs (wipeS s2 own) [] with
      | .ok acc s3 => .ok (.int acc.length) (putP ps vals s3)
      | _ => .bad) else .bad
theorem keyP_rep {K : PySem.W.Frag} {H : Hp} {y : PV} {v : V} {g : Fp} {k : Key} (r : Rep K H y v g) (e : keyP y = some k) : v = kV k ∧ ∀ b, g b = 0 := by
  cases y with
  | int i => cases (Option.some.inj e); exact r
  | str i => cases (Option.some.inj e); exact r
  | _ => simp [keyP] at e
theorem insK_len (acc : List Key) (k : Key) : (insK acc k).length ≤ acc.length + 1 := by
  unfold insK
  split
  · omega
  · simp
section
variable {X : Cx} {W : WX} {tg iter elt e a : Expr} {ifs : List Expr} {scope : Scope} {own : List (Str × Nat)} {pos : Pos}
theorem sc_end {os : M (List Pnd)} {r : List V → Hp → (It → Hp → Prop) → Prop} {it : List PV → Option (List PV)} {t : PV → Sl → Option Sl} {ix : List Nat} {cond : M Bool} {el : M PV} {g : TG} (vi : VIt X.K it r)
    (ht : ∀ (x : PV) (s s1 : Sl) (v : V) (σ : L2.St) (H : Hp) (f gx : Fp) (Q : L2.St → Hp → Prop), t x s = some s1 → Rep X.K H x v gx → SLR X.K H s σ f →
      (∀ σ' f', SLR X.K H s1 σ' f' → (∀ b, f' b ≤ gx b + f b) → (∀ j, j ∉ ix → σ'[j]? = σ[j]?) → σ'.length = σ.length → Q σ' H) → g v σ H Q) (hix : ∀ i ∈ ix, i ∈ own.map (·.2))
    {σ : L2.St} {H : Hp} {Q : VK} (q : rdG (Rep X.K) X W (mLenSc os it t cond el (own.map (·.2))) σ H Q) :
    tScK X.prog X.w (fun σ H R => rdG (PReps X.K σ) X W os σ H (fun vs H1 => r vs H1 R)) g (rdG BRep X W0 cond) (rdG (Rep X.K) X W0 el) (own.map (·.2)) σ H
      (fun x H1 => ∃ (a : Addr) (acc : List Key), x = .ref a ∧ H1 a = some (SKo X.prog X.w a acc) ∧ Q (.int acc.length) H1) := by
  refine rdG.bind (ρ := PReps X.K σ) q fun F ps s1 vs H1 g1 f1 h0 h1 h2 h3 h4 h5 => ?_
  cases e1 : takeP ps s1 with
  | none => rw [e1] at h5; exact h5.elim
  | some pr =>
    obtain ⟨vals, s2⟩ := pr
    rw [e1] at h5
    dsimp only at h5
    cases e2 : it vals with
    | none => rw [e2] at h5; exact h5.elim
    | some xs =>
      rw [e2] at h5
      dsimp only at h5
      split at h5
      · rename_i hlim
        obtain ⟨fa, f', k1, k2, k3, k4⟩ := take_ok h1 h2 e1
        refine vi H1 vals vs fa xs _ k1 e2 fun J IR ok hIR D hD => ?_
        obtain ⟨f2, w1, w2⟩ := k2.wipe (vs := own.map (·.2))
        have keep0 := keep_upd (H := H1) (p := D) (o := SKo X.prog X.w D []) hD
        have dead : ∀ b o, H b = some o → F b = 0 → H1 b = some o ∧ fa b + f' b = 0 ∧ b ≠ D := fun b o e z => by
          have y := h4.keep b o e z
          have y2 : g1 b + f1 b = 0 := h4.own b o e z
          refine ⟨y, by rw [k4 b]; exact y2, fun z => ?_⟩
          subst z
          rw [y] at hD; cases hD
        have faD : fa D = 0 := live_reps k1 hD
        have f2D : f2 D = 0 := by have := live_of k2 hD; have := w2 D; omega
        refine ⟨fun i m Hc => i + m = xs.length ∧ ∃ s fs acc, SLR X.K Hc s (L2.wipe σ (own.map (·.2))) fs ∧ Hc D = some (SKo X.prog X.w D acc) ∧ acc.length ≤ i ∧ (∀ b, fa b + fs b ≤ 1) ∧ fa D = 0 ∧ fs D = 0 ∧ IR Hc ∧ Reps X.K Hc vals vs fa ∧
            (∀ i ∈ own.map (·.2), i < s.length → s[i]? = some none) ∧ (∀ b o, H b = some o → F b = 0 → Hc b = some o ∧ fa b + fs b = 0 ∧ b ≠ D) ∧
            keysL t cond el (own.map (·.2)) (xs.drop i) s acc = keysL t cond el (own.map (·.2)) xs (wipeS s2 (own.map (·.2))) [],
          ⟨xs.length, by omega, wipeS s2 (own.map (·.2)), f2, [], w1.keptZ keep0, upd_same, Nat.zero_le _, fun b => by have := k4 b; have := h3 b; have := w2 b; omega, faD, f2D, ?_, k1.keptZ keep0, fun i hi hl => wipeS_none _ _ _ hi (by rw [wipeS_length] at hl; exact hl), fun b o e z => ?_, rfl⟩, fun i m Hc hW => ?_⟩
        · exact ok.st H1 _ Z0 (keptZ keep0) (fun _ n => absurd rfl n) (fun _ _ => rfl) hIR
        · obtain ⟨y1, y2, y3⟩ := dead b o e z
          exact ⟨by rw [upd_ne y3]; exact y1, by have := w2 b; omega, y3⟩
        · obtain ⟨him, s, fs, acc, a1, a2, a4, a5, aD1, aD2, a6, a7, a8, a9, a10⟩ := hW
          by_cases hi : i < xs.length
          · refine .inr ⟨ok.go i Hc a6 hi, fun Hn => i + 1 + (m - 1) = xs.length ∧ ∃ s fs acc, SLR X.K Hn s (L2.wipe σ (own.map (·.2))) fs ∧ Hn D = some (SKo X.prog X.w D acc) ∧ acc.length ≤ i + 1 ∧ (∀ b, fa b + fs b ≤ 1) ∧ fa D = 0 ∧ fs D = 0 ∧ IR Hn ∧ Reps X.K Hn vals vs fa ∧
                (∀ i ∈ own.map (·.2), i < s.length → s[i]? = some none) ∧ (∀ b o, H b = some o → F b = 0 → Hn b = some o ∧ fa b + fs b = 0 ∧ b ≠ D) ∧
                keysL t cond el (own.map (·.2)) (xs.drop (i + 1)) s acc = keysL t cond el (own.map (·.2)) xs (wipeS s2 (own.map (·.2))) [], fun Hn hn => ⟨m - 1, by omega, hn⟩, fun v Hy hy => ?_⟩
            have hx : xs[i]? = some xs[i] := List.getElem?_eq_getElem hi
            obtain ⟨rx, ky⟩ := ok.yld i Hc v Hy xs[i] a6 hx hy
            have ed : xs.drop i = xs[i] :: xs.drop (i + 1) := List.drop_eq_getElem_cons hi
            rw [ed] at a10
            simp only [keysL] at a10
            have b1 := a1.keptZ ky
            have b2 := ky _ _ a2
            have b6 : IR Hy := ok.st Hc Hy Z0 (keptZ ky) (fun _ n => absurd rfl n) (fun _ _ => rfl) a6
            have b7 := a7.keptZ ky
            have notbad : ∀ {Pp : Prop}, keysL t cond el (own.map (·.2)) xs (wipeS s2 (own.map (·.2))) [] = .bad → Pp := fun e => by rw [e] at h5; exact h5.elim
            cases et : t xs[i] s with
            | none => rw [et] at a10; exact notbad a10.symm
            | some s3 =>
              rw [et] at a10
              dsimp only at a10
              refine ht xs[i] s s3 v _ Hy fs Z0 _ et rx b1 fun σ3 f3 c1 c2 c3 c4 => ?_
              have f3le : ∀ b, f3 b ≤ fs b := fun b => by have : f3 b ≤ 0 + fs b := c2 b; omega
              refine ⟨by rw [wipe_agree (own.map (·.2)) (fun j hj => c3 j fun z => hj (hix j z)) c4, wipe_wipe], ?_⟩
              have ow : ∀ b, fa b ≠ 0 → f3 b = 0 := fun b n => by have := a5 b; have := f3le b; omega
              have f3D : f3 D = 0 := by have := f3le D; omega
              refine ⟨s3, f3, c1, fun b => by have := a5 b; have := f3le b; omega, ?_⟩
              -- a step that leaves all but the slots
              have step : ∀ {Ha Hb : Hp} {fx gy fy : Fp}, Frm Ha Hb fx (fun b => gy b + fy b) → (∀ b, gy b + fy b ≤ 1) → (∀ b, fx b ≠ 0 → MutA Ha b) → (∀ b, fa b + fx b ≤ 1) → fx D = 0 → Ha D = some (SKo X.prog X.w D acc) → IR Ha → Reps X.K Ha vals vs fa → (∀ b o, H b = some o → F b = 0 → Ha b = some o ∧ fa b + fx b = 0 ∧ b ≠ D) →
                  Hb D = some (SKo X.prog X.w D acc) ∧ gy D + fy D = 0 ∧ IR Hb ∧ Reps X.K Hb vals vs fa ∧ (∀ b, fa b + (gy b + fy b) ≤ 1) ∧ (∀ b o, H b = some o → F b = 0 → Hb b = some o ∧ fa b + (gy b + fy b) = 0 ∧ b ≠ D) := fun {Ha Hb fx gy fy} fr le mu own1 fD hD1 ir va dd => by
                have dj : ∀ b, fa b ≠ 0 → fx b = 0 := fun b n => by have := own1 b; omega
                refine ⟨fr.keep D _ hD1 fD, fr.own D _ hD1 fD, ok.st Ha Hb fx fr.kept mu dj ir, va.kept fr.kept mu dj, fun b => ?_, fun b o e z => ?_⟩
                · by_cases hb : fa b = 0
                  · have := le b; omega
                  · obtain ⟨o, ho, _⟩ := va.mut hb
                    have : gy b + fy b = 0 := fr.own b o ho (dj b hb)
                    have := own1 b
                    omega
                · obtain ⟨y1, y2, y3⟩ := dd b o e z
                  have z0 : fx b = 0 := by omega
                  have : gy b + fy b = 0 := fr.own b o y1 z0
                  exact ⟨fr.keep b o y1 z0, by omega, y3⟩
              have dead3 : ∀ b o, H b = some o → F b = 0 → Hy b = some o ∧ fa b + f3 b = 0 ∧ b ≠ D := fun b o e z => by
                obtain ⟨y1, y2, y3⟩ := a9 b o e z
                exact ⟨ky b o y1, by have := f3le b; omega, y3⟩
              cases ec : cond s3 with
              | bad => rw [ec] at a10; exact notbad a10.symm
              | exc z s4 => rw [ec] at a10; exact notbad a10.symm
              | ok c s4 =>
                rw [ec] at a10
                intro cb H4 gc f4 d1 d2 d3 d4
                obtain ⟨rfl, zc⟩ := d1
                obtain ⟨D4, z4, ir4, val4, own4, dead4⟩ := step d4 d3 (fun b n => c1.mut n) (fun b => by have := a5 b; have := f3le b; omega) f3D b2 b6 b7 dead3
                cases c with
                | false =>
                  rw [if_neg Bool.false_ne_true]
                  dsimp only at a10
                  obtain ⟨f5, m1, m2⟩ := d2.wipe (vs := own.map (·.2))
                  rw [wipe_agree (own.map (·.2)) (fun j hj => c3 j fun z => hj (hix j z)) c4, wipe_wipe] at m1
                  exact ⟨by omega, wipeS s4 (own.map (·.2)), f5, acc, m1, D4, by omega, fun b => by have := own4 b; have := m2 b; omega, aD1, by have := m2 D; omega, ir4, val4,
                    fun i hi hl => wipeS_none _ _ _ hi (by rw [wipeS_length] at hl; exact hl), fun b o e z => by
                      obtain ⟨y1, y2, y3⟩ := dead4 b o e z
                      have := m2 b
                      exact ⟨y1, by omega, y3⟩, a10⟩
                | true =>
                  rw [if_pos rfl]
                  dsimp only at a10
                  refine ⟨s4, f4, d2, fun b => by have := d3 b; omega, ?_⟩
                  cases ee : el s4 with
                  | bad => rw [ee] at a10; exact notbad a10.symm
                  | exc z s5 => rw [ee] at a10; exact notbad a10.symm
                  | ok y s5 =>
                    rw [ee] at a10
                    dsimp only at a10
                    cases ek : keyP y with
                    | none => rw [ek] at a10; exact notbad a10.symm
                    | some k =>
                      rw [ek] at a10
                      dsimp only at a10
                      intro vy H5 gy f5 n1 n2 n3 n4
                      obtain ⟨rfl, zy⟩ := keyP_rep n1 ek
                      obtain ⟨D5, z5, ir5, val5, own5, dead5⟩ := step n4 n3 (fun b n => d2.mut n) (fun b => by have := own4 b; omega) (by omega) D4 ir4 val4 (fun b o e z => by
                        obtain ⟨y1, y2, y3⟩ := dead4 b o e z
                        exact ⟨y1, by omega, y3⟩)
                      have up : ∀ b o, b ≠ D → H5 b = some o → (upd H5 D (SKo X.prog X.w D (insK acc k))) b = some o := fun b o hb e => by rw [upd_ne hb]; exact e
                      have upK : Kept H5 (upd H5 D (SKo X.prog X.w D (insK acc k))) (one D) := kept_upd
                      have muD : ∀ b, one D b ≠ 0 → MutA H5 b := fun b n => by
                        have : b = D := Classical.byContradiction fun z => n (one_ne z)
                        subst this; exact ⟨_, D5, trivial⟩
                      have noD : ∀ {b : Addr} {x : Fp}, x D = 0 → x b ≠ 0 → one D b = 0 := fun {b x} h n => one_ne fun z => n (by rw [z]; exact h)
                      obtain ⟨f6, m1, m2⟩ := n2.wipe (vs := own.map (·.2))
                      rw [wipe_agree (own.map (·.2)) (fun j hj => c3 j fun z => hj (hix j z)) c4, wipe_wipe] at m1
                      have f6D : f6 D = 0 := by have := m2 D; omega
                      -- what leans on nothing at D
                      have slr' : SLR X.K (upd H5 D (SKo X.prog X.w D (insK acc k))) (wipeS s5 (own.map (·.2))) (L2.wipe σ (own.map (·.2))) f6 := m1.kept upK muD fun b n => noD f6D n
                      have val' : Reps X.K (upd H5 D (SKo X.prog X.w D (insK acc k))) vals vs fa := val5.kept upK muD fun b n => noD aD1 n
                      refine ⟨k, acc, rfl, D5, by unfold scanBound; omega, by omega, wipeS s5 (own.map (·.2)), f6, insK acc k, slr', upd_same, by have := insK_len acc k; omega, fun b => by have := own5 b; have := m2 b; omega, aD1, f6D,
                        ?_, val', fun i hi hl => wipeS_none _ _ _ hi (by rw [wipeS_length] at hl; exact hl), fun b o e z => ?_, a10⟩
                      · exact ok.st H5 _ (one D) upK muD (fun b n => noD aD1 n) ir5
                      · obtain ⟨y1, y2, y3⟩ := dead5 b o e z
                        have := m2 b
                        exact ⟨by rw [upd_ne y3]; exact y1, by omega, y3⟩
          · have ei : i = xs.length := by omega
            subst ei
            refine .inl ⟨ok.stop Hc a6, ?_⟩
            rw [List.drop_length] at a10
            simp only [keysL] at a10
            rw [← a10] at h5
            have u1 := a1.unwipe (own.map (·.2)) a8
            obtain ⟨f6, l1, l2⟩ := put_ok h1 u1 a7 a5
            exact ⟨D, acc, rfl, a2, h5 (.int acc.length) Hc Z0 f6 rep_int l1 (fun b => by have := a5 b; have := l2 b; show 0 + f6 b ≤ 1; omega) ⟨fun b o e z => (a9 b o e z).1, fun b o e z => by
              obtain ⟨y1, y2, y3⟩ := a9 b o e z
              have := l2 b
              show 0 + f6 b = 0
              omega⟩⟩
      · exact h5.elim
theorem se_lenSc {os : M (List Pnd)} {r : List V → Hp → (It → Hp → Prop) → Prop} {it : List PV → Option (List PV)} {t : PV → Sl → Option Sl} {ix : List Nat} {cond : M Bool} {el : M PV} {p cpos : Pos}
    (hg : Gl X "len") (hm : X.mg "len" = none) (hc : X.calm = true) (hN : X.N.Nodup) (hi : SI X W tg iter os r) (vi : VIt X.K it r) (ok : BlkOk X.N X.env.scope scope own) (ht : TgB X scope tg t ix) (hix : ∀ i ∈ ix, i ∈ own.map (·.2))
    (hcond : Blk X scope (fun Y => SIf Y W0 ifs cond)) (hel : Blk X scope (fun Y => SE Y W0 elt el)) (hs : ∀ x, foldedSetIterable iter X.env x = pure x := by intro _; rfl)
    (na : starEach [.SetComp elt [⟨tg, iter, ifs, 0⟩] scope pos] X.env = (false, eval (.SetComp elt [⟨tg, iter, ifs, 0⟩] scope pos) X.env) :: starEach [] X.env := by rfl) :
    SE X W (.Call (.Name "len" p) [.SetComp elt [⟨tg, iter, ifs, 0⟩] scope pos] [] cpos) (mLenSc os it t cond el (own.map (·.2))) := by
  obtain ⟨g, hgp, hgt⟩ := ht.ex
  exact PE.weaken (pe_lenScK hg hm (pe_scK (tt := rdG BRep X W0 cond) (te := rdG (Rep X.K) X W0 el) hc hN hi ok hgp hcond hel hs) na) fun σ H Q q => sc_end vi hgt hix q
end
end Bv

set_option maxHeartbeats 1000000
namespace Bv
open PySem PySem.Spec PyProof.Rows L2

/-! ### an own exception over ValueError whose __init__ says super().__init__(a text) -/
section
variable {prog : Program} {w : World} {A : Around} {E : Value → Shared → Prop} {h : Heap} {g : Array GenState} {d : Drawn} {t : Nat} {os : OsState}
variable {nm q : Str} {C N : Addr} {bs bm : List Value} {hdct : Bool} {sn : List Str} {sub : List Value} {ab : Bool} {col : Option Bool} {dd : Option Addr} {k0 k1 k2 k3 k5 : Option Value}
theorem call_mw {u e t0 : Addr} {rest : List Value} {Q : Value → Shared → Prop}
    (hC : h.get? C = some (excClassObj nm q C N bs bm hdct sn sub ab col dd k0 k1 k2 k3 k5 "ValueError.__new__")) (he : h.get? e = some (HandSPX.excO C t0)) (hu : h.get? u = some (PySem.W.kxs_mw "ValueError.__init__" e)) (hrest : rest.length ≤ sizeLine)
    (hq : ∀ h' t1, (∀ b o, b ≠ e → h.get? b = some o → h'.get? b = some o) → h'.get? e = some (HandSPX.excO C t1) → Q .none ⟨h', g, d, t, os⟩) :
    wpAny (model prog w) A (call (.ref u) rest) Q E ⟨h, g, d, t, os⟩ := by
  refine wpAny_call (codeAny_of_tree ?_)
  show wpAny _ A.in1 (callAny (.ref u) ⟨rest, []⟩) _ _ _
  simp only [callAny]
  refine wpAny_bind (wpAny_load hu ?_)
  simp only [PySem.W.kxs_mw, show (Value.type "method-wrapper" == Value.type "method" || Value.type "method-wrapper" == Value.type "builtin_function_or_method" || Value.type "method-wrapper" == Value.type "method-wrapper") = true by decide, if_true]
  refine PySem.W.KFB.if_so (by decide) ?_
  refine wpAny_bind (PySem.W.check_bound_init F.excBase_ValueError.toExcCallFacts hC he rfl ?_)
  refine wpAny_bind (wpAny_pure (wpAny_pure ?_))
  refine ⟨plainId_quiet F.excBase_ValueError.init.plain _, codeAny_builtin F.excBase_ValueError.initEntry ?_⟩
  rw [Around.under_plainId F.excBase_ValueError.init.plain _]
  wp_walk
  refine hq _ h.objs.size (fun b o hb ho => ?_) ?_
  · rw [Heap.get?_update_other _ _ (Ne.symm hb)]
    exact Heap.get?_push_of_some _ ho
  · rw [Heap.get?_update_self _ (Heap.get?_push_of_some _ he) rfl]
    rfl
end
theorem lookup_rev_out {x : Str} : ∀ {l : List (Str × Value)}, (∀ p ∈ l, p.1 ≠ x) → l.lookup x = none
  | [], _ => rfl
  | (y, v) :: l, h => by
    have hb : (x == y) = false := by
      have := h (y, v) List.mem_cons_self
      simpa using fun e => this e.symm
    simp only [List.lookup, hb]
    exact lookup_rev_out fun p hp => h p (List.mem_cons_of_mem _ hp)
theorem lookup_app {x : Str} : ∀ {l r : List (Str × Value)}, (l ++ r).lookup x = (l.lookup x).or (r.lookup x)
  | [], r => rfl
  | (y, v) :: l, r => by
    simp only [List.cons_append, List.lookup]
    cases (x == y) with
    | true => rfl
    | false => exact lookup_app
theorem lookup_rev_zip {x : Str} {v : Value} : ∀ {ps : List Str} {us : List Value} {i : Nat}, ps.Nodup → ps[i]? = some x → us[i]? = some v → (ps.zip us).reverse.lookup x = some v
  | [], _, _, _, h, _ => by simp at h
  | _ :: _, [], _, _, _, h => by simp at h
  | p :: ps, u :: us, 0, nd, h1, h2 => by
    simp at h1 h2
    subst h1; subst h2
    have n := (List.nodup_cons.mp nd).1
    simp only [List.zip_cons_cons, List.reverse_cons]
    rw [lookup_app, lookup_rev_out (fun q hq => fun e => n (by
      have := List.of_mem_zip (List.mem_reverse.mp hq)
      rw [← e]; exact this.1))]
    simp [List.lookup]
  | p :: ps, u :: us, i + 1, nd, h1, h2 => by
    simp only [List.zip_cons_cons, List.reverse_cons]
    rw [lookup_app, lookup_rev_zip (i := i) (List.nodup_cons.mp nd).2 (by simpa using h1) (by simpa using h2)]
    rfl
/-- what of the text such a class must have -/
structure IniT (P : Program) (K : PySem.W.Frag) (qual : Str) (st : Stmt) (f D : Addr) (fd : FuncData) (cda cc : Addr) : Prop where
  ex : ∃ (oc : Value) (od : Option Addr) (kV doc pm : Value) (an : Option Addr) (ct : Value) (osl : Array (Option Value)),
    fd = PySem.W.ksFn "__init__" qual (defArgs st) (defBody st) (defScope st) .none kV doc pm an (.ref cda) ct cc ∧ K.lookup f = some ⟨oc, od, .func fd, osl⟩
  cd : PySem.W.codeIn K (.ref cda) qual = true
  co : ∃ (ccl : Value) (cdd : Option Addr) (vs : Array Value) (ccs : Array (Option Value)) (file : Str) (tf : Tok), K.lookup cda = some ⟨ccl, cdd, .fields vs, ccs⟩ ∧ vs[2]? = some (.str file tf) ∧ ((P.main.file : Str) == file) = true
  cell : ∃ (cl : Value) (cld : Option Addr) (csl : Array (Option Value)), K.lookup cc = some ⟨cl, cld, .cell (some (.ref D)), csl⟩
  cls : ∃ cd, PySem.W.clsIn K D = some cd
  top : (P.main.scope.names.lookup ("super" : Str)).isSome = false
  any : PySem.W.nsIn K cStatics "thirdparty.any" = some none
/-- what of a class at C, whose __init__ is D's -/
structure IniC (K : PySem.W.Frag) (C D : Addr) : Prop where
  ox : OexC K C
  mro : PySem.W.mroIn K C (.ref D) = some true
  sup : PySem.W.ks_superIn K C D "__init__" = some (some (.builtin "ValueError.__init__"))
  ve : PySem.W.subIn K (.ref C) (.type "ValueError") = some true
/-- the text of its first row -/
abbrev supSt (m : Str) (j : Nat) (p0 p1 p2 p3 p4 p5 : Pos) : Stmt := .Expr (.Call (.Attribute (.Call (.Name "super" p0) [] [] p1) "__init__" p2) [.Constant (.str m) j p3] [] p4) p5
/-- the scope of such a def -/
structure IniS (N ps : List Str) (x : Str) (sc : Scope) : Prop where
  kind : sc.kind = .function
  co : sc.isCoroutine = false
  gen : sc.isGenerator = false
  nd : N.Nodup
  eq : N = ps
  loc : ∀ y ∈ ps, sc.names.lookup y = some .local
  nocell : ∀ y ∈ sc.names, y.2 ≠ .cell
  free : ∀ y ∈ sc.names, y.2 = .free → y.1 = "__class__"
  sup : sc.names.lookup ("super" : Str) = some .globalImplicit
  cls : sc.names.lookup ("__class__" : Str) = some .free
  self : ps.head? = some x
section
variable {P : Program} {w : World} {K : PySem.W.Frag} {mg : Str → Option Value} {base : Heap}
abbrev IX (P : Program) (w : World) (K : PySem.W.Frag) (mg : Str → Option Value) (base : Heap) (N : List Str) (qual : Str) (scope : Scope) (f cda cc : Addr) (A : Around) (outer : List Env) (s : Shared) (H : Hp) : Cx where
  prog := P
  w := w
  K := K
  mg := mg
  base := base
  A := A.deeper (PySem.W.ksEnv qual scope s.heap.objs.size f (.ref cda) cc)
  N := N
  s_0 := s
  H_0 := H
  env := PySem.W.ksEnv qual scope s.heap.objs.size f (.ref cda) cc
  outer := outer
  stack := PySem.W.ksEnv qual scope s.heap.objs.size f (.ref cda) cc :: outer
  ex := []
  calm := true
  fn := fun _ => false
  pn := []
  xe := fun _ _ => False
/-- what the call needs: self is an exception in the making -/
def spIni (K : PySem.W.Frag) (D : Addr) (n : Nat) (t : TS) (N : List Str) : Sp := fun vs H Q _ => vs.length = n ∧ ∃ (a C : Addr) (ws : List V), vs = .ref a :: ws ∧ IniC K C D ∧ H a = some (exo a C none) ∧ t { nx := fun _ H' => Q .non H', rt := Q } (L2.start N vs) H
theorem ini_ok {qual : Str} {st : Stmt} {f D : Addr} {fd : FuncData} {cda cc : Addr} {N ps : List Str} {x m : Str} {j : Nat} {p0 p1 p2 p3 p4 p5 : Pos} {rest : List Stmt} {t : TS} {ar : Arg} {k : Nat}
    (T : IniT P K qual st f D fd cda cc) (S : IniS N ps x (defScope st)) (hst : defBody st = supSt m j p0 p1 p2 p3 p4 p5 :: rest) (har : ((defArgs st).posonlyargs ++ (defArgs st).args).head? = some ar) (hax : ar.arg = x) (hms : mg "super" = none) (hm1 : m.length ≤ 1000)
    (hev : ∀ L, ∃ pl : Sem Bool, eval (.Call (.Attribute (.Call (.Name "super" p0) [] [] p1) "__init__" p2) [.Constant (.str m) j p3] [] p4) (PySem.W.ksEnv qual (defScope st) L f (.ref cda) cc) = (do
      let ov ← attributeBase (.Call (.Name "super" p0) [] [] p1) "__init__" (PySem.W.ksEnv qual (defScope st) L f (.ref cda) cc) (eval (.Call (.Name "super" p0) [] [] p1) (PySem.W.ksEnv qual (defScope st) L f (.ref cda) cc))
      standAt p2.atName
      let (g0, first) ← holding [ov] (getMethod ov "__init__" pl)
      callWith p4 g0 first (backTo p4 (starEach [.Constant (.str m) j p3] (PySem.W.ksEnv qual (defScope st) L f (.ref cda) cc))) []))
    (hsw : ∀ L, swapsWith (.Call (.Attribute (.Call (.Name "super" p0) [] [] p1) "__init__" p2) [.Constant (.str m) j p3] [] p4) none p5.line (PySem.W.ksEnv qual (defScope st) L f (.ref cda) cc) = pure false)
    (hrest : ∀ (A : Around) (outer : List Env) (s : Shared) (H : Hp), PSs (IX P w K mg base N qual (defScope st) f cda cc A outer s H) rest t) :
    FnOk P w K mg base CX0 (k + 1) f fd ps (spIni K D ps.length t N) := by
  obtain ⟨oc, od, kV, doc, pm, an, ct, osl, rfl, lk⟩ := T.ex
  refine ⟨fun vs H Q E h => h.1, fun A outer s H args us vs Q E hr e0 hb r hsp => ?_⟩
  obtain ⟨hl, a, C, ws, rfl, IC, ea, hq⟩ := hsp
  have KX : K.In s.heap := e0.mod.kin.keeps fun b o e => (e0.bs b o e).1
  have lim : s.heap.NoLimit := e0.mod.nolimit.keeps fun b o e => (e0.bs b o e).1
  obtain ⟨ccl, cdd, vsc, ccs, file, tf, hcode, hvs, hfile⟩ := T.co
  obtain ⟨cl, cld, csl, hcell⟩ := T.cell
  obtain ⟨cdD, hD⟩ := T.cls
  refine ks_codeAny_call_defAt (fd := PySem.W.ksFn "__init__" qual (defArgs st) (defBody st) (defScope st) .none kV doc pm an (.ref cda) ct cc) (body := defBody st) (binds := ps.zip us) hr.depth (KX _ _ lk) rfl lim (PySem.W.codeRec_of KX T.cd) rfl hb S.nocell
    (fun y hy => S.loc y.1 (List.of_mem_zip hy).1) (fun h₀ hns hk => ?_) S.co S.gen S.kind
  -- the frame's state
  have eenv : callEnv (PySem.W.ksFn "__init__" qual (defArgs st) (defBody st) (defScope st) .none kV doc pm an (.ref cda) ct cc) s.heap.objs.size f = PySem.W.ksEnv qual (defScope st) s.heap.objs.size f (.ref cda) cc := rfl
  rw [eenv]
  have ccbase : ∃ o, base.get? cc = some o := ⟨_, e0.mod.kin _ _ hcell⟩
  obtain ⟨occ, hocc⟩ := ccbase
  have hus : us.length = ps.length := by rw [← r.length]; exact hl
  have cellL : ∀ y c, (PySem.W.ksEnv qual (defScope st) s.heap.objs.size f (.ref cda) cc).cells.lookup y = some c → y = "__class__" ∧ c = cc := fun y c e => by
    have e : List.lookup y [(("__class__" : Str), cc)] = some c := e
    by_cases hy : y = "__class__"
    · subst hy
      simp at e
      exact ⟨rfl, e.symm⟩
    · have hb' : (y == ("__class__" : Str)) = false := by simpa using hy
      simp [List.lookup, hb'] at e
  have hkeep0 : ∀ b o, s.heap.get? b = some o → h₀.get? b = some o := hk
  have I0 : Inv (IX P w K mg base N qual (defScope st) f cda cc A outer s H) [] (L2.start N (V.ref a :: ws)) H { s with heap := h₀, toks := s.toks + (ps.zip us).length } := by
    refine ⟨⟨e0.mod, S.kind, rfl, rfl, Nat.le_refl _, fun y z c h1 h2 => ?_, fun y hy => ?_, fun y c h _ => (Bool.false_ne_true h).elim, fun _ => hr.hd, Around.frames_deeper e0.frames, .inr ⟨rfl, rfl⟩, fun b z => absurd z (by simp), e0.bs, e0.bsz, fun b _ _ => by simp, fun b z => absurd z (by simp), e0.funs, e0.frf⟩,
      rfl, e0.bare, Un.kept hk, ⟨_, hns, fun i y v h1 h2 h3 => ?_⟩, fun y c h => ?_, e0.hok.fresh (Nat.le_refl _), fun y c h => ?_, fun p hp => absurd (show p ∈ ([] : List (Addr × Obj)) from hp) (by simp), e0.hok.kept hk, ?_⟩
    · exact (cellL y c h1).1.trans (cellL z c h2).1.symm
    · have hy : (defScope st).names.lookup y = some .cell ∨ (defScope st).names.lookup y = some .free := hy
      rcases hy with hy | hy
      · exact absurd rfl (S.nocell _ (PySem.mem_of_lookup hy))
      · have : y = "__class__" := S.free _ (PySem.mem_of_lookup hy) rfl
        subst this
        exact ⟨cc, by simp [PySem.W.ksEnv, PySem.W.envX]⟩
    · have hi : i < (V.ref a :: ws).length := by
        unfold L2.start at h2
        by_cases hi : i < (V.ref a :: ws).length
        · exact hi
        · rw [List.getElem?_append_right (by simpa using hi), List.getElem?_replicate] at h2
          split at h2 <;> cases h2
      have ha : (V.ref a :: ws)[i]? = some v := by
        unfold L2.start at h2
        rw [List.getElem?_append_left (by simpa using hi), List.getElem?_map] at h2
        cases e : (V.ref a :: ws)[i]? with
        | none => rw [e] at h2; cases h2
        | some a => rw [e] at h2; cases h2; rfl
      obtain ⟨u, hu, rv⟩ := r.get ha
      have hp : ps[i]? = some y := by rw [← S.eq]; exact h1
      have ndP : ps.Nodup := by rw [← S.eq]; exact S.nd
      refine ⟨u, rv, .inl ⟨S.loc y (List.mem_of_getElem? hp), ?_⟩⟩
      exact lookup_rev_zip ndP hp hu
    · obtain ⟨rfl, rfl⟩ := cellL y c h
      exact ⟨some (.ref D), _, hk _ _ (KX _ _ hcell), rfl⟩
    · obtain ⟨rfl, rfl⟩ := cellL y c h
      exact (e0.bs _ _ hocc).2
    · unfold L2.start
      show _ = N.length
      rw [List.length_append, List.length_map, List.length_replicate, hl, S.eq]
      omega
  rw [hst]
  refine ks_wpAt_execs_cons ?_
  -- super().__init__(m)
  obtain ⟨nmC, qC, NC, bsC, bmC, snC, subC, abC, colC, ddC, c0, c1, c2, c3, c5, hC, hbmC⟩ := IC.ox.cls
  have hself : (fun y => (ps.zip us).reverse.lookup y) x = some (.ref a) := by
    have h1 : ps[0]? = some x := by rw [← List.head?_eq_getElem?]; exact S.self
    have ndP : ps.Nodup := by rw [← S.eq]; exact S.nd
    obtain ⟨u, hu, ru⟩ := r.get (i := 0) (x := V.ref a) rfl
    cases ru
    exact lookup_rev_zip ndP h1 hu
  have hxl : (defScope st).names.lookup x = some .local := S.loc x (List.mem_of_mem_head? S.self)
  obtain ⟨gens0, drawn0, os0⟩ : ∃ a : Array GenState × Drawn × OsState, a = (s.gens, s.drawn, s.os) := ⟨_, rfl⟩
  have X0 : K.In h₀ := I0.kIn
  obtain ⟨t1, he⟩ := exo_at I0.hok ea
  have IA : PySem.W.InstAt h₀ a { cls := .ref C, dict := none, data := .fields #[.ref t1, .none, .none, .none, .bool false, .none] } C none := ⟨he, rfl, rfl, trivial⟩
  have hloadS : ∀ {Q' : Value → Shared → Prop} {E' : Value → Shared → Prop} {s' : Shared}, (∀ b o, h₀.get? b = some o → s'.heap.get? b = some o) → Q' (.type "super") s' → wpAny (model P w) (A.deeper (PySem.W.ksEnv qual (defScope st) s.heap.objs.size f (.ref cda) cc)) (loadName (PySem.W.ksEnv qual (defScope st) s.heap.objs.size f (.ref cda) cc) "super") Q' E' s' := fun {Q' E' s'} kk q => by
    obtain ⟨mb, b1, b2⟩ := e0.mod.blt
    have kb : ∀ b o, base.get? b = some o → s'.heap.get? b = some o := fun b o e => kk b o (hk b o (e0.bs b o e).1)
    exact PySem.W.ks_loadName_global S.kind S.sup (Calls.loadGlobal_builtin (env := PySem.W.ksEnv qual (defScope st) s.heap.objs.size f (.ref cda) cc) (e0.mod.glob.keeps kb) hms (b1.keeps kb) ((b2 "super" (by decide)).trans (by rfl)) q)
  obtain ⟨oD, hD1, hD2⟩ : ∃ oD, h₀.get? D = some oD ∧ oD.data = .cls cdD := by
    unfold PySem.W.clsIn at hD
    split at hD
    · rename_i c d cd' sl ho
      cases hD
      exact ⟨_, X0 _ _ ho, rfl⟩
    · cases hD
  obtain ⟨pl, hpl⟩ := hev s.heap.objs.size
  refine ks_wpAt_Expr_any (hs := hsw _) (hi := by simp [interactive, S.kind]) (ks_wpAt_MethodCall (pl := pl) (he := hpl) (ks_wpAt_super_base (env := PySem.W.ksEnv qual (defScope st) s.heap.objs.size f (.ref cda) cc) S.sup S.cls rfl rfl (X0 _ _ lk) rfl har rfl (X0 _ _ hcode) rfl hvs hfile T.top ?_))
  refine hloadS (fun b o e => e) ⟨rfl, ?_⟩
  refine wpAny_loadName_free S.kind S.cls rfl ⟨_, X0 _ _ hcell, rfl⟩ ?_
  rw [hax]
  refine wpAny_loadName_local S.kind hxl hns hself ?_
  refine ks_wpAny_isType_cls hD1 hD2 ⟨rfl, ?_⟩
  refine ks_wpAny_call_super hD1 hD2 he rfl (fun c e => by cases e) (PySem.W.looks_mroIn X0 IC.mro) (fun h1 e1 k1 => ?_)
  -- .__init__
  cases hc : PySem.W.clsIn K C with
  | none =>
    have hm := IC.sup
    unfold PySem.W.ks_superIn at hm; rw [hc] at hm; cases hm
  | some cd =>
    have hm := IC.sup
    unfold PySem.W.ks_superIn at hm
    rw [hc] at hm
    have X1 : K.In h1 := X0.keeps k1
    have IA1 : PySem.W.InstAt h1 a { cls := .ref C, dict := none, data := .fields #[.ref t1, .none, .none, .none, .bool false, .none] } C none := ⟨k1 _ _ he, rfl, rfl, trivial⟩
    refine PySem.W.kxs_getMethod PySem.W.kxs_ValueError e1 (PySem.W.looks_opaque X1 T.any) (l₀ := cd.mro) (fun A Q E s k q => wpAny_bind ((PySem.W.looks_clsIn X1 hc) A _ E s k (wpAny_pure q))) rfl X1 hm (IA1.type.andThen (PySem.W.looks_subIn X1 IC.ve)) (PySem.W.ks_ne X1 IA1 hc) (by decide) ?_
    -- the call
    have kmw : ∀ b o, h1.get? b = some o → (h1.push (PySem.W.kxs_mw "ValueError.__init__" a)).get? b = some o := fun b o e => Heap.get?_push_of_some _ e
    have hmw : (h1.push (PySem.W.kxs_mw "ValueError.__init__" a)).get? h1.objs.size = some (PySem.W.kxs_mw "ValueError.__init__" a) := Heap.get?_push_at rfl rfl
    refine PySem.W.kxs_callWith (i := "ValueError.__init__") (x := a) rfl ?_
    refine Calls.evalArgs_plain ?_
    refine Calls.spliced_cons (show wpAny _ _ (eval (.Constant (.str m) j p3) (PySem.W.ksEnv qual (defScope st) s.heap.objs.size f (.ref cda) cc)) _ _ _ from Calls.Constant_str (Calls.spliced_nil ⟨hmw, ?_⟩))
    refine call_mw (X1.keeps kmw _ _ hC) (kmw _ _ (k1 _ _ he)) hmw (by show 1 ≤ sizeLine; decide) (fun h5 t5 k5 e5 => ?_)
    have eu : upd H a (exo a C none) = H := by
      funext b
      by_cases hb : b = a
      · rw [hb, upd_same, ea]
      · rw [upd_ne hb]
    have J : ∀ t', Inv (IX P w K mg base N qual (defScope st) f cda cc A outer s H) [] (L2.start N (V.ref a :: ws)) H ⟨h5, s.gens, s.drawn, t', s.os⟩ := fun t' => by
      have J := I0.write (t' := t') (x := a) (e := a) (h' := h5) (o := exo a C none) (by rw [ea]; exact True.intro) (.inl rfl) (fun b o hb ho => k5 b o hb (kmw b o (k1 b o ho))) ⟨_, e5⟩ (exo_ok e5)
      rw [eu] at J
      exact J
    refine wpAt_of_wpAny (wpAny_mono ((hrest A outer s H).run [] _ _ H { nx := fun _ H' => Q .non H', rt := Q } (J _) hq) (fun fl s' hs => ?_) fun e s' z => z.elim)
    have fin : ∀ {σ' : L2.St} {H' : Hp} {v : V} {u : Value}, Inv (IX P w K mg base N qual (defScope st) f cda cc A outer s H) [] σ' H' s' → RelV v u → Q v H' → CE outer P w H s Q u s' :=
      fun {σ' H' v u} J rv q => ⟨v, H', J.os, J.bare, J.base, J.hok, rv, q⟩
    cases fl with
    | ret u =>
      obtain ⟨v, σ', H', J, rv, q⟩ := hs
      exact fin J rv q
    | next =>
      obtain ⟨σ', H', J, q⟩ := hs
      exact fin (v := V.non) (u := Value.none) J rfl q
    | brk =>
      obtain ⟨_, _, _, q⟩ := hs
      exact False.elim q
    | cont =>
      obtain ⟨_, _, _, q⟩ := hs
      exact False.elim q
end
end Bv

set_option maxHeartbeats 1000000
namespace Bv
open PySem PySem.Spec PyProof.Rows L2

/-! ### raise -/
def SX (X : Cx) (W : WX) (e : Expr) (m : M XV) : Prop := PMk X e (fun σ H Q => ∃ s f, SLR X.K H s σ f ∧ (∀ b, f b ≤ 1) ∧ (match m s with
  | .ok x s' => ∀ cls d H' f', XRep X.K X.mg H' x cls d → SLR X.K H' s' σ f' → (∀ b, f' b ≤ 1) → Frm H H' f f' → Q cls d H'
  | .exc x s' => XPost X W H f σ x s'
  | .bad => False))
def mRaise (m : M XV) : MS := fun s => (m s).out fun x s' => .exc x s'
theorem ss_raise {X : Cx} {W : WX} {pn : List Nat} {e : Expr} {m : M XV} {pos : Pos} (hc : X.calm = true) (tk : Takes X W) (he : SX X W e m) : SS X W pn (.Raise (some e) none pos) (mRaise m) :=
  PS.weaken' (ps_raise hc tk he) fun D σ H q => by
    obtain ⟨s, f, h1, h2, h3⟩ := q
    refine ⟨s, f, h1, h2, ?_⟩
    unfold mRaise at h3
    cases em : m s with
    | ok x s' => rw [em] at h3; exact fun cls d H' f' a b c e => h3 cls d σ H' f' (PinE.refl _ _) a b c e
    | exc x s' => rw [em] at h3; exact fun cls d H' f' a b c e => h3 cls d σ H' f' (PinE.refl _ _) a b c e
    | bad => rw [em] at h3; exact h3
def mMk (cls : Str) (flds : List Str) (ms : M (List PV)) : M XV := fun s => (ms s).bind fun xs s' => if xs.length = flds.length ∧ PV.owns xs = false then .ok ⟨cls, (flds.zip xs).reverse⟩ s' else .bad
/-- a class of the text that may be raised: its fields in the order of their stores -/
structure XB (P : Program) (w : World) (K : PySem.W.Frag) (mg : Str → Option Value) (base : Heap) (k : Nat) (x : Str) (flds : List Str) : Prop where
  ex : ∃ (C D fI : Addr) (fd : FuncData) (ps : List Str) (t : TS) (N : List Str), mg x = some (.ref C) ∧ IniC K C D ∧ PySem.W.findIn K (.ref C) "__init__" = some (some (.ref fI)) ∧ PySem.W.typeIn K (.ref fI) = some (.type "function") ∧ Binds K fd ps [] ∧ ps.length = flds.length + 1 ∧
    FnOk P w K mg base CX0 k fI fd ps (spIni K D ps.length t N) ∧
    ∀ (a : Addr) (ws : List V) (H : Hp) (Q : VK), ws.length = flds.length → H a = some (exo a C none) → (∀ d, H d = none → d ≠ a → Q .non (upd (upd H d (exd d ((flds.zip ws).reverse))) a (exo a C (some d)))) →
      t { nx := fun _ H' => Q .non H', rt := Q } (L2.start N (.ref a :: ws)) H
theorem repF_app {K : PySem.W.Frag} {H : Hp} : ∀ {l : List (Str × PV)} {m : List (Str × V)} {n : Str} {x : PV} {v : V}, RepF K H l m → Rep K H x v (fun _ => 0) → RepF K H (l ++ [(n, x)]) (m ++ [(n, v)])
  | [], m, n, x, v, h, r => by
    have h : m = [] := h
    subst h
    exact ⟨v, [], rfl, r, rfl⟩
  | (k, y) :: l, m, n, x, v, h, r => by
    obtain ⟨w, t, rfl, h1, h2⟩ := h
    exact ⟨w, t ++ [(n, v)], rfl, h1, repF_app h2 r⟩
theorem repF_zip {K : PySem.W.Frag} {H : Hp} : ∀ {fl : List Str} {xs : List PV} {vs : List V} {f : Fp}, xs.length = fl.length → Reps K H xs vs f → PV.owns xs = false → RepF K H (fl.zip xs).reverse (fl.zip vs).reverse
  | [], xs, vs, f, hl, r, n => rfl
  | n :: fl, [], vs, f, hl, r, h => by simp at hl
  | n :: fl, x :: xs, vs, f, hl, r, h => by
    obtain ⟨v, ws, g, k, rfl, r1, r2, _⟩ := r
    simp only [PV.owns, Bool.or_eq_false_iff] at h
    simp only [List.zip_cons_cons, List.reverse_cons]
    exact repF_app (repF_zip (by simpa using hl) r2 h.2) (r1.zero h.1)
theorem RepF.kept {K : PySem.W.Frag} {H H' : Hp} (k : ∀ b o, H b = some o → H' b = some o) : ∀ {l : List (Str × PV)} {m : List (Str × V)}, RepF K H l m → RepF K H' l m
  | [], m, h => h
  | (n, y) :: l, m, h => by
    obtain ⟨w, t, e, h1, h2⟩ := h
    exact ⟨w, t, e, h1.keptZ k, RepF.kept k h2⟩
theorem sx_mk {X : Cx} {W : WX} {x : Str} {e : Expr} {es : List Expr} {p pos : Pos} {flds : List Str} {ms : M (List PV)} {k : Nat} (B : XB X.prog X.w X.K X.mg X.base k x flds) (hr : Room (k + 1) X.A) (hg : Gl X x) (ha : SV X W (e :: es) ms) (hf : flds.length ≤ 900)
    (hdb : (x == ("__debug__" : Str)) = false := by decide) (he : starEach (e :: es) X.env = (false, eval e X.env) :: starEach es X.env := by rfl) (hpl : (backTo pos (starEach es X.env)).any (·.1) = false := by rfl) :
    SX X W (.Call (.Name x p) (e :: es) [] pos) (mMk x flds ms) := by
  obtain ⟨C, D, fI, fd, ps, t, N, hm, IC, iC, tI, hb, hl, F, rd⟩ := B.ex
  have base := pmk_oex (p := p) IC.ox iC tI F hr hb .nil (fun _ _ _ _ _ _ _ h => h.elim) hg hm ha hdb he hpl
  intro pins s σ H Q I q
  refine base pins s σ H Q I ?_
  obtain ⟨s0, f0, a1, a2, a3⟩ := q
  refine ⟨s0, f0, a1, a2, ?_⟩
  unfold mMk at a3
  cases em : ms s0 with
  | bad => rw [em] at a3; exact a3
  | exc y s' => rw [em] at a3; exact a3
  | ok xs s1 =>
    rw [em] at a3
    simp only [R.bind_ok] at a3
    intro vs H1 g f1 h1 h2 h3 h4
    by_cases hx : xs.length = flds.length ∧ PV.owns xs = false
    · rw [if_pos hx] at a3
      dsimp only at a3
      obtain ⟨hx1, hx2⟩ := hx
      have hvl : vs.length = flds.length := by rw [h1.length, hx1]
      refine ⟨by omega, fun a na => ?_⟩
      rw [List.append_nil]
      have ea : upd H1 a (exo a C none) a = some (exo a C none) := upd_same
      refine ⟨by rw [List.length_cons, hvl, hl], a, C, vs, rfl, IC, ea, rd a vs _ (fun v H2 => v = .non ∧ ∃ (d : Addr) (fs : List (Str × V)), H2 a = some (exo a C (some d)) ∧ H2 d = some (exd d fs) ∧ H1 d = none ∧ Q (.ref C) (some d) (upd (del H2 a) d (.xd fs))) hvl ea fun d nd hda => ⟨rfl, d, (flds.zip vs).reverse, upd_same, ?_, ?_, ?_⟩⟩
      · rw [upd_ne hda, upd_same]
      · rw [upd_ne hda] at nd; exact nd
      · have nd1 : H1 d = none := by rw [upd_ne hda] at nd; exact nd
        have kp : ∀ b o, H1 b = some o → (upd (del (upd (upd (upd H1 a (exo a C none)) d (exd d ((flds.zip vs).reverse))) a (exo a C (some d))) a) d (.xd ((flds.zip vs).reverse))) b = some o := fun b o e => by
          have h1 : b ≠ d := ne_of_none e nd1
          have h2 : b ≠ a := ne_of_none e na
          rw [upd_ne h1, del_ne h2, upd_ne h2, upd_ne h1, upd_ne h2]; exact e
        refine a3 (.ref C) (some d) _ f1 ⟨C, d, _, hm, rfl, rfl, upd_same, RepF.kept kp (repF_zip hx1 h1 hx2)⟩ (h2.keptZ kp) (fun b => by have := h3 b; omega) ⟨fun b o e z => kp b o (h4.keep b o e z), fun b o e z => by have : g b + f1 b = 0 := h4.own b o e z; omega⟩
    · rw [if_neg hx] at a3; exact a3.elim
section
variable {P : Program} {w : World} {K : PySem.W.Frag} {mg : Str → Option Value} {base : Heap}
/-- one field -/
theorem xb_one {x qual : Str} {st : Stmt} {f C D : Addr} {fd : FuncData} {cda cc : Addr} {sf p m fl : Str} {j : Nat} {p0 p1 p2 p3 p4 p5 q1 q2 q3 q4 : Pos} {ar : Arg}
    (T : IniT P K qual st f D fd cda cc) (S : IniS [sf, p] [sf, p] sf (defScope st)) (hst : defBody st = supSt m j p0 p1 p2 p3 p4 p5 :: [.Assign [.Attribute (.Name sf q1) fl q2] (.Name p q3) q4]) (har : ((defArgs st).posonlyargs ++ (defArgs st).args).head? = some ar) (hax : ar.arg = sf) (hms : mg "super" = none) (hm1 : m.length ≤ 1000)
    (hev : ∀ L, ∃ pl : Sem Bool, eval (.Call (.Attribute (.Call (.Name "super" p0) [] [] p1) "__init__" p2) [.Constant (.str m) j p3] [] p4) (PySem.W.ksEnv qual (defScope st) L f (.ref cda) cc) = (do
      let ov ← attributeBase (.Call (.Name "super" p0) [] [] p1) "__init__" (PySem.W.ksEnv qual (defScope st) L f (.ref cda) cc) (eval (.Call (.Name "super" p0) [] [] p1) (PySem.W.ksEnv qual (defScope st) L f (.ref cda) cc))
      standAt p2.atName
      let (g0, first) ← holding [ov] (getMethod ov "__init__" pl)
      callWith p4 g0 first (backTo p4 (starEach [.Constant (.str m) j p3] (PySem.W.ksEnv qual (defScope st) L f (.ref cda) cc))) []))
    (hsw : ∀ L, swapsWith (.Call (.Attribute (.Call (.Name "super" p0) [] [] p1) "__init__" p2) [.Constant (.str m) j p3] [] p4) none p5.line (PySem.W.ksEnv qual (defScope st) L f (.ref cda) cc) = pure false)
    (hsw2 : ∀ L, swapsWith (.Name p q3) (some (.Attribute (.Name sf q1) fl q2)) q4.line (PySem.W.ksEnv qual (defScope st) L f (.ref cda) cc) = pure false)
    (hd1 : (sf == ("__debug__" : Str)) = false) (hc1 : (sf == ("__classdict__" : Str)) = false) (hd2 : (p == ("__debug__" : Str)) = false) (hc2 : (p == ("__classdict__" : Str)) = false)
    (gx : mg x = some (.ref C)) (IC : IniC K C D) (iC : PySem.W.findIn K (.ref C) "__init__" = some (some (.ref f))) (tI : PySem.W.typeIn K (.ref f) = some (.type "function")) (bd : Binds K fd [sf, p] []) (nf : PySem.W.findIn K (.ref C) fl = some none) (k : Nat) :
    XB P w K mg base (k + 1) x [fl] := by
  refine ⟨C, D, f, fd, [sf, p], tOst K fl (tVar 0) (tVar 1), [sf, p], gx, IC, iC, tI, bd, rfl, ini_ok T S hst har hax hms hm1 hev hsw fun A outer s H => ?_, fun a ws H Q hl ea q => ?_⟩
  · exact pss_one (ps_ost (X := IX P w K mg base [sf, p] qual (defScope st) f cda cc A outer s H) (pe_var (i := 0) rfl (.inl (S.loc sf (by simp))) hd1 hc1) (pe_var (i := 1) rfl (.inl (S.loc p (by simp))) hd2 hc2) (hsw2 _))
  · match ws, hl with
    | [y], _ => exact ⟨y, rfl, .ref a, rfl, a, C, rfl, IC.ox, nf, .inl ⟨ea, fun d nd hda => q d nd hda⟩⟩
/-- two fields -/
theorem xb_two {x qual : Str} {st : Stmt} {f C D : Addr} {fd : FuncData} {cda cc : Addr} {sf p p' m fl fl' : Str} {j : Nat} {p0 p1 p2 p3 p4 p5 q1 q2 q3 q4 r1 r2 r3 r4 : Pos} {ar : Arg}
    (T : IniT P K qual st f D fd cda cc) (S : IniS [sf, p, p'] [sf, p, p'] sf (defScope st)) (hst : defBody st = supSt m j p0 p1 p2 p3 p4 p5 :: [.Assign [.Attribute (.Name sf q1) fl q2] (.Name p q3) q4, .Assign [.Attribute (.Name sf r1) fl' r2] (.Name p' r3) r4]) (har : ((defArgs st).posonlyargs ++ (defArgs st).args).head? = some ar) (hax : ar.arg = sf) (hms : mg "super" = none) (hm1 : m.length ≤ 1000)
    (hev : ∀ L, ∃ pl : Sem Bool, eval (.Call (.Attribute (.Call (.Name "super" p0) [] [] p1) "__init__" p2) [.Constant (.str m) j p3] [] p4) (PySem.W.ksEnv qual (defScope st) L f (.ref cda) cc) = (do
      let ov ← attributeBase (.Call (.Name "super" p0) [] [] p1) "__init__" (PySem.W.ksEnv qual (defScope st) L f (.ref cda) cc) (eval (.Call (.Name "super" p0) [] [] p1) (PySem.W.ksEnv qual (defScope st) L f (.ref cda) cc))
      standAt p2.atName
      let (g0, first) ← holding [ov] (getMethod ov "__init__" pl)
      callWith p4 g0 first (backTo p4 (starEach [.Constant (.str m) j p3] (PySem.W.ksEnv qual (defScope st) L f (.ref cda) cc))) []))
    (hsw : ∀ L, swapsWith (.Call (.Attribute (.Call (.Name "super" p0) [] [] p1) "__init__" p2) [.Constant (.str m) j p3] [] p4) none p5.line (PySem.W.ksEnv qual (defScope st) L f (.ref cda) cc) = pure false)
    (hsw2 : ∀ L, swapsWith (.Name p q3) (some (.Attribute (.Name sf q1) fl q2)) q4.line (PySem.W.ksEnv qual (defScope st) L f (.ref cda) cc) = pure false)
    (hsw3 : ∀ L, swapsWith (.Name p' r3) (some (.Attribute (.Name sf r1) fl' r2)) r4.line (PySem.W.ksEnv qual (defScope st) L f (.ref cda) cc) = pure false)
    (hd1 : (sf == ("__debug__" : Str)) = false) (hc1 : (sf == ("__classdict__" : Str)) = false) (hd2 : (p == ("__debug__" : Str)) = false) (hc2 : (p == ("__classdict__" : Str)) = false) (hd3 : (p' == ("__debug__" : Str)) = false) (hc3 : (p' == ("__classdict__" : Str)) = false)
    (gx : mg x = some (.ref C)) (IC : IniC K C D) (iC : PySem.W.findIn K (.ref C) "__init__" = some (some (.ref f))) (tI : PySem.W.typeIn K (.ref f) = some (.type "function")) (bd : Binds K fd [sf, p, p'] []) (nf : PySem.W.findIn K (.ref C) fl = some none) (nf' : PySem.W.findIn K (.ref C) fl' = some none) (k : Nat) :
    XB P w K mg base (k + 1) x [fl, fl'] := by
  refine ⟨C, D, f, fd, [sf, p, p'], tSeq (tOst K fl (tVar 0) (tVar 1)) (tOst K fl' (tVar 0) (tVar 2)), [sf, p, p'], gx, IC, iC, tI, bd, rfl, ini_ok T S hst har hax hms hm1 hev hsw fun A outer s H => ?_, fun a ws H Q hl ea q => ?_⟩
  · exact pss_cons (ps_ost (X := IX P w K mg base [sf, p, p'] qual (defScope st) f cda cc A outer s H) (pe_var (i := 0) rfl (.inl (S.loc sf (by simp))) hd1 hc1) (pe_var (i := 1) rfl (.inl (S.loc p (by simp))) hd2 hc2) (hsw2 _))
      (pss_one (ps_ost (X := IX P w K mg base [sf, p, p'] qual (defScope st) f cda cc A outer s H) (pe_var (i := 0) rfl (.inl (S.loc sf (by simp))) hd1 hc1) (pe_var (i := 2) rfl (.inl (S.loc p' (by simp))) hd3 hc3) (hsw3 _)))
  · match ws, hl with
    | [y, y'], _ =>
      refine ⟨y, rfl, .ref a, rfl, a, C, rfl, IC.ox, nf, .inl ⟨ea, fun d nd hda => ?_⟩⟩
      refine ⟨y', rfl, .ref a, rfl, a, C, rfl, IC.ox, nf', .inr ⟨d, [(fl, y)], upd_same, by rw [upd_ne hda, upd_same], (by show 1 ≤ 900; decide), ?_⟩⟩
      have e : upd (upd (upd H d (exd d [(fl, y)])) a (exo a C (some d))) d (exd d ((fl', y') :: [(fl, y)])) = upd (upd H d (exd d (([fl, fl'].zip [y, y']).reverse))) a (exo a C (some d)) := by
        funext b
        by_cases h1 : b = d
        · subst h1
          rw [upd_same, upd_ne hda, upd_same]
          rfl
        · rw [upd_ne h1]
          by_cases h2 : b = a
          · rw [h2, upd_same, upd_same]
          · rw [upd_ne h2, upd_ne h2, upd_ne h1, upd_ne h1]
      have := q d nd hda
      rw [← e] at this
      exact this
end
end Bv

set_option maxHeartbeats 1000000
namespace Bv
open PySem PySem.Spec PyProof.Rows L2

/-! ### the suites of except clauses: they only read, and return -/
def FS (Z : L2.St → Hp → Prop) : Prop := ∀ σ H H', Z σ H → (∀ b o, H b = some o → H' b = some o) → Z σ H'
def SU (Y : Cx) (Z : L2.St → Hp → Prop) (e : Expr) (p : Sl → Option PV) : Prop :=
  PE Y e (fun σ H Q => Z σ H ∧ ∃ s f y, SLR Y.K H s σ f ∧ p s = some y ∧ ∀ v H' g, Rep Y.K H' y v g → Fresh H H' g → Q v H')
def SUT (Y : Cx) (Z : L2.St → Hp → Prop) (e : Expr) (p : Sl → Option Bool) : Prop :=
  PT Y e (fun σ H Q => Z σ H ∧ ∃ s f y, SLR Y.K H s σ f ∧ p s = some y ∧ ∀ H', (∀ b o, H b = some o → H' b = some o) → Q y H')
def SUW (Y : Cx) (Z : L2.St → Hp → Prop) (e : Expr) (p : Sl → Option Bool) : Prop :=
  PW Y e (fun σ H Q => Z σ H ∧ ∃ s f y, SLR Y.K H s σ f ∧ p s = some y ∧ ∀ H', (∀ b o, H b = some o → H' b = some o) → Q y H')
theorem Fresh.z {H H' : Hp} (k : ∀ b o, H b = some o → H' b = some o) : Fresh H H' Z0 := ⟨k, fun b => Nat.zero_le _, fun b n => absurd rfl n⟩
/-- one behind another -/
theorem Fresh.go {H H1 H2 : Hp} {g : Fp} (k : ∀ b o, H b = some o → H1 b = some o) (f : Fresh H1 H2 g) : Fresh H H2 g :=
  ⟨fun b o e => f.keep b o (k b o e), f.le, fun b n => by
    have := f.new b n
    cases e : H b with
    | none => rfl
    | some o => rw [k b o e] at this; cases this⟩
def uC (x : PV) : Sl → Option PV := fun _ => some x
def uN (i : Nat) : Sl → Option PV := fun s => match s[i]?.join with | some x => if x.own then none else some x | none => none
def u1 (f : List PV → Option PV) (a : Sl → Option PV) : Sl → Option PV := fun s => match a s with | some x => f [x] | none => none
def u2 (f : List PV → Option PV) (a b : Sl → Option PV) : Sl → Option PV := fun s => match a s, b s with | some x, some y => f [x, y] | _, _ => none
def uAnd (a b : Sl → Option PV) : Sl → Option PV := fun s => match a s with | some (.bl true) => b s | some (.bl false) => some (.bl false) | _ => none
def uOr (a b : Sl → Option PV) : Sl → Option PV := fun s => match a s with | some (.bl false) => b s | some (.bl true) => some (.bl true) | _ => none
def uNot (a : Sl → Option PV) : Sl → Option PV := fun s => match a s with | some (.bl c) => some (.bl (!c)) | _ => none
def uT (a : Sl → Option PV) : Sl → Option Bool := fun s => match a s with | some (.bl c) => some c | _ => none
def utAnd (a b : Sl → Option Bool) : Sl → Option Bool := fun s => match a s with | some true => b s | some false => some false | none => none
def utOr (a b : Sl → Option Bool) : Sl → Option Bool := fun s => match a s with | some false => b s | some true => some true | none => none
def utNot (a : Sl → Option Bool) : Sl → Option Bool := fun s => match a s with | some c => some (!c) | _ => none
section
variable {Y : Cx} {Z : L2.St → Hp → Prop} {e a b c : Expr} {rest : List Expr} {pos : Pos} {p q : Sl → Option PV}
theorem su_C {x : PV} {v : V} (h : PE Y e (tC v)) (r : ∀ H, Rep Y.K H x v Z0) : SU Y Z e (uC x) := PE.weaken h fun σ H Q ⟨_, s, f, y, _, hy, k⟩ => by
  cases (Option.some.inj hy)
  exact k v H Z0 (r H) (fr0 H)
theorem su_N (i : Nat) {x : Str} (h : PE Y (.Name x pos) (tVar i)) : SU Y Z (.Name x pos) (uN i) := PE.weaken h fun σ H Q ⟨_, s, f, y, hs, hy, k⟩ => by
  unfold uN at hy
  cases e1 : s[i]? with
  | none => rw [e1] at hy; cases hy
  | some o =>
    rw [e1] at hy
    cases o with
    | none => cases hy
    | some x' =>
      simp only [Option.join] at hy
      split at hy
      · rename_i z hz
        cases hz
        split at hy
        · cases hy
        · rename_i n
          cases hy
          obtain ⟨v, g, l, k1, k2, k3, k4⟩ := hs.take e1
          exact ⟨v, k1, k v H Z0 (k2.zero (by simpa using n)) (fr0 H)⟩
      · cases hy
theorem su_t1 {t : TE → TE} {r : V → Hp → VK → Prop} {f : List PV → Option PV} (hp : ∀ {ta : TE}, PE Y a ta → PE Y e (fun σ H Q => ta σ H fun x H1 => r x H1 Q)) (vo : VOp Y.K f (r1L r)) (ha : SU Y Z a p) : SU Y Z e (u1 f p) :=
  PE.weaken (hp ha) fun σ H Q ⟨z, s, fp, y, hs, hy, k⟩ => by
    unfold u1 at hy
    cases e1 : p s with
    | none => rw [e1] at hy; cases hy
    | some x =>
      rw [e1] at hy
      refine ⟨z, s, fp, x, hs, e1, fun v H1 g h1 h2 => ?_⟩
      obtain ⟨v', e, q⟩ := vo H1 [x] [v] y Q ⟨v, [], g, rfl, h1, rfl⟩ hy fun v2 H2 g2 r2 f2 => k v2 H2 g2 r2 (f2.go h2.keep)
      cases e
      exact q
theorem su_t2 {r : R2} {f : List PV → Option PV} (hz : FS Z) (hp : ∀ {ta tb : TE}, PE Y a ta → PE Y b tb → PE Y e (tOp r ta tb)) (vo : VOp Y.K f (r2L r)) (ha : SU Y Z a p) (hb : SU Y Z b q) : SU Y Z e (u2 f p q) :=
  PE.weaken (hp ha hb) fun σ H Q ⟨z, s, fp, y, hs, hy, k⟩ => by
    unfold u2 at hy
    cases e1 : p s with
    | none => rw [e1] at hy; cases hy
    | some x =>
      cases e2 : q s with
      | none => rw [e1, e2] at hy; cases hy
      | some x2 =>
        rw [e1, e2] at hy
        refine ⟨z, s, fp, x, hs, e1, fun v H1 g h1 h2 => ?_⟩
        refine ⟨hz _ _ _ z h2.keep, s, fp, x2, hs.keptZ h2.keep, e2, fun v2 H2 g2 h3 h4 => ?_⟩
        obtain ⟨x', y', e, q⟩ := vo H2 [x, x2] [v, v2] y Q ⟨v, [v2], g, rfl, h1.keptZ h4.keep, v2, [], g2, rfl, h3, rfl⟩ hy fun v3 H3 g3 r3 f3 => k v3 H3 g3 r3 ((f3.go h4.keep).go h2.keep)
        cases e
        exact q
theorem su_cmp {op : CmpOp} {r : R2} {f : List PV → Option PV} (hz : FS Z) (ho : OpR Y (compareOp op) r) (vo : VOp Y.K f (r2L r)) (ha : SU Y Z a p) (hb : SU Y Z b q) (hm : behindInMarks op b = false) : SU Y Z (.Compare a [op] [b] pos) (u2 f p q) :=
  su_t2 hz (fun ha hb => pe_cmpR ho ha hb hm) vo ha hb
theorem su_one {op : BoolOp} (h : SU Y Z a p) : SU Y Z (.BoolOp op [a] pos) p := pe_one h
theorem su_and (hz : FS Z) (h : SU Y Z a p) (hb : SU Y Z (.BoolOp .And (b :: rest) pos) q) : SU Y Z (.BoolOp .And (a :: b :: rest) pos) (uAnd p q) := PE.weaken (pe_and h hb) fun σ H Q ⟨z, s, fp, y, hs, hy, k⟩ => by
  unfold uAnd at hy
  split at hy
  · rename_i e1
    exact ⟨z, s, fp, _, hs, e1, fun v H1 g h1 h2 => ⟨true, h1.1, hz _ _ _ z h2.keep, s, fp, y, hs.keptZ h2.keep, hy, fun v2 H2 g2 r2 f2 => k v2 H2 g2 r2 (f2.go h2.keep)⟩⟩
  · rename_i e1
    cases hy
    exact ⟨z, s, fp, _, hs, e1, fun v H1 g h1 h2 => ⟨false, h1.1, k _ H1 Z0 rep_bl (Fresh.z h2.keep)⟩⟩
  · cases hy
theorem su_or (hz : FS Z) (h : SU Y Z a p) (hb : SU Y Z (.BoolOp .Or (b :: rest) pos) q) : SU Y Z (.BoolOp .Or (a :: b :: rest) pos) (uOr p q) := PE.weaken (pe_or h hb) fun σ H Q ⟨z, s, fp, y, hs, hy, k⟩ => by
  unfold uOr at hy
  split at hy
  · rename_i e1
    exact ⟨z, s, fp, _, hs, e1, fun v H1 g h1 h2 => ⟨false, h1.1, hz _ _ _ z h2.keep, s, fp, y, hs.keptZ h2.keep, hy, fun v2 H2 g2 r2 f2 => k v2 H2 g2 r2 (f2.go h2.keep)⟩⟩
  · rename_i e1
    cases hy
    exact ⟨z, s, fp, _, hs, e1, fun v H1 g h1 h2 => ⟨true, h1.1, k _ H1 Z0 rep_bl (Fresh.z h2.keep)⟩⟩
  · cases hy
theorem su_not (h : SU Y Z a p) : SU Y Z (.UnaryOp .Not a pos) (uNot p) := PE.weaken (pe_not h) fun σ H Q ⟨z, s, fp, y, hs, hy, k⟩ => by
  unfold uNot at hy
  split at hy
  · rename_i c e1
    cases hy
    exact ⟨z, s, fp, _, hs, e1, fun v H1 g h1 h2 => ⟨c, h1.1, k _ H1 Z0 rep_bl (Fresh.z h2.keep)⟩⟩
  · cases hy
theorem su_test (h : SU Y Z e p) (he : ∀ whole, isTrue e Y.env whole = (do let v ← whole; standAt e.pos; holding [v] (truthy v)) := by intro _; rfl) : SUT Y Z e (uT p) := PT.weaken (pt_val h he) fun σ H Q ⟨z, s, fp, y, hs, hy, k⟩ => by
  unfold uT at hy
  split at hy
  · rename_i c e1
    cases hy
    exact ⟨z, s, fp, _, hs, e1, fun v H1 g h1 h2 => ⟨y, h1.1, k H1 h2.keep⟩⟩
  · cases hy
theorem sut_cmp {op : CmpOp} {r : R2} {f : List PV → Option PV} (hz : FS Z) (ho : OpR Y (compareOp op) r) (vo : VOp Y.K f (r2L r)) (ha : SU Y Z a p) (hb : SU Y Z b q) (hm : behindInMarks op b = false) : SUT Y Z (.Compare a [op] [b] pos) (uT (u2 f p q)) :=
  PT.weaken (pt_cmpR ho ha hb hm) fun σ H Q ⟨z, s, fp, y, hs, hy, k⟩ => by
    unfold uT u2 at hy
    cases e1 : p s with
    | none => rw [e1] at hy; cases hy
    | some x =>
      cases e2 : q s with
      | none => rw [e1, e2] at hy; cases hy
      | some x2 =>
        rw [e1, e2] at hy
        dsimp only at hy
        split at hy
        · rename_i c e3
          cases hy
          refine ⟨z, s, fp, x, hs, e1, fun v H1 g h1 h2 => ?_⟩
          refine ⟨hz _ _ _ z h2.keep, s, fp, x2, hs.keptZ h2.keep, e2, fun v2 H2 g2 h3 h4 => ?_⟩
          obtain ⟨x', y', e, q⟩ := vo H2 [x, x2] [v, v2] (.bl y) (fun x H1 => ∃ c, x = .bl c ∧ Q c H1) ⟨v, [v2], g, rfl, h1.keptZ h4.keep, v2, [], g2, rfl, h3, rfl⟩ e3 fun v3 H3 g3 r3 f3 => ⟨y, r3.1, k H3 fun b o e => f3.keep b o (h4.keep b o (h2.keep b o e))⟩
          cases e
          exact q
        · cases hy
variable {p' q' : Sl → Option Bool}
theorem suw_and1 (h : SUT Y Z a p') : SUW Y Z (.BoolOp .And [a] pos) p' := pw_and1 h
theorem suw_or1 (h : SUT Y Z a p') : SUW Y Z (.BoolOp .Or [a] pos) p' := pw_or1 h
theorem suw_and (hz : FS Z) (h : SUT Y Z a p') (hb : SUW Y Z (.BoolOp .And (b :: rest) pos) q') : SUW Y Z (.BoolOp .And (a :: b :: rest) pos) (utAnd p' q') := PW.weaken (pw_and h hb) fun σ H Q ⟨z, s, fp, y, hs, hy, k⟩ => by
  unfold utAnd at hy
  split at hy
  · rename_i e1
    refine ⟨z, s, fp, _, hs, e1, fun H1 h2 => ?_⟩
    refine iteT ?_
    exact ⟨hz _ _ _ z h2, s, fp, y, hs.keptZ h2, hy, fun H2 h3 => k H2 fun b o e => h3 b o (h2 b o e)⟩
  · rename_i e1
    cases hy
    refine ⟨z, s, fp, _, hs, e1, fun H1 h2 => ?_⟩
    refine iteF ?_
    exact k H1 h2
  · cases hy
theorem suw_or (hz : FS Z) (h : SUT Y Z a p') (hb : SUW Y Z (.BoolOp .Or (b :: rest) pos) q') : SUW Y Z (.BoolOp .Or (a :: b :: rest) pos) (utOr p' q') := PW.weaken (pw_or h hb) fun σ H Q ⟨z, s, fp, y, hs, hy, k⟩ => by
  unfold utOr at hy
  split at hy
  · rename_i e1
    refine ⟨z, s, fp, _, hs, e1, fun H1 h2 => ?_⟩
    refine iteF ?_
    exact ⟨hz _ _ _ z h2, s, fp, y, hs.keptZ h2, hy, fun H2 h3 => k H2 fun b o e => h3 b o (h2 b o e)⟩
  · rename_i e1
    cases hy
    refine ⟨z, s, fp, _, hs, e1, fun H1 h2 => ?_⟩
    refine iteT ?_
    exact k H1 h2
  · cases hy
theorem sut_bool (h : SUW Y Z e p') : SUT Y Z e p' := h.pt
theorem sut_not (h : SUT Y Z a p') : SUT Y Z (.UnaryOp .Not a pos) (utNot p') := PT.weaken (pt_not h) fun σ H Q ⟨z, s, fp, y, hs, hy, k⟩ => by
  unfold utNot at hy
  split at hy
  · rename_i c e1
    cases hy
    exact ⟨z, s, fp, _, hs, e1, fun H1 h2 => k H1 h2⟩
  · cases hy
/-- rows -/
def SUs (Y : Cx) (Z : L2.St → Hp → Prop) (es : List Expr) (p : Sl → Option (List PV)) : Prop :=
  PA Y es (fun σ H Q => Z σ H ∧ ∃ s f ys, SLR Y.K H s σ f ∧ p s = some ys ∧ ∀ vs H' g, Reps Y.K H' ys vs g → Fresh H H' g → Q vs H')
def uNil : Sl → Option (List PV) := fun _ => some []
def uCons (a : Sl → Option PV) (r : Sl → Option (List PV)) : Sl → Option (List PV) := fun s => match a s, r s with | some x, some xs => some (x :: xs) | _, _ => none
theorem sus_nil : SUs Y Z [] uNil := PA.weaken pa_nil fun σ H Q ⟨_, s, f, y, _, hy, k⟩ => by
  cases (Option.some.inj hy)
  exact k [] H Z0 ⟨rfl, fun _ => rfl⟩ (fr0 H)
theorem sus_cons {es : List Expr} {r : Sl → Option (List PV)} (hz : FS Z) (h : SU Y Z e p) (hs : SUs Y Z es r) (hst : starEach (e :: es) Y.env = (false, eval e Y.env) :: starEach es Y.env := by rfl) : SUs Y Z (e :: es) (uCons p r) :=
  PA.weaken (pa_cons h hs hst) fun σ H Q ⟨z, s, fp, y, hsl, hy, k⟩ => by
    unfold uCons at hy
    cases e1 : p s with
    | none => rw [e1] at hy; cases hy
    | some x =>
      cases e2 : r s with
      | none => rw [e1, e2] at hy; cases hy
      | some xs =>
        rw [e1, e2] at hy
        cases hy
        refine ⟨z, s, fp, x, hsl, e1, fun v H1 g h1 h2 => ?_⟩
        refine ⟨hz _ _ _ z h2.keep, s, fp, xs, hsl.keptZ h2.keep, e2, fun vs H2 g2 h3 h4 => ?_⟩
        refine k (v :: vs) H2 (fun b => g b + g2 b) ⟨v, vs, g, g2, rfl, h1.keptZ h4.keep, h3, fun _ => rfl⟩ ⟨fun b o e => h4.keep b o (h2.keep b o e), fun b => ?_, fun b n => ?_⟩
        · by_cases hb : g2 b = 0
          · have := h2.le b; show g b + g2 b ≤ 1; omega
          · have n1 := h4.new b hb
            have : g b = 0 := by
              refine Classical.byContradiction fun c => ?_
              obtain ⟨o, ho, _⟩ := h1.mut c
              rw [n1] at ho; cases ho
            have := h4.le b
            show g b + g2 b ≤ 1
            omega
        · by_cases hb : g b = 0
          · exact (h4.go h2.keep).new b (by omega)
          · exact h2.new b hb
def uTup (r : Sl → Option (List PV)) : Sl → Option PV := fun s => match r s with | some xs => if xs.length ≤ LIM then some (.tup xs) else none | none => none
def uLst (r : Sl → Option (List PV)) : Sl → Option PV := fun s => match r s with | some xs => if xs.length ≤ LIM then some (.lst true xs) else none | none => none
theorem su_tup {es : List Expr} {r : Sl → Option (List PV)} {x1} (h : SUs Y Z es r) : SU Y Z (.Tuple es x1 pos) (uTup r) := PE.weaken (pe_tup h) fun σ H Q ⟨z, s, fp, y, hsl, hy, k⟩ => by
  unfold uTup at hy
  cases e1 : r s with
  | none => rw [e1] at hy; cases hy
  | some xs =>
    rw [e1] at hy
    dsimp only at hy
    split at hy
    · rename_i hl
      cases hy
      refine ⟨z, s, fp, xs, hsl, e1, fun vs H1 g h1 h2 => ⟨by rw [h1.length, lim_eq]; exact hl, fun pp np => ?_⟩⟩
      have kk := keep_upd (o := .tup vs) np
      exact k (.ref pp) _ g ⟨pp, vs, rfl, SqT.of upd_same, by rw [lim_eq]; exact hl, h1.keptZ kk⟩ ⟨fun b o e => kk b o (h2.keep b o e), h2.le, h2.new⟩
    · cases hy
theorem su_lst {es : List Expr} {r : Sl → Option (List PV)} (h : SUs Y Z es r) : SU Y Z (.List es pos) (uLst r) := PE.weaken (pe_lst h) fun σ H Q ⟨z, s, fp, y, hsl, hy, k⟩ => by
  unfold uLst at hy
  cases e1 : r s with
  | none => rw [e1] at hy; cases hy
  | some xs =>
    rw [e1] at hy
    dsimp only at hy
    split at hy
    · rename_i hl
      cases hy
      refine ⟨z, s, fp, xs, hsl, e1, fun vs H1 g h1 h2 => ⟨by rw [h1.length, lim_eq]; exact hl, fun pp np => ?_⟩⟩
      have kk := keep_upd (o := .lst vs) np
      have gp : g pp = 0 := live_reps h1 np
      refine k (.ref pp) _ (fun b => g b + one pp b) ⟨pp, vs, g, rfl, upd_same, by rw [lim_eq]; exact hl, h1.keptZ kk, fun _ => rfl⟩ ⟨fun b o e => kk b o (h2.keep b o e), fun b => ?_, fun b n => ?_⟩
      · by_cases hb : b = pp
        · subst hb; rw [one_self]; omega
        · rw [one_ne hb]; exact h2.le b
      · by_cases hb : b = pp
        · subst hb
          cases e : H b with
          | none => rfl
          | some o => rw [h2.keep b o e] at np; cases np
        · rw [one_ne hb] at n; exact h2.new b (by omega)
    · cases hy
end
/-! ### its statements -/
inductive UO where
  | ret (y : PV)
  | nx
  | bad
def rdU (Y : Cx) (Z : L2.St → Hp → Prop) (m : Sl → UO) : TS := fun D σ H => Z σ H ∧ ∃ s f, SLR Y.K H s σ f ∧ (∀ b, f b ≤ 1) ∧ (match m s with
  | .ret y => ∀ v H' g, Rep Y.K H' y v g → Fresh H H' g → D.rt v H'
  | .nx => ∀ H', (∀ b o, H b = some o → H' b = some o) → D.nx σ H'
  | .bad => False)
def US (Y : Cx) (Z : L2.St → Hp → Prop) (st : Stmt) (m : Sl → UO) : Prop := PS Y st (rdU Y Z m)
def USs (Y : Cx) (Z : L2.St → Hp → Prop) (st : List Stmt) (m : Sl → UO) : Prop := PSs Y st (rdU Y Z m)
def uRet (p : Sl → Option PV) : Sl → UO := fun s => match p s with | some y => .ret y | none => .bad
def uIf (c : Sl → Option Bool) (a b : Sl → UO) : Sl → UO := fun s => match c s with | some true => a s | some false => b s | none => .bad
def uNx : Sl → UO := fun _ => .nx
def uSeq (a b : Sl → UO) : Sl → UO := fun s => match a s with | .nx => b s | o => o
section
variable {Y : Cx} {Z : L2.St → Hp → Prop} {e c : Expr} {pos : Pos}
theorem us_ret {p : Sl → Option PV} (h : SU Y Z e p) : US Y Z (.Return (some e) pos) (uRet p) := PS.weaken' (ps_ret h) fun D σ H ⟨z, s, f, hs, le, q⟩ => by
  unfold uRet at q
  cases e1 : p s with
  | none => rw [e1] at q; exact q.elim
  | some y => rw [e1] at q; exact ⟨z, s, f, y, hs, e1, q⟩
theorem uss_nil : USs Y Z [] uNx := PSs.weaken' pss_nil fun D σ H ⟨z, s, f, hs, le, q⟩ => q H fun _ _ e => e
theorem uss_one {st : Stmt} {m : Sl → UO} (h : US Y Z st m) : USs Y Z [st] m := pss_one h
theorem uss_cons {st : Stmt} {rest : List Stmt} {m n : Sl → UO} (hz : FS Z) (h : US Y Z st m) (hr : USs Y Z rest n) : USs Y Z (st :: rest) (uSeq m n) := PSs.weaken' (pss_cons h hr) fun D σ H ⟨z, s, f, hs, le, q⟩ => by
  unfold uSeq at q
  refine ⟨z, s, f, hs, le, ?_⟩
  cases e1 : m s with
  | ret y => rw [e1] at q; exact q
  | bad => rw [e1] at q; exact q.elim
  | nx =>
    rw [e1] at q
    intro H' k
    refine ⟨hz _ _ _ z k, s, f, hs.keptZ k, le, ?_⟩
    dsimp only at q
    cases e2 : n s with
    | ret y => rw [e2] at q; exact fun v H2 g r fr => q v H2 g r (fr.go k)
    | nx => rw [e2] at q; exact fun H2 k2 => q H2 fun b o e => k2 b o (k b o e)
    | bad => rw [e2] at q; exact q.elim
theorem us_if {a b : List Stmt} {pc : Sl → Option Bool} {m n : Sl → UO} (hz : FS Z) (hc : SUT Y Z c pc) (ha : USs Y Z a m) (hb : USs Y Z b n) : US Y Z (.If c a b pos) (uIf pc m n) := PS.weaken' (ps_if hc ha hb) fun D σ H ⟨z, s, f, hs, le, q⟩ => by
  unfold uIf at q
  cases e1 : pc s with
  | none => rw [e1] at q; exact q.elim
  | some d =>
    rw [e1] at q
    refine ⟨z, s, f, d, hs, e1, fun H' k => ?_⟩
    cases d with
    | true =>
      refine iteT ?_
      refine ⟨hz _ _ _ z k, s, f, hs.keptZ k, le, ?_⟩
      dsimp only at q
      cases e2 : m s with
      | ret y => rw [e2] at q; exact fun v H2 g r fr => q v H2 g r (fr.go k)
      | nx => rw [e2] at q; exact fun H2 k2 => q H2 fun b o e => k2 b o (k b o e)
      | bad => rw [e2] at q; exact q.elim
    | false =>
      refine iteF ?_
      refine ⟨hz _ _ _ z k, s, f, hs.keptZ k, le, ?_⟩
      dsimp only at q
      cases e2 : n s with
      | ret y => rw [e2] at q; exact fun v H2 g r fr => q v H2 g r (fr.go k)
      | nx => rw [e2] at q; exact fun H2 k2 => q H2 fun b o e => k2 b o (k b o e)
      | bad => rw [e2] at q; exact q.elim
end
/-! ### the caught exception -/
/-- slot i holds it, its fields stand -/
def ZE (K : PySem.W.Frag) (i : Nat) (a dd : Addr) (fs : List (Str × PV)) : L2.St → Hp → Prop := fun σ H => σ[i]? = some (some (.ref a)) ∧ ∃ ws, H dd = some (.xd ws) ∧ RepF K H fs ws
theorem ze_fs {K : PySem.W.Frag} {i : Nat} {a dd : Addr} {fs : List (Str × PV)} : FS (ZE K i a dd fs) := fun σ H H' ⟨h1, ws, h2, h3⟩ k => ⟨h1, ws, k _ _ h2, RepF.kept k h3⟩
def ZT : L2.St → Hp → Prop := fun _ _ => True
theorem zt_fs : FS ZT := fun _ _ _ _ _ => trivial
theorem repF_lookup {K : PySem.W.Frag} {H : Hp} {n : Str} {y : PV} : ∀ {fs : List (Str × PV)} {ws : List (Str × V)}, RepF K H fs ws → fs.lookup n = some y → ∃ v, ws.lookup n = some v ∧ Rep K H y v (fun _ => 0)
  | [], ws, r, h => by simp at h
  | (m, x) :: fs, ws, r, h => by
    obtain ⟨v, t, rfl, h1, h2⟩ := r
    simp only [List.lookup] at h ⊢
    cases hb : (n == m) with
    | true => rw [hb] at h; cases h; exact ⟨v, rfl, h1⟩
    | false => rw [hb] at h; exact repF_lookup h2 h
section
variable {X : Cx} {a C dd : Addr} {oe : Obj} {pn : List (Addr × Obj)} {i : Nat} {fs : List (Str × PV)} {pos p p2 : Pos} {x : Str}
/-- err.f -/
theorem su_xf {n : Str} (T : XfC X.K C) (hno : PySem.W.findIn X.K (.ref C) n = some none) (hz : Zc (.ref C) (some dd) oe) (hf : ∃ vs, oe.data = .fields vs) (he : PE (X.suite a ((a, oe) :: pn)) (.Name x p) (tVar i))
    (hb : attributeBase (.Name x p) n X.env (eval (.Name x p) X.env) = eval (.Name x p) X.env := by rfl) : SU (X.suite a ((a, oe) :: pn)) (ZE X.K i a dd fs) (.Attribute (.Name x p) n pos) (fun _ => fs.lookup n) :=
  PE.weaken (pe_xf T hno hz hf he hb) fun σ H Q ⟨⟨h1, ws, h2, h3⟩, s, f, y, hs, hy, k⟩ => by
    obtain ⟨v, l, r⟩ := repF_lookup h3 hy
    exact ⟨.ref a, h1, rfl, rfl, dd, ws, v, rfl, h2, l, k v H Z0 r (fr0 H)⟩
/-- isinstance(err, c) -/
def rIsX (K : PySem.W.Frag) (D a dd : Addr) : List V → Hp → VK → Prop := fun xs H Q => ∃ (c : V) (cv : Value) (b : Bool) (ws : List (Str × V)), xs = [.ref a, c] ∧ (∀ u, RelV c u → u = cv) ∧ PySem.W.kitOne K (.ref D) cv = some b ∧ H dd = some (.xd ws) ∧ Q (.bl b) H
theorem call_isX (T : L2.ExcC X.K C) (hz : Zc (.ref C) (some dd) oe) (hf : ∃ vs, oe.data = .fields vs) : CallR (X.suite a ((a, oe) :: pn)) (.builtin "isinstance") (rIsX X.K C a dd) := by
  intro pins s σ H xs us Q I r h
  obtain ⟨c, cv, b, ws, rfl, hcv, e, hd, q⟩ := h
  cases r with
  | cons rx rr =>
    cases rr with
    | cons rt rr =>
      cases rr
      cases rx
      have ec := hcv _ rt
      subst ec
      obtain ⟨hget, _⟩ := I.pin (a, oe) (List.mem_append.mpr (.inl List.mem_cons_self))
      obtain ⟨vs, hv⟩ := hf
      obtain ⟨mA, hns, hr⟩ := (show ObjOk X.prog X.w H s.heap dd (.xd ws) from I.hok dd _ hd)
      obtain ⟨od, ho, hl⟩ := lookIn_ns hns
      have J : PySem.W.InstAt s.heap a oe C (some od) := ⟨hget, hz.1, by unfold PySem.W.notCls; rw [hv] <;> rfl, by rw [hz.2]; exact ho⟩
      obtain ⟨cd, hc, _⟩ := PySem.W.any_some T.hd
      exact PySem.W.kia_one (PySem.W.kitx_exc (by rw [hc]; rfl) T.hg T.hk T.hs T.ha T.hn T.ht T.hm) I.kIn J e (fun z => nomatch z) fun tk => ⟨.bl b, H, I.kept (t' := tk) fun _ _ z => z, rfl, q⟩
theorem su_isX {c : Expr} {cV : V} {cv : Value} {b : Bool} (T : L2.ExcC X.K C) (hz : Zc (.ref C) (some dd) oe) (hf : ∃ vs, oe.data = .fields vs) (he : PE (X.suite a ((a, oe) :: pn)) (.Name x p) (tVar i)) (hg : Gl X "isinstance") (hm : X.mg "isinstance" = none)
    (hc : PE (X.suite a ((a, oe) :: pn)) c (tC cV)) (hcv : ∀ u, RelV cV u → u = cv) (hk : PySem.W.kitOne X.K (.ref C) cv = some b)
    (e1 : starEach [.Name x p, c] X.env = (false, eval (.Name x p) X.env) :: starEach [c] X.env := by rfl) (e2 : (backTo pos (starEach [c] X.env)).any (·.1) = false := by rfl) (e3 : starEach [c] X.env = (false, eval c X.env) :: starEach [] X.env := by rfl) :
    SU (X.suite a ((a, oe) :: pn)) (ZE X.K i a dd fs) (.Call (.Name "isinstance" p2) [.Name x p, c] [] pos) (uC (.bl b)) :=
  PE.weaken (pe_callB (call_isX T hz hf) hg hm (by decide +kernel) (pa_cons he (pa_cons hc pa_nil e3) e1) (by decide) (by decide) e1 e2) fun σ H Q ⟨⟨h1, ws, h2, h3⟩, s, f, y, hs, hy, k⟩ => by
    cases (Option.some.inj hy)
    exact ⟨.ref a, h1, cV, cv, b, ws, rfl, hcv, hk, h2, k _ H Z0 rep_bl (fr0 H)⟩
end
/-! ### try -/
def mTry (cat : XV → Option Bool) (i : Nat) (b : MS) (h : XV → Sl → UO) : MS := fun s => match b s with
  | .exc x s' => match cat x with
    | some true => if i < s'.length then (match h x (s'.set i none) with
      | .ret y => .rt y (s'.set i none)
      | .nx => .nx (s'.set i none)
      | .bad => .bad) else .bad
    | some false => .exc x s'
    | none => .bad
  | o => o
def mTryO (cat : XV → Option Bool) (b : MS) (h : XV → Sl → UO) : MS := fun s => match b s with
  | .exc x s' => match cat x with
    | some true => (match h x s' with
      | .ret y => .rt y s'
      | .nx => .nx s'
      | .bad => .bad)
    | some false => .exc x s'
    | none => .bad
  | o => o
section
variable {X : Cx} {W : WX} {pn : List Nat} {x n : Str} {c : Value} {body suite : List Stmt} {b₀ : Stmt} {np pos pos' : Pos} {b : MS} {cat : XV → Option Bool} {h : XV → Sl → UO}
/-- what was not caught goes on as it was -/
theorem op_other {Y : Cx} {W' : WX} {D : Ends} {H : Hp} {f : Fp} {σ : L2.St} {o : Out} (hK : Y.K = X.K) (q : OP X W pn D H f σ o) (hx : ∀ y s', o ≠ .exc y s') : OP Y W' pn D H f σ o := by
  cases o with
  | exc y s' => exact absurd rfl (hx y s')
  | nx s' => unfold OP SEnd at q ⊢; rw [hK]; exact q
  | rt x s' => unfold OP at q ⊢; rw [hK]; exact q
  | bk s' => unfold OP SEnd at q ⊢; rw [hK]; exact q
  | ct s' => unfold OP SEnd at q ⊢; rw [hK]; exact q
  | bad => exact q
theorem ss_try (i : Nat) (hs : X.stack = X.env :: X.outer) (hf : X.env.frame = some X.env.locals) (hN : X.N.Nodup) (hi : X.N[i]? = some n) (hln : X.env.kindOf n = some .local) (hc : Names X x c) (tk : Takes X W) (hpi : ∀ j ∈ pn, j ∉ [i])
    (hcat : ∀ (y : XV) (C : Addr) (r : Bool), cat y = some r → X.mg y.cls = some (.ref C) → PySem.W.exmOne X.K (.ref C) c = some r)
    (hb : ∀ (W : WX) (pn' : List (Addr × Obj)) (xe : Value → Shared → Prop), Takes (X.tr pn' xe) W → PassesOwn (model X.prog X.w) X.A X.env xe → SSs (X.tr pn' xe) W pn body b)
    (hsu : ∀ (y : XV) (a C dd : Addr) (oe : Obj) (pn' : List (Addr × Obj)), cat y = some true → X.mg y.cls = some (.ref C) → Zc (.ref C) (some dd) oe → (∃ vs, oe.data = .fields vs) → USs (X.suite a ((a, oe) :: pn')) (ZE X.K i a dd y.fs) (b₀ :: suite) (h y)) :
    SS X W pn (.Try body [.ExceptHandler (some (.Name x np)) (some n) (b₀ :: suite) pos'] [] [] pos) (mTry cat i b h) := by
  refine PS.weaken' (ps_try_as (c := c) (tb := fun W' => rdS X W' pn b) (ts := fun a cls d D σ H => ∃ y C dd, cat y = some true ∧ X.mg y.cls = some (.ref C) ∧ cls = .ref C ∧ d = some dd ∧ rdU X (ZE X.K i a dd y.fs) (h y) D σ H) (Wout := W) hs hf hN hi hln hc tk (fun W' pn' xe tk' po => hb W' pn' xe tk' po)
    (fun a oe cls d pn' hz hfl => ⟨fun pins s σ H D I q => ?_⟩)) fun D σ H q => ?_
  · obtain ⟨y, C, dd, hy, hC, rfl, rfl, q⟩ := q
    exact (hsu y a C dd oe pn' hy hC hz hfl).run pins s σ H D I q
  · obtain ⟨s, f, h1, h2, h3⟩ := q
    refine ⟨s, f, h1, h2, ?_⟩
    unfold mTry at h3
    cases eb : b s with
    | nx s' => rw [eb] at h3; exact h3
    | bk s' => rw [eb] at h3; exact h3
    | ct s' => rw [eb] at h3; exact h3
    | rt y s' => rw [eb] at h3; exact h3
    | bad => rw [eb] at h3; exact h3
    | exc y s' =>
      rw [eb] at h3
      dsimp only at h3
      intro cls d σ' H' f' p1 xr sl le fr
      obtain ⟨C, dd, ws, hC, rfl, rfl, hd, hfs⟩ := xr
      cases ec : cat y with
      | none => rw [ec] at h3; exact h3.elim
      | some r =>
        rw [ec] at h3
        refine ⟨r, hcat y C r ec hC, fun er a na => ?_, fun er => ?_⟩
        · subst er
          dsimp only at h3
          have hiN : i < X.N.length := (List.getElem?_eq_some_iff.mp hi).1
          obtain ⟨f2, k1, k2⟩ := sl.forget i
          have pset : ∀ o, PinE pn σ (σ'.set i o) := fun o => p1.trans ⟨List.length_set, fun j hj => List.getElem?_set_ne (fun z => hpi j hj (by simp [z]))⟩
          by_cases hlt : i < s'.length
          · rw [if_pos hlt] at h3
            have k3 : SLR X.K H' (s'.set i none) (σ'.set i (some (.ref a))) f2 := SLR.setNone _ k1 (getElem?_set_none hlt)
            have hσ : (σ'.set i (some (V.ref a)))[i]? = some (some (.ref a)) := List.getElem?_set_self (by rw [sl.length]; exact hlt)
            refine ⟨y, C, dd, ec, hC, rfl, rfl, ⟨hσ, ws, hd, hfs⟩, s'.set i none, f2, k3, fun b => by have := k2 b; have := le b; omega, ?_⟩
            cases eh : h y (s'.set i none) with
            | bad => rw [eh] at h3; exact h3
            | ret z =>
              rw [eh] at h3
              intro v H2 g rv frv
              have sl2 : SLR X.K H2 (s'.set i none) σ' f2 := k1.keptZ frv.keep
              refine h3 v σ' H2 g f2 p1 rv sl2 (fun b => ?_) ⟨fun b o e z => frv.keep b o (fr.keep b o e z), fun b o e z => ?_⟩
              · by_cases hb : g b = 0
                · have := k2 b; have := le b; omega
                · have n0 := frv.new b hb
                  have : f2 b = 0 := live_of k1 n0
                  have := frv.le b
                  omega
              · have y1 := fr.own b o e z
                have : g b = 0 := by
                  refine Classical.byContradiction fun c => ?_
                  have n0 := frv.new b c
                  rw [fr.keep b o e z] at n0; cases n0
                have := k2 b
                show g b + f2 b = 0
                omega
            | nx =>
              rw [eh] at h3
              intro H2 kk
              have k4 : SLR X.K H2 (s'.set i none) ((σ'.set i (some (.ref a))).set i none) f2 := by
                have := SLR.setNone none (k3.keptZ kk) (getElem?_set_none hlt)
                exact this
              refine h3 _ H2 f2 ?_ k4 (fun b => by have := k2 b; have := le b; omega) ⟨fun b o e z => kk b o (fr.keep b o e z), fun b o e z => by have := fr.own b o e z; have := k2 b; omega⟩
              rw [List.set_set]
              exact pset none
          · rw [if_neg hlt] at h3; exact h3.elim
        · subst er
          exact h3 (.ref C) (some dd) σ' H' f' p1 ⟨C, dd, ws, hC, rfl, rfl, hd, hfs⟩ sl le fr
theorem ss_tryO (hs : X.stack = X.env :: X.outer) (hf : X.env.frame = some X.env.locals) (hc : Names X x c) (tk : Takes X W)
    (hcat : ∀ (y : XV) (C : Addr) (r : Bool), cat y = some r → X.mg y.cls = some (.ref C) → PySem.W.exmOne X.K (.ref C) c = some r)
    (hb : ∀ (W : WX) (pn' : List (Addr × Obj)) (xe : Value → Shared → Prop), Takes (X.tr pn' xe) W → PassesOwn (model X.prog X.w) X.A X.env xe → SSs (X.tr pn' xe) W pn body b)
    (hsu : ∀ (y : XV) (a C dd : Addr) (oe : Obj) (pn' : List (Addr × Obj)), cat y = some true → X.mg y.cls = some (.ref C) → Zc (.ref C) (some dd) oe → (∃ vs, oe.data = .fields vs) → USs (X.suite a ((a, oe) :: pn')) ZT (b₀ :: suite) (h y)) :
    SS X W pn (.Try body [.ExceptHandler (some (.Name x np)) none (b₀ :: suite) pos'] [] [] pos) (mTryO cat b h) := by
  refine PS.weaken' (ps_try_only (c := c) (tb := fun W' => rdS X W' pn b) (ts := fun a cls d D σ H => ∃ y C dd, cat y = some true ∧ X.mg y.cls = some (.ref C) ∧ cls = .ref C ∧ d = some dd ∧ rdU X ZT (h y) D σ H) (Wout := W) hs hf hc tk (fun W' pn' xe tk' po => hb W' pn' xe tk' po)
    (fun a oe cls d pn' hz hfl => ⟨fun pins s σ H D I q => ?_⟩)) fun D σ H q => ?_
  · obtain ⟨y, C, dd, hy, hC, rfl, rfl, q⟩ := q
    exact (hsu y a C dd oe pn' hy hC hz hfl).run pins s σ H D I q
  · obtain ⟨s, f, h1, h2, h3⟩ := q
    refine ⟨s, f, h1, h2, ?_⟩
    unfold mTryO at h3
    cases eb : b s with
    | nx s' => rw [eb] at h3; exact h3
    | bk s' => rw [eb] at h3; exact h3
    | ct s' => rw [eb] at h3; exact h3
    | rt y s' => rw [eb] at h3; exact h3
    | bad => rw [eb] at h3; exact h3
    | exc y s' =>
      rw [eb] at h3
      dsimp only at h3
      intro cls d σ' H' f' p1 xr sl le fr
      obtain ⟨C, dd, ws, hC, rfl, rfl, hd, hfs⟩ := xr
      cases ec : cat y with
      | none => rw [ec] at h3; exact h3.elim
      | some r =>
        rw [ec] at h3
        refine ⟨r, hcat y C r ec hC, fun er a na => ?_, fun er => ?_⟩
        · subst er
          dsimp only at h3
          refine ⟨y, C, dd, ec, hC, rfl, rfl, trivial, s', f', sl, le, ?_⟩
          cases eh : h y s' with
          | bad => rw [eh] at h3; exact h3
          | ret z =>
            rw [eh] at h3
            intro v H2 g rv frv
            refine h3 v σ' H2 g f' p1 rv (sl.keptZ frv.keep) (fun b => ?_) ⟨fun b o e z => frv.keep b o (fr.keep b o e z), fun b o e z => ?_⟩
            · by_cases hb : g b = 0
              · have := le b; omega
              · have n0 := frv.new b hb
                have : f' b = 0 := live_of sl n0
                have := frv.le b
                omega
            · have y1 := fr.own b o e z
              have : g b = 0 := by
                refine Classical.byContradiction fun c => ?_
                have n0 := frv.new b c
                rw [fr.keep b o e z] at n0; cases n0
              show g b + f' b = 0
              omega
          | nx =>
            rw [eh] at h3
            intro H2 kk
            exact h3 σ' H2 f' p1 (sl.keptZ kk) le ⟨fun b o e z => kk b o (fr.keep b o e z), fun b o e z => fr.own b o e z⟩
        · subst er
          exact h3 (.ref C) (some dd) σ' H' f' p1 ⟨C, dd, ws, hC, rfl, rfl, hd, hfs⟩ sl le fr
end
end Bv

set_option maxHeartbeats 1000000
namespace Bv
open PySem PySem.Spec PyProof.Rows L2

/-! ### x * k -/
theorem tuple_mul1 (l : Addr) (items : Array Value) (n : Nat) (sl : Array (Option Value)) (dd : Option Addr) (x : Int) (u : Tok) (c0 : (decide (x < -(2 ^ 63)) || decide (x ≥ 2 ^ 63)) = false) (c1 : (items.isEmpty || x == 1) = true) :
    Meets (Builtin.«tuple.__mul__» ⟨[.ref l, .int x u], []⟩) (fun _ R s => s.heap.get? l = some { cls := .type "tuple", dict := dd, data := .seq items n, slots := sl } ∧ R (.ok (.ret (Value.ref l))) s) :=
  .of_wp fun prog w A R s h => by
    obtain ⟨hp, g, d, tk, os⟩ := s
    obtain ⟨hl, h⟩ := h
    have f1 := AutoSeq1.idx_int
    wp_walk using wpAny_loadPart' hl
    repeat (first
      | (refine wpAny_ite_false (decide_eq_false (by rw [c0]; exact Bool.false_ne_true)) ?_; wp_walk using wpAny_loadPart' hl)
      | (refine wpAny_ite_true (decide_eq_true c1) ?_; wp_walk using wpAny_loadPart' hl)
      | (refine wpAny_ite_true c1 ?_; wp_walk using wpAny_loadPart' hl)
      | (rw [if_pos c1]; wp_walk using wpAny_loadPart' hl))
    exact ⟨_, rfl, h⟩
theorem tuple_mul0 (l : Addr) (items : Array Value) (n : Nat) (sl : Array (Option Value)) (dd : Option Addr) (x : Int) (u : Tok) (c0 : (decide (x < -(2 ^ 63)) || decide (x ≥ 2 ^ 63)) = false) (c1 : (items.isEmpty || x == 1) = false) (c2 : (decide (x ≤ 0) || items.isEmpty) = true) :
    Meets (Builtin.«tuple.__mul__» ⟨[.ref l, .int x u], []⟩) (fun _ R s => s.heap.get? l = some { cls := .type "tuple", dict := dd, data := .seq items n, slots := sl } ∧
      R (.ok (.ret (Value.ref s.heap.objs.size))) { s with heap := s.heap.push { cls := Value.type "tuple", data := Data.seq #[] }, toks := s.toks }) :=
  .of_wp fun prog w A R s h => by
    obtain ⟨hp, g, d, tk, os⟩ := s
    obtain ⟨hl, h⟩ := h
    have f1 := AutoSeq1.idx_int
    wp_walk using wpAny_loadPart' hl
    repeat (first
      | (refine wpAny_ite_false (decide_eq_false (by rw [c0]; exact Bool.false_ne_true)) ?_; wp_walk using wpAny_loadPart' hl)
      | (refine wpAny_ite_false (decide_eq_false (by rw [c1]; exact Bool.false_ne_true)) ?_; wp_walk using wpAny_loadPart' hl)
      | (refine wpAny_ite_true (decide_eq_true c2) ?_; wp_walk using wpAny_loadPart' hl)
      | (rw [if_pos c2]; wp_walk using wpAny_loadPart' hl))
    exact ⟨_, rfl, h⟩
def repS (x : Str) (k : Int) : Str := if k < 1 then Str.empty else if (k == 1 || x.length == 0) = true then x else ⟨(List.replicate k.toNat x.cps).foldl (· ++ ·) #[]⟩
def rMul2 (K : PySem.W.Frag) : R2 := fun x y H Q => rMulAll K x y H Q ∨
  (∃ l k xs, x = .ref l ∧ y = .int k ∧ SqT K H l xs ∧ -1000 ≤ k ∧ k ≤ 1000 ∧ (xs = [] ∨ k = 1) ∧ Q (.ref l) H) ∨
  (∃ l k xs, x = .ref l ∧ y = .int k ∧ SqT K H l xs ∧ -1000 ≤ k ∧ k ≤ 0 ∧ xs ≠ [] ∧ ∀ p, H p = none → Q (.ref p) (upd H p (.tup []))) ∨
  (∃ z k, x = .str z ∧ y = .int k ∧ z.length ≤ 1000 ∧ -1000 ≤ k ∧ k ≤ 1000 ∧ Q (.str (repS z k)) H)
theorem foldl_app (x : Array Nat) : ∀ (k : Nat) (acc : Array Nat), ((List.replicate k x).foldl (· ++ ·) acc).size = acc.size + k * x.size
  | 0, acc => by simp
  | k + 1, acc => by
    rw [List.replicate_succ, List.foldl_cons, foldl_app x k, Array.size_append, Nat.succ_mul]
    omega
section
variable {X : Cx}
theorem op_mul2 : OpR X (binaryOp .Mult) (rMul2 X.K) := by
  intro pins s σ H x y v u Q I rx ry h
  rcases h with h | ⟨l, k, xs, rfl, rfl, hT, h1, h2, h3, q⟩ | ⟨l, k, xs, rfl, rfl, hT, h1, h2, h3, q⟩ | ⟨z, k, rfl, rfl, hz, h1, h2, q⟩
  · exact op_mulAll pins s σ H x y v u Q I rx ry h
  · cases rx
    obtain ⟨t, rfl⟩ := ry
    obtain ⟨its, r, ⟨⟨cls, dd, data, sl⟩, ho, hc, n, hd⟩, hs⟩ := I.tuple hT
    simp only at hc hd
    subst hc hd
    have hle : its.length = xs.length := r.length.symm
    have c0 : (decide (k < -(2 ^ 63)) || decide (k ≥ 2 ^ 63)) = false := by
      rw [decide_eq_false (by omega), decide_eq_false (by omega)] <;> rfl
    have c1 : (its.toArray.isEmpty || k == 1) = true := by
      rcases h3 with e | e
      · subst e
        have : its = [] := List.eq_nil_of_length_eq_zero hle
        subst this
        rfl
      · subst e; simp
    exact wpAny_binaryOp_repeat_ref (T := "tuple") (U := "int") (by decide) ⟨_, ho, rfl⟩ (fun s' => typeIs_int s' k t) noFill_tuple_mul F.fills_int_mul F.slot_int_rmul repeat_tuple F.slot_int_index.lookup
      (call_meets F.slot_int_rmul (typeIs_int s k t) F.entry_int_rmul (F.args_int_rmul_2 _ _) (int_rmul_tuple k t l its.toArray n dd sl)
        ⟨ho, rfl, ⟨_, ho, rfl⟩, call_meets F.slot_tuple_mul ⟨_, ho, rfl⟩ F.entry_tuple_mul (F.args_tuple_mul_2 _ _) (tuple_mul1 l its.toArray n sl dd k t c0 c1) ⟨ho, ⟨.ref l, H, I, rfl, q⟩⟩⟩)
  · cases rx
    obtain ⟨t, rfl⟩ := ry
    obtain ⟨its, r, ⟨⟨cls, dd, data, sl⟩, ho, hc, n, hd⟩, hs⟩ := I.tuple hT
    simp only at hc hd
    subst hc hd
    have hle : its.length = xs.length := r.length.symm
    have c0 : (decide (k < -(2 ^ 63)) || decide (k ≥ 2 ^ 63)) = false := by
      rw [decide_eq_false (by omega), decide_eq_false (by omega)] <;> rfl
    have hi : its.toArray.isEmpty = false := by
      cases its with
      | nil => exact absurd (List.eq_nil_of_length_eq_zero hle.symm) h3
      | cons a b => rfl
    have c1 : (its.toArray.isEmpty || k == 1) = false := by
      rw [hi, Bool.false_or]
      exact beq_eq_false_iff_ne.mpr (by omega)
    have c2 : (decide (k ≤ 0) || its.toArray.isEmpty) = true := by rw [decide_eq_true h2, Bool.true_or]
    refine wpAny_binaryOp_repeat_ref (T := "tuple") (U := "int") (by decide) ⟨_, ho, rfl⟩ (fun s' => typeIs_int s' k t) noFill_tuple_mul F.fills_int_mul F.slot_int_rmul repeat_tuple F.slot_int_index.lookup
      (call_meets F.slot_int_rmul (typeIs_int s k t) F.entry_int_rmul (F.args_int_rmul_2 _ _) (int_rmul_tuple k t l its.toArray n dd sl)
        ⟨ho, rfl, ⟨_, ho, rfl⟩, call_meets F.slot_tuple_mul ⟨_, ho, rfl⟩ F.entry_tuple_mul (F.args_tuple_mul_2 _ _) (tuple_mul0 l its.toArray n sl dd k t c0 c1 c2) ⟨ho, ?_⟩⟩)
    refine ⟨.ref s.heap.objs.size, _, I.laid (t' := s.toks) (o := .tup []) (fun b ob q => Heap.get?_push_of_some _ q) (Nat.le_refl _) ?_, rfl, q _ (I.hok.fresh (Nat.le_refl _))⟩
    exact ⟨Nat.zero_le _, [], .nil, IsTup.new _ _⟩
  · obtain ⟨t, rfl⟩ := rx
    obtain ⟨t', rfl⟩ := ry
    have hs : sizeLine = 16777216 := sizeLine_eq
    refine P.mul_str ?_ (fun hk he => ?_) (fun hk he => ?_) ?_
    · rw [decide_eq_false (by omega), decide_eq_false (by omega)] <;> rfl
    · have : (1000 : Int) ≤ (2 ^ 63 - 1) / k := by
        rw [Int.le_ediv_iff_mul_le (by omega)]
        omega
      omega
    · unfold Builtin.Str.tooLong
      have : z.length * k.toNat ≤ 1000 * 1000 := Nat.mul_le_mul hz (by omega)
      exact decide_eq_false (by omega)
    · unfold repS at q
      by_cases hk : k < 1
      · rw [if_pos hk] at q ⊢
        exact ⟨by decide, .str Str.empty, H, I.tok _, ⟨_, rfl⟩, q⟩
      · rw [if_neg hk] at q ⊢
        by_cases he : (k == 1 || z.length == 0) = true
        · rw [if_pos he] at q ⊢
          exact ⟨.str z, H, I, ⟨_, rfl⟩, q⟩
        · rw [if_neg he] at q ⊢
          refine ⟨?_, .str _, H, I.tok _, ⟨_, rfl⟩, q⟩
          show ((List.replicate k.toNat z.cps).foldl (· ++ ·) #[]).size ≤ sizeLine
          rw [foldl_app]
          have : k.toNat * z.cps.size ≤ 1000 * 1000 := Nat.mul_le_mul (by omega) hz
          have e0 : (#[] : Array Nat).size = 0 := rfl
          omega
end
noncomputable def pMul2 : List PV → Option PV
  | [.int a, .int b] => pMul [.int a, .int b]
  | [.tup xs, .int k] => @ite _ (PV.owns xs = false ∧ xs.length ≤ 1000 ∧ -1000 ≤ k ∧ k ≤ 1000) (Classical.propDecidable _) (some (.tup (List.replicate k.toNat xs).flatten)) none
  | [.str x, .int k] => @ite _ (x.length ≤ 1000 ∧ -1000 ≤ k ∧ k ≤ 1000) (Classical.propDecidable _) (some (.str (repS x k))) none
  | _ => none
section
variable {K : PySem.W.Frag}
theorem vo_mul2 : VOp K pMul2 (r2L (rMul2 K)) := by
  intro H xs vs z Q hr hf q
  match xs, hf with
  | [.int a, .int b], hf =>
    obtain ⟨x, y, e, h⟩ := vo_mul H [.int a, .int b] vs z Q hr hf q
    exact ⟨x, y, e, .inl h⟩
  | [.tup as, .int k], hf =>
    simp only [pMul2] at hf
    split at hf
    · rename_i hc
      obtain ⟨n1, n2, n3, n4⟩ := hc
      cases hf
      by_cases h2 : as = [] ∨ k = 1
      · obtain ⟨v, w, g, l, rfl, ra, ⟨rfl, _⟩⟩ := rw2 hr
        obtain ⟨a, va, rfl, ha, za, sa⟩ := ra.tupAt
        have ta := sa.seq n1
        have e : (List.replicate k.toNat as).flatten = as := by
          rcases h2 with h2 | h2
          · subst h2; simp
          · subst h2; simp
        rw [e] at q
        refine ⟨_, _, rfl, .inr (.inl ⟨a, k, va, rfl, rfl, ha, n3, n4, ?_, q _ H Z0 ⟨a, va, rfl, ha, za, ta.reps⟩ (fr0 H)⟩)⟩
        rcases h2 with h2 | h2
        · subst h2; exact .inl (List.length_eq_zero_iff.mp ta.len)
        · exact .inr h2
      · have hne : as ≠ [] := fun e => h2 (.inl e)
        have hk1 : k ≠ 1 := fun e => h2 (.inr e)
        by_cases h0 : k ≤ 0
        · obtain ⟨v, w, g, l, rfl, ra, ⟨rfl, _⟩⟩ := rw2 hr
          obtain ⟨a, va, rfl, ha, za, sa⟩ := ra.tupAt
          have ta := sa.seq n1
          have e : (List.replicate k.toNat as).flatten = [] := by
            have : k.toNat = 0 := by omega
            rw [this]; rfl
          rw [e] at q
          refine ⟨_, _, rfl, .inr (.inr (.inl ⟨a, k, va, rfl, rfl, ha, n3, h0, fun e => hne (by subst e; exact List.length_eq_zero_iff.mp ta.len.symm), fun p np => ?_⟩))⟩
          exact q _ _ Z0 ⟨p, [], rfl, SqT.of upd_same, Nat.zero_le _, ⟨rfl, fun _ => rfl⟩⟩ (Fresh.upd np fun b => Nat.zero_le _)
        · have hf : pMul [.tup as, .int k] = some (.tup (List.replicate k.toNat as).flatten) := by
            simp only [pMul]
            rw [if_pos ⟨n1, hne, n2, by omega, n4⟩]
          obtain ⟨x, y, e, h⟩ := vo_mul H [.tup as, .int k] vs _ Q hr hf q
          exact ⟨x, y, e, .inl h⟩
    · cases hf
  | [.str x, .int k], hf =>
    obtain ⟨v, w, g, l, rfl, ⟨rfl, _⟩, ⟨rfl, _⟩⟩ := rw2 hr
    simp only [pMul2] at hf
    split at hf
    · rename_i hc
      cases hf
      exact ⟨_, _, rfl, .inr (.inr (.inr ⟨x, k, rfl, rfl, hc.1, hc.2.1, hc.2.2, q _ H Z0 rep_str (fr0 H)⟩))⟩
    · cases hf

/-! ### x[::-1] -/
theorem fm_congr {α β : Type} {f g : α → Option β} : ∀ {l : List α}, (∀ x ∈ l, f x = g x) → l.filterMap f = l.filterMap g
  | [], _ => rfl
  | x :: r, h => by
    rw [List.filterMap_cons, List.filterMap_cons, h x List.mem_cons_self, fm_congr fun y hy => h y (List.mem_cons_of_mem _ hy)]
theorem getItem_tuple_rev {prog : Program} {w : World} {A : Around} {E : Value → Shared → Prop} {s : Shared} {t sl : Addr} {items : Array Value} {vl vu vs : Value} {Q : Value → Shared → Prop} (ht : IsTup s.heap t items) (hs : s.heap.IsSliceOf sl vl vu vs) (pl : IsPart vl none) (pu : IsPart vu none) (ps : IsPart vs (some (-1)))
    (h : Q (.ref s.heap.objs.size) { s with heap := s.heap.push { cls := .type "tuple", data := .seq items.toList.reverse.toArray } })
    (hsz : items.size ≤ sizeLine) : wpAny (model prog w) A (getItem (.ref t) (.ref sl)) Q E s := by
  have htake : sizeOk (.seq items.toList.reverse.toArray) := by
    show items.toList.reverse.toArray.size ≤ sizeLine
    rw [List.size_toArray, List.length_reverse, Array.length_toList]
    exact hsz
  obtain ⟨os, hos, hcs, hds⟩ := id hs
  have hTs : s.TypeIs (.ref sl) "slice" := ⟨os, hos, hcs⟩
  unfold getItem
  try with_reducible refine wpAny_holding ?_
  first | refine wpAny_bind (wpAny_pure ?_) | skip
  refine wpAny_bind (wpAny_sequenceKey ht.typeIs (by decide) ?_)
  refine wpAny_bind (wpAny_callSpecial?_slot (name := Str.ofString "__getitem__") ht.typeIs PyProof.Rows.slot_tuple_getitem
    (wpAny_call_entry PyProof.Rows.slot_tuple_getitem ht.typeIs entry_tuple_getitem ?_ (args_tuple_getitem _ _)))
  show wpAny _ _ (Builtin.Tuple.tupleItemsOf (.ref t) >>= _) _ _ s
  refine wpAny_bind (tupleItemsOf_ ht ?_)
  refine wpAny_bind (wpAny_typeOf hTs ?_)
  rw [if_pos (by decide)]
  have eadj : Builtin.Slice.sliceAdjust none none (-1) (items.size : Int) = ((items.size : Int) - 1, -1) := rfl
  have epl : Builtin.Slice.slicePlaces ((items.size : Int) - 1) (-1) (-1) = items.size := by
    unfold Builtin.Slice.slicePlaces
    have h1 : ¬ ((-1 : Int) > 0) := by omega
    rw [if_neg h1]
    have e1 : (- -1 : Int) = 1 := rfl
    rw [e1, Int.ediv_one]
    split <;> omega
  have happ : ∀ {Q' : Int × Int × Nat → Shared → Prop} {A' : Around} {E' : Value → Shared → Prop}, Q' ((items.size : Int) - 1, -1, items.size) s → wpAny (model prog w) A' (Builtin.Slice.sliceApplied (.ref sl) (pure (items.size : Int))) Q' E' s := fun {Q' A' E'} hq => by
    unfold Builtin.Slice.sliceApplied Builtin.Slice.sliceFields
    refine wpAny_bind (wpAny_bind (wpAny_field hos hds (x := vl) rfl (wpAny_bind (wpAny_field hos hds (x := vu) rfl (wpAny_bind (wpAny_field hos hds (x := vs) rfl (wpAny_pure ?_)))))))
    refine wpAny_bind (HT.slicePart_ ps ?_)
    show wpAny _ _ (if ((-1 : Int) == 0) = true then _ else _) _ _ s
    rw [if_neg (by decide)]
    refine wpAny_bind (HT.slicePart_ pl (wpAny_bind (HT.slicePart_ pu (wpAny_bind (wpAny_pure ?_)))))
    show wpAny _ _ (match Builtin.Slice.sliceAdjust none none (-1) (items.size : Int) with | (lo, hi) => pure (lo, (-1 : Int), Builtin.Slice.slicePlaces lo hi (-1))) _ _ s
    rw [eadj]
    show wpAny _ _ (pure ((items.size : Int) - 1, (-1 : Int), Builtin.Slice.slicePlaces ((items.size : Int) - 1) (-1) (-1))) _ _ s
    rw [epl]
    exact wpAny_pure hq
  refine wpAny_bind (happ ?_)
  have hno : ¬ (((items.size : Int) - 1 == 0 && (-1 : Int) == 1 && items.size == items.size) = true) := by
    rw [show ((-1 : Int) == 1) = false from rfl]
    simp
  show wpAny _ _ (if ((items.size : Int) - 1 == 0 && (-1 : Int) == 1 && items.size == items.size) = true then _ else _) _ _ s
  rw [if_neg hno]
  have epick : ((List.range items.size).filterMap fun (k : Nat) => items[(((items.size : Int) - 1) + (k : Int) * (-1)).toNat]?).toArray = items.toList.reverse.toArray := by
    congr 1
    apply List.ext_getElem?
    intro j
    have e2 : (List.range items.size).filterMap (fun (k : Nat) => items[(((items.size : Int) - 1) + (k : Int) * (-1)).toNat]?) = ((List.range items.size).map fun k => items.size - 1 - k).filterMap (items[·]?) := by
      rw [List.filterMap_map]
      refine fm_congr fun k hk => ?_
      have := List.mem_range.mp hk
      show items[_]? = items[_]?
      have e9 : (((items.size : Int) - 1) + (k : Int) * (-1)).toNat = items.size - 1 - k := by omega
      rw [e9]
    rw [e2, PySem.W.krv_range, List.filterMap_reverse, PySem.W.krv_all]
  rw [epick]
  first
    | exact wpAny_bind (m := Builtin.Tuple.tupleExact _) (wpAny_newObj_type (wpAny_pure ⟨_, rfl, wpAny_pure h⟩) htake)
    | exact wpAny_bind (m := Builtin.Tuple.tupleExact _) (wpAny_newObj_type (wpAny_bind (wpAny_pure (wpAny_pure ⟨_, rfl, wpAny_pure h⟩))) htake)
    | exact wpAny_bind (wpAny_bind (m := Builtin.Tuple.tupleExact _) (wpAny_newObj_type (wpAny_pure (wpAny_pure ⟨_, rfl, wpAny_pure h⟩)) htake))
    | exact wpAny_bind (wpAny_bind (m := Builtin.Tuple.tupleExact _) (wpAny_newObj_type (wpAny_pure ⟨_, rfl, wpAny_pure h⟩) htake))
end
end Bv

set_option maxHeartbeats 1000000
namespace Bv
open PySem PySem.Spec PyProof.Rows L2

section
variable {X : Cx} {W : WX} {e : Expr} {p1 p2 p3 pos : Pos} {k : Nat}
/-! ### x[::-1] -/
def rRevS (K : PySem.W.Frag) : V → Hp → VK → Prop := fun x H Q => (∃ a xs, x = .ref a ∧ SqL K H a xs ∧ ∀ p, H p = none → Q (.ref p) (upd H p (.lst xs.reverse))) ∨ ∃ a xs, x = .ref a ∧ SqT K H a xs ∧ ∀ p, H p = none → Q (.ref p) (upd H p (.tup xs.reverse))
theorem pe_revS {te : TE} (he : PE X e te) : PE X (.Subscript e (.Slice none none (some (.UnaryOp .USub (.Constant (.int 1) k p1) p2)) p3) pos) (fun σ H Q => te σ H fun x H1 => rRevS X.K x H1 Q) := by
  refine ⟨fun pins s σ H Q I h => ?_⟩
  refine Subscript_ (thn (he.run pins s σ H _ I h) fun v s1 ⟨x, H1, I1, r1, q1⟩ => ?_)
  have hst : PO X (some (.UnaryOp .USub (.Constant (.int 1) k p1) p2)) (tPart (tUn (rU fun i => .int (-i)) (tC (.int 1)))) := po_some (pe_un un_neg pe_int)
  refine wpAny_Slice (thn (po_none.run pins s1 σ H1 (fun o H2 => o = none ∧ H2 = H1) I1 ⟨rfl, rfl⟩) fun vl s2 ⟨l, H2, I2, pl, el, e2⟩ => ?_)
  subst el e2
  refine thn (po_none.run pins s2 σ H2 (fun o H3 => o = none ∧ H3 = H2) I2 ⟨rfl, rfl⟩) fun vu s3 ⟨u, H3, I3, pu, eu, e3⟩ => ?_
  subst eu e3
  refine thn (hst.run pins s3 σ H3 (fun o H4 => o = some (-1) ∧ H4 = H3) I3 ⟨1, rfl, -1, rfl, rfl, rfl⟩) fun vs s4 ⟨o, H4, I4, ps, eo, e4⟩ => ?_
  subst eo e4
  have I5 : Inv X pins σ H4 { s4 with heap := s4.heap.push { cls := .type "slice", data := .fields #[vl, vu, vs] } } := I4.kept (t' := s4.toks) fun b ob q => Heap.get?_push_of_some _ q
  rcases q1 with ⟨a, xs, ex, hx, q⟩ | ⟨a, xs, ex, hx, q⟩
  · subst ex
    cases r1
    obtain ⟨its, r, ht, hz⟩ := I5.list hx
    have hlen := r.length
    show wpAny (model X.prog X.w) X.A (subscriptTail e (.Slice none none (some (.UnaryOp .USub (.Constant (.int 1) k p1) p2)) p3) (.ref a) (.ref s4.heap.objs.size)) (EP X pins σ Q) X.xe { s4 with heap := s4.heap.push { cls := .type "slice", data := .fields #[vl, vu, vs] } }
    refine tail_any (ops := [.ref a, .ref s4.heap.objs.size]) ht.isList.typeIs (PySem.slot_list_getitem.lookup) ?_ (by with_unfolding_all rfl)
    refine wpAny_getItem_list_slice ht.isList (Heap.IsSliceOf.new _ vl vu vs) pl pu ps (by decide) ?_ (by rw [List.size_toArray]; omega)
    rw [PySem.W.krv_pick]
    refine ⟨.ref _, _, I5.laid (t' := s4.toks) (o := .lst xs.reverse) (fun b ob q => Heap.get?_push_of_some _ q) (Nat.le_refl _) ?_, rfl, q _ (I5.hok.fresh (Nat.le_refl _))⟩
    exact ⟨by rw [List.length_reverse]; exact hz, _, 0, r.reverse, Heap.get?_push_size _ rfl⟩
  · subst ex
    cases r1
    obtain ⟨its, r, ht, hz⟩ := I5.tuple hx
    have hlen := r.length
    show wpAny (model X.prog X.w) X.A (subscriptTail e (.Slice none none (some (.UnaryOp .USub (.Constant (.int 1) k p1) p2)) p3) (.ref a) (.ref s4.heap.objs.size)) (EP X pins σ Q) X.xe { s4 with heap := s4.heap.push { cls := .type "slice", data := .fields #[vl, vu, vs] } }
    refine tail_any (ops := [.ref a, .ref s4.heap.objs.size]) ht.typeIs (PyProof.Rows.slot_tuple_getitem.lookup) ?_ (by with_unfolding_all rfl)
    refine getItem_tuple_rev ht (Heap.IsSliceOf.new _ vl vu vs) pl pu ps ?_ (by rw [List.size_toArray]; omega)
    refine ⟨.ref _, _, I5.laid (t' := s4.toks) (o := .tup xs.reverse) (fun b ob q => Heap.get?_push_of_some _ q) (Nat.le_refl _) ?_, rfl, q _ (I5.hok.fresh (Nat.le_refl _))⟩
    exact ⟨by rw [List.length_reverse]; exact hz, _, r.reverse, IsTup.new _ _⟩
def pRev : List PV → Option PV
  | [.tup xs] => if PV.owns xs = false then some (.tup xs.reverse) else none
  | [.lst _ xs] => if PV.owns xs = false then some (.lst true xs.reverse) else none
  | _ => none
theorem seq_rev {K : PySem.W.Frag} {H : Hp} {xs : List PV} {vs : List V} (a : Seq0 K H xs vs) : Seq0 K H xs.reverse vs.reverse := by
  refine ⟨by simp [a.len], fun i x v h1 h2 => ?_⟩
  have hl := a.len
  have h1' : i < xs.reverse.length := (List.getElem?_eq_some_iff.mp h1).1
  have h2' : i < vs.reverse.length := (List.getElem?_eq_some_iff.mp h2).1
  rw [List.getElem?_reverse (by simpa using h1')] at h1
  rw [List.getElem?_reverse (by simpa using h2')] at h2
  rw [hl] at h2
  exact a.at' _ x v h1 h2
theorem vo_rev : VOp X.K pRev (r1L (rRevS X.K)) := by
  intro H xs vs z Q hr hf q
  match xs, hf with
  | [.tup as], hf =>
    obtain ⟨v, g, rfl, ra⟩ := rw1 hr
    simp only [pRev] at hf
    split at hf
    · rename_i n
      cases hf
      obtain ⟨a, va, rfl, ha, za, sa⟩ := ra.tupAt
      refine ⟨_, rfl, .inr ⟨a, va, rfl, ha, fun p np => ?_⟩⟩
      obtain ⟨r, f⟩ := newTup (seq_rev (sa.seq n)) (by rw [List.length_reverse]; exact za) np
      exact q _ _ _ r f
    · cases hf
  | [.lst o as], hf =>
    obtain ⟨v, g, rfl, ra⟩ := rw1 hr
    simp only [pRev] at hf
    split at hf
    · rename_i n
      cases hf
      obtain ⟨a, va, ga, rfl, ha, za, sa⟩ := ra.lstAt
      refine ⟨_, rfl, .inl ⟨a, va, rfl, ha, fun p np => ?_⟩⟩
      obtain ⟨r, f⟩ := newLst (seq_rev (sa.seq n)) (by rw [List.length_reverse]; exact za) np
      exact q _ _ _ r f
    · cases hf
theorem se_rev {oa : M Pnd} (ha : SO X W e oa) : SE X W (.Subscript e (.Slice none none (some (.UnaryOp .USub (.Constant (.int 1) k p1) p2)) p3) pos) (mOp pRev (oCons oa oNil)) :=
  PE.weaken (pe_revS ha) fun σ H Q q => by
    have z := ops1 (Q' := fun vs H2 => ∃ x, vs = [x] ∧ rRevS X.K x H2 Q) q (fun F ps s1 vs H1 g f1 _ h1 h2 h3 h4 h5 => op_end (r := r1L (rRevS X.K)) vo_rev h1 h2 h3 h4 h5)
    obtain ⟨s, f', z1, z2, z3⟩ := z
    refine ⟨s, f', z1, z2, z3.mono fun v H1 q1 => ?_⟩
    obtain ⟨x, e1, q3⟩ := q1
    cases e1
    exact q3
/-! ### sum -/
def rSum2 (K : PySem.W.Frag) : List V → Hp → VK → Prop := fun vs H Q => rSum K vs H Q ∨ ∃ (a : Addr) (ns : List Int), vs = [V.ref a] ∧ SqT K H a (ns.map V.int) ∧ Q (.int ns.sum) H
theorem preSum_take (ns : List Int) : ∀ n, n ≤ ns.length → preSum (fun i => ns.getD i 0) n = (ns.take n).sum
  | 0, _ => rfl
  | n + 1, h => by
    have e : ns.getD n 0 = ns[n] := by rw [List.getD_eq_getElem?_getD, List.getElem?_eq_getElem (by omega)] <;> rfl
    rw [L2.sum_take (List.getElem?_eq_getElem (show n < ns.length by omega)), ← preSum_take ns n (by omega), ← e]
    rfl
theorem call_sum2 (hc : X.calm = true) : CallR X (.builtin "sum") (rSum2 X.K) := by
  intro pins s σ H xs us Q I r h
  rcases h with h | ⟨a, ns, rfl, ha, q⟩
  · exact cr_sum hc pins s σ H xs us Q I r h
  · obtain ⟨u, rfl, rx⟩ := vals1 r
    cases rx
    obtain ⟨its, rv, ht, hz⟩ := I.tuple ha
    have hlen : its.length = ns.length := by rw [← rv.length, List.length_map]
    have hh : X.A.in1.handled = none := I.ok.hd hc
    refine call_sum_walkG (wpAny_pyIter_tuple (show s.heap.IsTuple a its.toArray from ht) ?_)
    obtain ⟨oa, hoa, _⟩ := id ht
    have hne : a ≠ s.heap.objs.size := Nat.ne_of_lt (Heap.lt_size hoa)
    refine ⟨s.heap.objs.size, _, _, _, _, _, fun i => ns.getD i 0, rfl, Walks.tuple hh s.heap.objs.size a hne its.toArray, ⟨⟨_, Heap.get?_push_size _ rfl, rfl, rfl⟩, ht.keeps fun _ _ e => Heap.get?_push_of_some _ e⟩, fun b hb => ?_, fun i v hv => ?_, fun h' tk t' hk => ?_⟩
    · have hb : b = s.heap.objs.size ∨ b = a := by simpa using hb
      show b < (s.heap.push _).objs.size
      rw [Heap.size_push]
      rcases hb with e | e
      · rw [e]; exact Nat.lt_succ_self _
      · have := Heap.lt_size hoa; rw [e]; exact Nat.lt_succ_of_lt this
    · have hv : its[i]? = some v := by simpa using hv
      have hi : i < its.length := (List.getElem?_eq_some_iff.mp hv).1
      obtain ⟨w, hw, t, e⟩ := rv.get (i := i) (x := V.int (ns.getD i 0)) (by
        have hi' : i < ns.length := by omega
        rw [List.getElem?_map, List.getD_eq_getElem?_getD, List.getElem?_eq_getElem (by omega)]; rfl)
      rw [hv] at hw
      cases hw
      exact ⟨t, e⟩
    · rw [show its.toArray.size = ns.length by rw [List.size_toArray, hlen], preSum_take ns ns.length (Nat.le_refl _), List.take_length]
      refine ⟨.int ns.sum, H, I.kept (t' := tk) fun b o e => hk b o (fun hm => ?_) (Heap.get?_push_of_some _ e), ⟨_, rfl⟩, q⟩
      have hm : b = s.heap.objs.size := by simpa using hm
      exact absurd (Heap.lt_size e) (by rw [hm]; exact Nat.lt_irrefl _)
def pSum1 : PV → Option PV
  | .lst _ xs => (intsP xs).map fun ns => .int ns.sum
  | .tup xs => (intsP xs).map fun ns => .int ns.sum
  | _ => none
def pSum := Bv.p1 pSum1
theorem vo_sum {K : PySem.W.Frag} : VOp K pSum (rSum2 K) := by
  refine vo1 fun H x v g z Q r hf q => ?_
  cases x with
  | lst o ys =>
    simp only [pSum1, Option.map_eq_some_iff] at hf
    obtain ⟨bs, e, rfl⟩ := hf
    obtain ⟨a, va, ga, rfl, ha, za, sa⟩ := r.lstAt
    exact .inl ⟨a, bs, rfl, by rw [← ints_ok e sa]; exact ha, q _ H Z0 rep_int (fr0 H)⟩
  | tup ys =>
    simp only [pSum1, Option.map_eq_some_iff] at hf
    obtain ⟨bs, e, rfl⟩ := hf
    obtain ⟨a, va, rfl, ha, za, sa⟩ := r.tupAt
    exact .inr ⟨a, bs, rfl, by rw [← ints_ok e sa]; exact ha, q _ H Z0 rep_int (fr0 H)⟩
  | _ => simp [pSum1] at hf
/-! ### methods of texts -/
def mStr1 (f : List PV → Option PV) (mo : M PV) (oe : M Pnd) : M PV := fun s => (mo s).bind fun x s1 => match x with
  | .str a => (oe s1).bind fun p s2 => (match Pnd.gets s2 [.val (.str a), p] with
    | some xs => (match f xs with | some z => .ok z s2 | none => .bad)
    | none => .bad)
  | _ => .bad
theorem str1_end {f : List PV → Option PV} {r : V → List V → Hp → VK → Prop} {mo : M PV} {oe : M Pnd} (vo : VOp X.K f (fun vs H Q => ∃ x y, vs = [x, y] ∧ r x [y] H Q)) {σ : L2.St} {H : Hp} {Q : VK} (q : rdG (Rep X.K) X W (mStr1 f mo oe) σ H Q) :
    tM1 r (rdG (Rep X.K) X W mo) (fun σ H Q => rdG (PRep X.K σ) X W oe σ H Q) σ H Q := by
  refine rdG.bind (ρ := Rep X.K) q fun F x s1 v H1 g f1 h0 h1 h2 h3 h4 h5 => ?_
  cases x with
  | str a =>
    refine ⟨⟨a, h1.1⟩, ?_⟩
    have h1' : PRep X.K σ H1 (.val (.str a)) v g := h1
    refine rdG.next (ρ := PRep X.K σ) (stable_prep X.K σ) h1' h2 h3 h4 h5 fun p s2 w H2 g2 f2 k1 k2 k3 k4 k5 k6 => ?_
    obtain ⟨x', y', e, hq⟩ := op_end (r := fun vs H Q => ∃ x y, vs = [x, y] ∧ r x [y] H Q) vo (g := fun b => g b + g2 b) (ps := [.val (.str a), p]) (vs := [v, w]) ⟨v, [w], g, g2, rfl, k1, ⟨w, [], g2, Z0, rfl, k2, ⟨rfl, fun _ => rfl⟩, fun _ => rfl⟩, fun _ => rfl⟩ k3 k4 k5 k6
    cases e
    exact hq
  | _ => exact h5.elim
def pSplit : List PV → Option PV
  | [.str a, .str b] => if (b.length == 0) = false ∧ a.length + 2 ≤ LIM ∧ (Txt.split a b).length ≤ LIM then some (.lst true ((Txt.split a b).map .str)) else none
  | _ => none
theorem seq_strs {K : PySem.W.Frag} {H : Hp} (ys : List Str) : Seq0 K H (ys.map PV.str) (ys.map V.str) := by
  refine ⟨by simp, fun i x v h1 h2 => ?_⟩
  rw [List.getElem?_map] at h1 h2
  cases e : ys[i]? with
  | none => rw [e] at h1; cases h1
  | some y =>
    rw [e] at h1 h2
    cases h1
    cases h2
    exact rep_str
theorem vo_split {K : PySem.W.Frag} : VOp K pSplit (fun vs H Q => ∃ x y, vs = [x, y] ∧ (fun x xs H Q => ∃ a b, x = .str a ∧ xs = [.str b] ∧ (b.length == 0) = false ∧ a.length + 2 ≤ sizeLine ∧ rNewStrs (Txt.split a b) H Q) x [y] H Q) := by
  intro H xs vs z Q hr hf q
  match xs, hf with
  | [.str a, .str b], hf =>
    obtain ⟨v, w, g, k, rfl, ⟨rfl, _⟩, ⟨rfl, _⟩⟩ := rw2 hr
    simp only [pSplit] at hf
    split at hf
    · rename_i hc
      cases hf
      refine ⟨_, _, rfl, a, b, rfl, rfl, hc.1, by rw [lim_eq]; exact hc.2.1, fun p np => ?_⟩
      obtain ⟨r, f⟩ := newLst (seq_strs (Txt.split a b)) (by rw [List.length_map, lim_eq]; exact hc.2.2) np
      exact q _ _ _ r f
    · cases hf
def joinOk (a : Str) (ys : List Str) : Bool := decide ((ys.map (·.length)).sum + ys.length * a.length ≤ 16777216)
def pJoin : List PV → Option PV
  | [.str a, .lst _ xs] => match textsP xs with | some ys => if joinOk a ys = true then some (.str (Txt.join a ys)) else none | none => none
  | [.str a, .tup xs] => match textsP xs with | some ys => if joinOk a ys = true then some (.str (Txt.join a ys)) else none | none => none
  | _ => none
theorem vo_join {K : PySem.W.Frag} : VOp K pJoin (fun vs H Q => ∃ x y, vs = [x, y] ∧ (fun x xs H Q => ∃ a p, ∃ ys : List Str, x = .str a ∧ xs = [.ref p] ∧ (SqL K H p (ys.map V.str) ∨ SqT K H p (ys.map V.str)) ∧
      (ys.map (·.length)).sum + ys.length * a.length ≤ 16777216 ∧ Q (.str (Txt.join a ys)) H) x [y] H Q) := by
  intro H xs vs z Q hr hf q
  match xs, hf with
  | [.str a, .lst o as], hf =>
    obtain ⟨v, w, g, k, rfl, ⟨rfl, _⟩, ra⟩ := rw2 hr
    simp only [pJoin] at hf
    cases e : textsP as with
    | none => rw [e] at hf; cases hf
    | some ys =>
      rw [e] at hf
      dsimp only at hf
      split at hf
      · rename_i hc
        cases hf
        obtain ⟨p, va, ga, rfl, ha, za, sa⟩ := ra.lstAt
        exact ⟨_, _, rfl, a, p, ys, rfl, rfl, .inl (by rw [← texts_ok e sa]; exact ha), of_decide_eq_true hc, q _ H Z0 rep_str (fr0 H)⟩
      · cases hf
  | [.str a, .tup as], hf =>
    obtain ⟨v, w, g, k, rfl, ⟨rfl, _⟩, ra⟩ := rw2 hr
    simp only [pJoin] at hf
    cases e : textsP as with
    | none => rw [e] at hf; cases hf
    | some ys =>
      rw [e] at hf
      dsimp only at hf
      split at hf
      · rename_i hc
        cases hf
        obtain ⟨p, va, rfl, ha, za, sa⟩ := ra.tupAt
        exact ⟨_, _, rfl, a, p, ys, rfl, rfl, .inr (by rw [← texts_ok e sa]; exact ha), of_decide_eq_true hc, q _ H Z0 rep_str (fr0 H)⟩
      · cases hf
variable {a : Expr} {mo : M PV} {oe : M Pnd} {apos : Pos}
theorem se_split (ho : SE X W e mo) (he : SO X W a oe) (hs : starEach [a] X.env = [(false, eval a X.env)] := by rfl) (hbase : attributeBase e "split" X.env (eval e X.env) = eval e X.env := by rfl) (hline : (apos.endLine == pos.line) = true := by rfl) :
    SE X W (.Call (.Attribute e "split" apos) [a] [] pos) (mStr1 pSplit mo oe) := PE.weaken (pe_split ho he hs hbase hline) fun σ H Q q => str1_end vo_split q
theorem se_join (ho : SE X W e mo) (he : SO X W a oe) (hs : starEach [a] X.env = [(false, eval a X.env)] := by rfl) (hbase : attributeBase e "join" X.env (eval e X.env) = eval e X.env := by rfl) (hline : (apos.endLine == pos.line) = true := by rfl) :
    SE X W (.Call (.Attribute e "join" apos) [a] [] pos) (mStr1 pJoin mo oe) := PE.weaken (pe_join ho he hs hbase hline) fun σ H Q q => str1_end vo_join q
end
end Bv

set_option maxHeartbeats 1000000
namespace Bv
open PySem PySem.Spec PyProof.Rows L2

abbrev pLt : Int → Int → Bool := fun i j => decide (i < j)
abbrev pLe : Int → Int → Bool := fun i j => decide (i ≤ j)
abbrev pGt : Int → Int → Bool := fun i j => decide (j < i)
abbrev pGe : Int → Int → Bool := fun i j => decide (j ≤ i)
theorem bt_len : bootBuiltins "len" = some (.builtin "len") := by decide +kernel
theorem bt_abs : bootBuiltins "abs" = some (.builtin "abs") := by decide +kernel
theorem bt_min : bootBuiltins "min" = some (.builtin "min") := by decide +kernel
theorem bt_max : bootBuiltins "max" = some (.builtin "max") := by decide +kernel
theorem bt_all : bootBuiltins "all" = some (.builtin "all") := by decide +kernel
theorem bt_any : bootBuiltins "any" = some (.builtin "any") := by decide +kernel
theorem bt_sum : bootBuiltins "sum" = some (.builtin "sum") := by decide +kernel
theorem bt_int : bootBuiltins "int" = some (.type "int") := by decide +kernel
theorem bt_str : bootBuiltins "str" = some (.type "str") := by decide +kernel
theorem bt_bool : bootBuiltins "bool" = some (.type "bool") := by decide +kernel
theorem bt_list : bootBuiltins "list" = some (.type "list") := by decide +kernel
theorem bt_tuple : bootBuiltins "tuple" = some (.type "tuple") := by decide +kernel
theorem bt_ve : bootBuiltins "ValueError" = some (.type "ValueError") := by decide +kernel
theorem hu64 {k : Nat} {A : Around} (hr : Room k A) : A.units + 64 < cLine := hr.units
theorem hu65 {k : Nat} {A : Around} (hr : Room k A) : A.units + 65 < cLine := by have := hr.un; omega
/-- isinstance of a value in a suite -/
theorem su_isi {Y : Cx} {Z : L2.St → Hp → Prop} {a : Expr} {pa : Sl → Option PV} {T : String} {x : Str} {p p2 pos : Pos} (hT : ∀ x t, tyOf x = some t → kitB t T = some (isTy T t)) (hg : Gl Y "isinstance") (hm : Y.mg "isinstance" = none) (hg2 : Gl Y x) (hm2 : Y.mg x = none) (hv2 : bootBuiltins x = some (.type T))
    (ha : SU Y Z a pa) (hn2 : x ≠ "__name__" := by decide) (hdb2 : (x == ("__debug__" : Str)) = false := by decide)
    (he : starEach [a, .Name x p2] Y.env = (false, eval a Y.env) :: starEach [.Name x p2] Y.env := by rfl) (hpl : (backTo pos (starEach [.Name x p2] Y.env)).any (·.1) = false := by rfl) (he2 : starEach [.Name x p2] Y.env = (false, eval (.Name x p2) Y.env) :: starEach [] Y.env := by rfl) :
    SU Y Z (.Call (.Name "isinstance" p) [a, .Name x p2] [] pos) (u1 (pIsi T) pa) :=
  PE.weaken (pe_callB call_isi hg hm (by decide +kernel) (pa_cons ha (pa_cons (pe_bltn (v := .ty T) hg2 hm2 hv2 rfl hn2 hdb2) pa_nil he2) he) (by decide) (by decide) he hpl) fun σ H Q ⟨z, s, fp, y, hs, hy, k⟩ => by
    unfold u1 at hy
    cases e1 : pa s with
    | none => rw [e1] at hy; cases hy
    | some x' =>
      rw [e1] at hy
      refine ⟨z, s, fp, x', hs, e1, fun v H1 g h1 h2 => ?_⟩
      obtain ⟨v', e, q⟩ := vo_isi hT H1 [x'] [v] y Q ⟨v, [], g, rfl, h1, rfl⟩ hy fun v2 H2 g2 r2 f2 => k v2 H2 g2 r2 (f2.go h2.keep)
      cases e
      exact q
end Bv

set_option maxHeartbeats 1000000
namespace Bv
open PySem PySem.Spec PyProof.Rows L2

theorem hu64s {k : Nat} {A : Around} {h : Option Value} (hr : Room k A) : (A.mark h).units + 64 < cLine := hr.units
/-- which classes a clause takes -/
def catOf (l : List (Str × Bool)) (y : XV) : Option Bool := l.lookup y.cls
inductive CatC (K : PySem.W.Frag) (mg : Str → Option Value) (c : Value) : List (Str × Bool) → Prop where
  | nil : CatC K mg c []
  | cons {x : Str} {r : Bool} {a : Addr} {l : List (Str × Bool)} (hm : mg x = some (.ref a)) (he : PySem.W.exmOne K (.ref a) c = some r) (t : CatC K mg c l) : CatC K mg c ((x, r) :: l)
theorem cat_ok {K : PySem.W.Frag} {mg : Str → Option Value} {c : Value} : ∀ {l : List (Str × Bool)}, CatC K mg c l → ∀ (y : XV) (C : Addr) (r : Bool), catOf l y = some r → mg y.cls = some (.ref C) → PySem.W.exmOne K (.ref C) c = some r
  | _, .nil, y, C, r, h, _ => by simp [catOf] at h
  | _, .cons (x := x) (l := l) hm he t, y, C, r, h, hC => by
    unfold catOf at h
    simp only [List.lookup] at h
    cases hb : (y.cls == x) with
    | true =>
      rw [hb] at h
      have e : y.cls = x := by simpa using hb
      rw [e, hm] at hC
      cases hC
      cases h
      exact he
    | false =>
      rw [hb] at h
      exact cat_ok t y C r h hC
def byCls (l : List (Str × (XV → Sl → UO))) (y : XV) : Sl → UO := match l.lookup y.cls with | some f => f y | none => fun _ => .bad
inductive USsC (X : Cx) (Z : XV → Addr → Addr → L2.St → Hp → Prop) (body : List Stmt) : List (Str × (XV → Sl → UO)) → Prop where
  | nil : USsC X Z body []
  | cons {x : Str} {m : XV → Sl → UO} {l : List (Str × (XV → Sl → UO))} (h : ∀ (y : XV) (a C dd : Addr) (oe : Obj) (pn' : List (Addr × Obj)), y.cls = x → X.mg y.cls = some (.ref C) → Zc (.ref C) (some dd) oe → (∃ vs, oe.data = .fields vs) → USs (X.suite a ((a, oe) :: pn')) (Z y a dd) body (m y))
      (t : USsC X Z body l) : USsC X Z body ((x, m) :: l)
theorem addr_of {mg : Str → Option Value} {x : Str} {a C : Addr} {y : XV} (hm : mg x = some (.ref a)) (hy : y.cls = x) (hC : mg y.cls = some (.ref C)) : C = a := by
  rw [hy, hm] at hC
  cases hC
  rfl
theorem byCls_ok0 {X : Cx} {Z : XV → Addr → Addr → L2.St → Hp → Prop} {body : List Stmt} : ∀ {l : List (Str × (XV → Sl → UO))}, USsC X Z body l → ∀ (y : XV) (a C dd : Addr) (oe : Obj) (pn' : List (Addr × Obj)), X.mg y.cls = some (.ref C) → Zc (.ref C) (some dd) oe → (∃ vs, oe.data = .fields vs) → USs (X.suite a ((a, oe) :: pn')) (Z y a dd) body (byCls l y)
  | _, .nil, y, a, C, dd, oe, pn', hC, hz, hf => ⟨fun pins s σ H D I q => by
    obtain ⟨_, s', f', _, _, q⟩ := q
    exact q.elim⟩
  | _, .cons (x := x) (m := m) (l := l) h t, y, a, C, dd, oe, pn', hC, hz, hf => by
    by_cases hb : (y.cls == x) = true
    · have e : byCls ((x, m) :: l) y = m y := by simp only [byCls, List.lookup, hb]
      rw [e]
      exact h y a C dd oe pn' (by simpa using hb) hC hz hf
    · have hb' : (y.cls == x) = false := by simpa using hb
      have e : byCls ((x, m) :: l) y = byCls l y := by simp only [byCls, List.lookup, hb']
      rw [e]
      exact byCls_ok0 t y a C dd oe pn' hC hz hf
theorem byCls_ok {X : Cx} {i : Nat} {body : List Stmt} {cat : XV → Option Bool} {l : List (Str × (XV → Sl → UO))} (_ : True) (h : USsC X (fun y a dd => ZE X.K i a dd y.fs) body l) (y : XV) (a C dd : Addr) (oe : Obj) (pn' : List (Addr × Obj)) (_ : cat y = some true) (hC : X.mg y.cls = some (.ref C)) (hz : Zc (.ref C) (some dd) oe) (hf : ∃ vs, oe.data = .fields vs) :
    USs (X.suite a ((a, oe) :: pn')) (ZE X.K i a dd y.fs) body (byCls l y) := byCls_ok0 h y a C dd oe pn' hC hz hf
theorem byCls_okO {X : Cx} {body : List Stmt} {cat : XV → Option Bool} {l : List (Str × (XV → Sl → UO))} (_ : True) (h : USsC X (fun _ _ _ => ZT) body l) (y : XV) (a C dd : Addr) (oe : Obj) (pn' : List (Addr × Obj)) (_ : cat y = some true) (hC : X.mg y.cls = some (.ref C)) (hz : Zc (.ref C) (some dd) oe) (hf : ∃ vs, oe.data = .fields vs) :
    USs (X.suite a ((a, oe) :: pn')) ZT body (byCls l y) := byCls_ok0 (Z := fun _ _ _ => ZT) h y a C dd oe pn' hC hz hf
end Bv

set_option maxHeartbeats 1000000
namespace Bv
open PySem PySem.Spec PyProof.Rows L2

/-! ### the end -/
def spLawB (K : PySem.W.Frag) : Sp := fun vs H Q _ => ∃ (a : Addr) (ns : List Int), vs = [.ref a] ∧ SqL K H a (ns.map V.int) ∧ ns.length ≤ 63 ∧ ∀ H', Q (.bl true) H'
theorem reps_ints {K : PySem.W.Frag} {H : Hp} : ∀ ns : List Int, Reps K H (ns.map PV.int) (ns.map V.int) Z0
  | [] => ⟨rfl, fun _ => rfl⟩
  | n :: ns => ⟨.int n, ns.map V.int, Z0, Z0, rfl, rep_int, reps_ints ns, fun _ => rfl⟩
theorem law_sp {K : PySem.W.Frag} {mg : Str → Option Value} {C : List PV → CR} (plain : ∀ (o : Bool) (ns : List Int), ns.length ≤ 63 → ∃ ys, C [.lst o (ns.map PV.int)] = .ok (.bl true) ys) (vs : List V) (H : Hp) (Q : VK) (E : XK) (h : spLawB K vs H Q E) : spB K mg 1 C vs H Q E := by
  obtain ⟨a, ns, rfl, hs, hl, q⟩ := h
  have hz : (ns.map PV.int).length ≤ sizeLine := by rw [List.length_map, lim_eq]; unfold LIM; omega
  have fin : ∀ (o : Bool) (f : Fp), Rep K H (.lst o (ns.map PV.int)) (.ref a) f → (∀ b, f b ≤ 1) → spB K mg 1 C [.ref a] H Q E := fun o f r le => by
    obtain ⟨ys, e⟩ := plain o ns hl
    refine ⟨[.lst o (ns.map PV.int)], f, rfl, ⟨.ref a, [], f, Z0, rfl, r, ⟨rfl, fun _ => rfl⟩, fun _ => rfl⟩, le, ?_⟩
    rw [e]
    intro v H' g f' r1 _ _ _
    rw [r1.1]
    exact q H'
  rcases hs with (h | ⟨o, h⟩) | h
  · exact fin true (one a) ⟨a, _, Z0, rfl, h, hz, reps_ints ns, fun b => by simp⟩ fun b => by unfold one; split <;> omega
  · exact fin false Z0 ⟨a, _, rfl, .inl ⟨o, h⟩, hz, reps_ints ns, fun _ => rfl⟩ fun b => Nat.zero_le _
  · exact fin false Z0 ⟨a, _, rfl, .inr h, hz, reps_ints ns, fun _ => rfl⟩ fun b => Nat.zero_le _
theorem no_cx {P : Program} {w : World} (H : Hp) (s : Shared) (e : Value) (s' : Shared) (h : L2.CX P w [] H s (fun _ _ _ => False) e s') : False := by
  obtain ⟨_, _, _, _, _, _, _, _, _, _, _, _, z⟩ := h
  exact z
end Bv

set_option maxHeartbeats 1000000
namespace Bv
open PySem PySem.Spec PyProof.Rows L2

/-! ### reading the semantics off -/
section
variable {α β : Type} (s s' : Sl)
@[simp] theorem then_nx (n : MS) : (Out.nx s).then n = n s := rfl
@[simp] theorem then_rt (n : MS) (x : PV) : (Out.rt x s).then n = .rt x s := rfl
@[simp] theorem then_exc (n : MS) (x : XV) : (Out.exc x s).then n = .exc x s := rfl
@[simp] theorem then_bk (n : MS) : (Out.bk s).then n = .bk s := rfl
@[simp] theorem then_ct (n : MS) : (Out.ct s).then n = .ct s := rfl
@[simp] theorem then_bad (n : MS) : Out.bad.then n = .bad := rfl
@[simp] theorem ap_seq (m n : MS) : mSeq m n s = (m s).then n := Eq.trans rfl rfl
@[simp] theorem ap_nx : mNx s = .nx s := Eq.trans rfl rfl
@[simp] theorem ap_if (c : M Bool) (a b : MS) : mIf c a b s = (c s).out fun d s' => if d then a s' else b s' := Eq.trans rfl rfl
@[simp] theorem ap_asg (m : M PV) (t : PV → Sl → Option Sl) : mAsg m t s = (m s).out fun x s' => match t x s' with | some s2 => .nx s2 | none => .bad := Eq.trans rfl rfl
@[simp] theorem ap_t1 (i : Nat) (x : PV) : t1 i x s = some (s.set i (some x)) := Eq.trans rfl rfl
@[simp] theorem ap_drop (m : M PV) : mDrop m s = (m s).out fun _ s' => .nx s' := Eq.trans rfl rfl
@[simp] theorem ap_ret (m : M PV) : mRet m s = (m s).out fun x s' => .rt x s' := Eq.trans rfl rfl
@[simp] theorem ap_retN : mRetN s = .rt .non s := Eq.trans rfl rfl
@[simp] theorem ap_C (x : PV) : mC x s = .ok x s := Eq.trans rfl rfl
@[simp] theorem ap_oE (m : M PV) : oE m s = (m s).bind fun x s' => .ok (.val x) s' := Eq.trans rfl rfl
@[simp] theorem ap_oNil : oNil s = .ok [] s := Eq.trans rfl rfl
@[simp] theorem ap_oCons (o : M Pnd) (os : M (List Pnd)) : oCons o os s = (o s).bind fun p s1 => (os s1).bind fun ps s2 => .ok (p :: ps) s2 := Eq.trans rfl rfl
@[simp] theorem ap_oN (i : Nat) : oN i s = match s[i]? with | some (some _) => .ok (.loc i) s | _ => .bad := Eq.trans rfl rfl
@[simp] theorem ap_N (i : Nat) : mN i s = match s[i]? with | some (some x) => .ok x (if x.own then s.set i none else s) | _ => .bad := Eq.trans rfl rfl
@[simp] theorem ap_Op (f : List PV → Option PV) (os : M (List Pnd)) : mOp f os s = (os s).bind fun ps s' => match Pnd.gets s' ps with
  | some xs => match f xs with | some z => .ok z s' | none => .bad
  | none => .bad := Eq.trans rfl rfl
@[simp] theorem ap_T (m : M PV) : mT m s = (m s).bind fun x s' => match x with | .bl b => .ok b s' | _ => .bad := Eq.trans rfl rfl
@[simp] theorem ap_And (a b : M Bool) : mAnd a b s = (a s).bind fun c s' => if c then b s' else .ok false s' := Eq.trans rfl rfl
@[simp] theorem ap_Or (a b : M Bool) : mOr a b s = (a s).bind fun c s' => if c then .ok true s' else b s' := Eq.trans rfl rfl
@[simp] theorem ap_Not (a : M Bool) : mNot a s = (a s).bind fun c s' => .ok (!c) s' := Eq.trans rfl rfl
@[simp] theorem ap_AndV (a b : M PV) : mAndV a b s = (a s).bind fun x s' => match x with | .bl c => if c then b s' else .ok (.bl false) s' | _ => .bad := Eq.trans rfl rfl
@[simp] theorem ap_OrV (a b : M PV) : mOrV a b s = (a s).bind fun x s' => match x with | .bl c => if c then .ok (.bl true) s' else b s' | _ => .bad := Eq.trans rfl rfl
@[simp] theorem ap_NotV (a : M PV) : mNotV a s = (a s).bind fun x s' => match x with | .bl c => .ok (.bl (!c)) s' | _ => .bad := Eq.trans rfl rfl
@[simp] theorem ap_ite {α : Type} (c : M Bool) (a b : M α) : mIte c a b s = (c s).bind fun d s' => if d then a s' else b s' := Eq.trans rfl rfl
@[simp] theorem ap_vNil : vNil s = .ok [] s := Eq.trans rfl rfl
@[simp] theorem ap_vCons (m : M PV) (ms : M (List PV)) : vCons m ms s = (m s).bind fun x s1 => (ms s1).bind fun xs s2 => .ok (x :: xs) s2 := Eq.trans rfl rfl
@[simp] theorem ap_Tup (ms : M (List PV)) : mTup ms s = (ms s).bind fun xs s' => if xs.length ≤ LIM then .ok (.tup xs) s' else .bad := Eq.trans rfl rfl
@[simp] theorem ap_Lst (ms : M (List PV)) : mLst ms s = (ms s).bind fun xs s' => if xs.length ≤ LIM then .ok (.lst true xs) s' else .bad := Eq.trans rfl rfl
@[simp] theorem ap_Fz (m : M PV) : mFz m s = (m s).bind fun x s' => match frzP x with | some y => .ok y s' | none => .bad := Eq.trans rfl rfl
@[simp] theorem ap_FzN (i : Nat) : mFzN i s = match s[i]? with
  | some (some x) => match frzP x with | some y => .ok y (s.set i (some y)) | none => .bad
  | _ => .bad := Eq.trans rfl rfl
@[simp] theorem ap_SetI (i : Nat) (ie m : M PV) : mSetI i ie m s = (m s).out fun z s1 => match s1[i]? with
  | some (some _) => (ie s1).out fun k s2 => match k with
    | .int j => match s2[i]? with
      | some (some (.lst true xs)) => match ixN xs.length j with
        | some n => .nx (s2.set i (some (.lst true (xs.set n z))))
        | none => .bad
      | _ => .bad
    | _ => .bad
  | _ => .bad := Eq.trans rfl rfl
@[simp] theorem ap_AugI (i k : Nat) (f : Int → Int → Int) (m : M PV) : mAugI i k f m s = match s[i]? with
  | some (some (.lst true xs)) => match xs[k]? with
    | some (.int a) => (m s).out fun y s1 => match y with
      | .int b => match s1[i]? with
        | some (some (.lst true ys)) => if k < ys.length then .nx (s1.set i (some (.lst true (ys.set k (.int (f a b)))))) else .bad
        | _ => .bad
      | _ => .bad
    | _ => .bad
  | _ => .bad := Eq.trans rfl rfl
@[simp] theorem ap_Chain (p p' : Int → Int → Bool) (oa ob oc : M Pnd) : mChain p p' oa ob oc s = (oa s).bind fun pa s1 => (ob s1).bind fun pb s2 =>
  match intOf s2 pa, intOf s2 pb with
  | some i, some j => if p i j then (oc s2).bind fun pc s3 => match intOf s3 pb, intOf s3 pc with | some j', some k => .ok (.bl (p' j' k)) s3 | _, _ => .bad
    else .ok (.bl false) s2
  | _, _ => .bad := Eq.trans rfl rfl
@[simp] theorem intOf_loc (i : Nat) : intOf s (.loc i) = match s[i]?.join with | some (.int k) => some k | _ => none := rfl
@[simp] theorem intOf_val (i : Int) : intOf s (.val (.int i)) = some i := rfl
@[simp] theorem ap_call (np : Nat) (C : List PV → CR) (os : M (List Pnd)) : mCallN np C os s = (os s).bind fun ps s1 => if ps.length = np then (match takeP ps s1 with
  | some (xs, s2) => match C xs with
    | .ok x ys => .ok x (putP ps ys s2)
    | .exc e ys => .exc e (putP ps ys s2)
    | .bad => .bad
  | none => .bad) else .bad := Eq.trans rfl rfl
@[simp] theorem ap_meth (i : Nat) (f : PV → List PV → Option (PV × PV)) (ms : M (List PV)) : mMeth i f ms s = match s[i]? with
  | some (some (.lst true _)) => (ms s).bind fun ys s1 => match s1[i]? with
    | some (some (.lst true xs)) => match f (.lst true xs) ys with
      | some (z, x') => .ok z (s1.set i (some x'))
      | none => .bad
    | _ => .bad
  | _ => .bad := Eq.trans rfl rfl
@[simp] theorem ap_par (i j : Nat) (ms : M (List PV)) : mPar i j ms s = (ms s).out fun xs s' => match xs with | [x, y] => .nx ((s'.set i (some x)).set j (some y)) | _ => .bad := Eq.trans rfl rfl
@[simp] theorem ap_for (pn : List Nat) (os : M (List Pnd)) (it : List PV → Option (List PV)) (t : PV → Sl → Option Sl) (b : MS) : mFor pn os it t b s = (os s).out fun ps s1 =>
  if locsIn pn ps = true then match takeP ps s1 with
    | some (vals, s2) => match it vals with
      | some xs => finL ps vals (forL t b xs s2)
      | none => .bad
    | none => .bad
  else .bad := Eq.trans rfl rfl
@[simp] theorem ap_comp (os : M (List Pnd)) (it : List PV → Option (List PV)) (t : PV → Sl → Option Sl) (cond : M Bool) (el : M PV) (own : List Nat) : mComp os it t cond el own s = (os s).bind fun ps s1 => match takeP ps s1 with
  | none => .bad
  | some (vals, s2) => match it vals with
    | none => .bad
    | some xs => if xs.length ≤ LIM then (match compL t cond el own xs (wipeS s2 own) [] with
      | .ok acc s3 => .ok (.lst true acc) (putP ps vals s3)
      | _ => .bad) else .bad := Eq.trans rfl rfl
@[simp] theorem ap_yes : mYes s = .ok true s := Eq.trans rfl rfl
@[simp] theorem ap_raise (m : M XV) : mRaise m s = (m s).out fun x s' => .exc x s' := Eq.trans rfl rfl
@[simp] theorem gets_nil : Pnd.gets s [] = some [] := rfl
@[simp] theorem gets_val (x : PV) (ps : List Pnd) : Pnd.gets s (.val x :: ps) = match Pnd.gets s ps with | some xs => some (x :: xs) | none => none := by
  simp only [Pnd.gets, Pnd.get]
  cases Pnd.gets s ps <;> rfl
@[simp] theorem gets_loc (i : Nat) (ps : List Pnd) : Pnd.gets s (.loc i :: ps) = match s[i]?.join, Pnd.gets s ps with | some x, some xs => some (x :: xs) | _, _ => none := rfl
@[simp] theorem take_nil : takeP [] s = some ([], s) := rfl
@[simp] theorem take_val (x : PV) (r : List Pnd) : takeP (.val x :: r) s = match takeP r s with | some (xs, s') => some (x :: xs, s') | none => none := rfl
@[simp] theorem take_loc (i : Nat) (r : List Pnd) : takeP (.loc i :: r) s = match s[i]? with
    | some (some x) => match takeP r (if x.own then s.set i none else s) with | some (xs, s') => some (x :: xs, s') | none => none
    | _ => none := rfl
@[simp] theorem put_nil (ys : List PV) : putP [] ys s = s := by cases ys <;> rfl
@[simp] theorem put_val (x y : PV) (r : List Pnd) (ys : List PV) : putP (.val x :: r) (y :: ys) s = putP r ys s := rfl
@[simp] theorem put_loc (i : Nat) (r : List Pnd) (y : PV) (ys : List PV) : putP (.loc i :: r) (y :: ys) s = putP r ys (match s[i]? with | some none => s.set i (some y) | _ => s) := rfl
@[simp] theorem own_int (i : Int) : (PV.int i).own = false := rfl
@[simp] theorem own_bl (i : Bool) : (PV.bl i).own = false := rfl
@[simp] theorem own_str (i : Str) : (PV.str i).own = false := rfl
@[simp] theorem own_non : PV.non.own = false := rfl
@[simp] theorem own_tup (xs : List PV) : (PV.tup xs).own = PV.owns xs := rfl
@[simp] theorem own_lst (o : Bool) (xs : List PV) : (PV.lst o xs).own = (o || PV.owns xs) := rfl
@[simp] theorem owns_nil : PV.owns [] = false := rfl
@[simp] theorem owns_cons (x : PV) (r : List PV) : PV.owns (x :: r) = (x.own || PV.owns r) := rfl
@[simp] theorem owns_app : ∀ (a b : List PV), PV.owns (a ++ b) = (PV.owns a || PV.owns b)
  | [], b => rfl
  | x :: a, b => by simp only [List.cons_append, owns_cons, owns_app a b, Bool.or_assoc]
@[simp] theorem owns_ints : ∀ ns : List Int, PV.owns (ns.map PV.int) = false
  | [] => rfl
  | n :: ns => by simp only [List.map_cons, owns_cons, own_int, Bool.false_or, owns_ints ns]
@[simp] theorem owns_strs : ∀ ns : List Str, PV.owns (ns.map PV.str) = false
  | [] => rfl
  | n :: ns => by simp only [List.map_cons, owns_cons, own_str, Bool.false_or, owns_strs ns]
@[simp] theorem frz_lst (xs : List PV) : frzP (.lst true xs) = if PV.owns xs = false then some (.lst false xs) else none := rfl
@[simp] theorem frz_lstF (xs : List PV) : frzP (.lst false xs) = if PV.owns xs = false then some (.lst false xs) else none := rfl
@[simp] theorem frz_tup (xs : List PV) : frzP (.tup xs) = if PV.owns xs = false then some (.tup xs) else none := rfl
@[simp] theorem frz_int (i : Int) : frzP (.int i) = some (.int i) := rfl
@[simp] theorem frz_str (i : Str) : frzP (.str i) = some (.str i) := rfl
@[simp] theorem frz_bl (i : Bool) : frzP (.bl i) = some (.bl i) := rfl
@[simp] theorem frz_non : frzP .non = some .non := rfl
@[simp] theorem pp_cmp (p : Int → Int → Bool) (a b : Int) : pCmp p [.int a, .int b] = some (.bl (p a b)) := rfl
@[simp] theorem pp_add (a b : Int) : pAdd [.int a, .int b] = some (.int (a + b)) := rfl
@[simp] theorem pp_sub (a b : Int) : pSub [.int a, .int b] = some (.int (a - b)) := rfl
@[simp] theorem pp_mul (a b : Int) : pMul2 [.int a, .int b] = if small64 a || small64 b then some (.int (a * b)) else none := rfl
@[simp] theorem pp_fdiv (a b : Int) : pFdiv [.int a, .int b] = if 0 < b ∧ b < 1073741824 then some (.int (a / b)) else none := by
  by_cases h : 0 < b ∧ b < 1073741824 <;> simp [pFdiv, h]
@[simp] theorem pp_mod (a b : Int) : pMod [.int a, .int b] = if 0 < b then some (.int (a % b)) else none := rfl
@[simp] theorem pp_abs (a : Int) : pAbs [.int a] = some (.int (if a < 0 then -a else a)) := rfl
@[simp] theorem pp_int (a : Int) : pInt1 [.int a] = some (.int a) := rfl
@[simp] theorem pp_intb (a : Bool) : pInt1 [.bl a] = some (.int (if a then 1 else 0)) := rfl
@[simp] theorem pp_ixL (o : Bool) (xs : List PV) (i : Int) : pIx [.lst o xs, .int i] = match atI xs i with | some x => if x.own then none else some x | none => none := rfl
@[simp] theorem pp_ixT (xs : List PV) (i : Int) : pIx [.tup xs, .int i] = match atI xs i with | some x => if x.own then none else some x | none => none := rfl
@[simp] theorem pp_lenL (o : Bool) (xs : List PV) : pLen [.lst o xs] = pLen1 (.lst o xs) := rfl
@[simp] theorem pp_lenT (xs : List PV) : pLen [.tup xs] = pLen1 (.tup xs) := rfl
@[simp] theorem pp_lenS (xs : Str) : pLen [.str xs] = pLen1 (.str xs) := rfl
end
theorem atI_of {α : Type} {xs : List α} {i : Int} {x : α} (h0 : 0 ≤ i) (h : xs[i.toNat]? = some x) : atI xs i = some x := by
  unfold atI ixN
  have : i < xs.length := by
    have := (List.getElem?_eq_some_iff.mp h).1
    omega
  rw [if_pos h0, if_pos this]
  exact h
@[simp] theorem atI_0 {α : Type} (x : α) (r : List α) : atI (x :: r) 0 = some x := atI_of (by decide) rfl
@[simp] theorem atI_1 {α : Type} (x y : α) (r : List α) : atI (x :: y :: r) 1 = some y := atI_of (by decide) rfl
@[simp] theorem atI_2 {α : Type} (x y z : α) (r : List α) : atI (x :: y :: z :: r) 2 = some z := atI_of (by decide) rfl
@[simp] theorem atI_3 {α : Type} (x y z w : α) (r : List α) : atI (x :: y :: z :: w :: r) 3 = some w := atI_of (by decide) rfl
@[simp] theorem atI_4 {α : Type} (x y z w u : α) (r : List α) : atI (x :: y :: z :: w :: u :: r) 4 = some u := atI_of (by decide) rfl
@[simp] theorem end_nx (pn : List Nat) (xs : List PV) (s : Sl) : endB pn xs (.nx s) = match backP pn 0 xs s with | some ys => .ok .non ys | none => .bad := rfl
@[simp] theorem end_rt (pn : List Nat) (xs : List PV) (x : PV) (s : Sl) : endB pn xs (.rt x s) = match backP pn 0 xs s with | some ys => .ok x ys | none => .bad := rfl
@[simp] theorem end_exc (pn : List Nat) (xs : List PV) (x : XV) (s : Sl) : endB pn xs (.exc x s) = match backP pn 0 xs s with | some ys => .exc x ys | none => .bad := rfl
@[simp] theorem back_nil (pn : List Nat) (i : Nat) (s : Sl) : backP pn i [] s = some [] := by cases s <;> rfl
@[simp] theorem back_cons (pn : List Nat) (i : Nat) (x : PV) (r : List PV) (o : Option PV) (t : Sl) : backP pn i (x :: r) (o :: t) = match (if x.own then (if pn.contains i then o else none) else some x), backP pn (i + 1) r t with
    | some y, some ys => some (y :: ys)
    | _, _ => none := rfl
def big6000 : Int := 1 * 2 ^ (6000 : Int).toNat
theorem big6000_pos : 0 < big6000 := by
  unfold big6000
  rw [Int.one_mul]
  exact Int.pow_pos (by decide)
@[simp] theorem pp_shl6000 : pShl [.int 1, .int 6000] = some (.int big6000) := by
  show @ite _ ((0 : Int) ≤ 6000 ∧ (6000 : Int) ≤ 1000000 ∧ (1 : Int).natAbs < 2 ^ 64) (Classical.propDecidable _) (some (PV.int (1 * 2 ^ (6000 : Int).toNat))) none = _
  rw [if_pos ⟨by decide, by decide, by decide⟩]
  rfl
@[simp] theorem pp_pow18 : pPow [.int 10, .int 18] = some (.int 1000000000000000000) := by
  show @ite _ ((0 : Int) ≤ 18 ∧ (18 : Int) ≤ 1000000 ∧ (10 : Int).natAbs < 2 ^ 64) (Classical.propDecidable _) (some (PV.int (10 ^ (18 : Int).toNat))) none = _
  rw [if_pos ⟨by decide, by decide, by decide⟩]
  rfl
@[simp] theorem len_lst (o : Bool) (xs : List PV) : pLen1 (.lst o xs) = some (.int xs.length) := rfl
@[simp] theorem len_tup (xs : List PV) : pLen1 (.tup xs) = some (.int xs.length) := rfl
theorem sm_of {i : Int} (h : -18446744073709551616 < i) (h2 : i < 18446744073709551616) : Bv.small64 i = true := by
  unfold Bv.small64
  exact @decide_eq_true _ (Classical.propDecidable _) ⟨by omega, by omega⟩
@[simp] theorem sm_2 : Bv.small64 2 = true := sm_of (by decide) (by decide)
@[simp] theorem sm_16807 : Bv.small64 16807 = true := sm_of (by decide) (by decide)
@[simp] theorem sm_48271 : Bv.small64 48271 = true := sm_of (by decide) (by decide)
@[simp] theorem sm_69621 : Bv.small64 69621 = true := sm_of (by decide) (by decide)
end Bv

set_option maxHeartbeats 1000000
namespace Bv
open PySem PySem.Spec PyProof.Rows L2

/-! ### comprehensions and loops, read off -/
theorem compL_inv {t : PV → Sl → Option Sl} {el : M PV} {own : List Nat} {P : PV → PV → Prop} {Inv : Sl → Prop} : ∀ {xs : List PV},
    (∀ x ∈ xs, ∀ s, Inv s → ∃ s1 y s3, t x s = some s1 ∧ el s1 = .ok y s3 ∧ P x y ∧ Inv (wipeS s3 own)) → ∀ acc s, Inv s → ∃ ys s', compL t mYes el own xs s acc = .ok (acc ++ ys) s' ∧ Paired P xs ys ∧ Inv s'
  | [], _, acc, s, hs => ⟨[], s, by simp [compL], .nil, hs⟩
  | x :: xs, h, acc, s, hs => by
    obtain ⟨s1, y, s3, e1, e2, p, i⟩ := h x List.mem_cons_self s hs
    obtain ⟨ys, s', e3, p2, i2⟩ := compL_inv (xs := xs) (fun z hz => h z (List.mem_cons_of_mem _ hz)) (acc ++ [y]) _ i
    exact ⟨y :: ys, s', by simp [compL, e1, e2, mYes, e3], .cons p p2, i2⟩
/-- a row made of a row, the places left as they were -/
theorem compL_map {t : PV → Sl → Option Sl} {el : M PV} {own : List Nat} {f : PV → PV} {s : Sl} : ∀ {xs : List PV},
    (∀ x ∈ xs, ∃ s1 s3, t x s = some s1 ∧ el s1 = .ok (f x) s3 ∧ wipeS s3 own = s) → ∀ acc, compL t mYes el own xs s acc = .ok (acc ++ xs.map f) s
  | [], _, acc => by simp [compL]
  | x :: xs, h, acc => by
    obtain ⟨s1, s3, e1, e2, e3⟩ := h x List.mem_cons_self
    have ih := compL_map (xs := xs) (fun z hz => h z (List.mem_cons_of_mem _ hz)) (acc ++ [f x])
    simp [compL, e1, e2, mYes, e3, ih]
/-- .. with a test -/
theorem compL_filter {t : PV → Sl → Option Sl} {cond : M Bool} {el : M PV} {own : List Nat} {f : PV → PV} {c : PV → Bool} {s : Sl} : ∀ {xs : List PV},
    (∀ x ∈ xs, ∃ s1 s2 s3, t x s = some s1 ∧ cond s1 = .ok (c x) s2 ∧ (c x = true → el s2 = .ok (f x) s3 ∧ wipeS s3 own = s) ∧ (c x = false → wipeS s2 own = s)) → ∀ acc, compL t cond el own xs s acc = .ok (acc ++ (xs.filter c).map f) s
  | [], _, acc => by simp [compL]
  | x :: xs, h, acc => by
    obtain ⟨s1, s2, s3, e1, e2, e3, e4⟩ := h x List.mem_cons_self
    cases hc : c x with
    | true =>
      obtain ⟨e5, e6⟩ := e3 hc
      have ih := compL_filter (xs := xs) (fun z hz => h z (List.mem_cons_of_mem _ hz)) (acc ++ [f x])
      rw [hc] at e2
      simp [compL, e1, e2, e5, e6, ih, hc]
    | false =>
      have e6 := e4 hc
      have ih := compL_filter (xs := xs) (fun z hz => h z (List.mem_cons_of_mem _ hz)) acc
      rw [hc] at e2
      simp [compL, e1, e2, e6, ih, hc]
theorem forL_inv {t : PV → Sl → Option Sl} {b : MS} {Inv : Nat → Sl → Prop} : ∀ {xs : List PV} (k : Nat),
    (∀ i x, xs[i]? = some x → ∀ s, Inv (k + i) s → ∃ s1 s2, t x s = some s1 ∧ (b s1 = .nx s2 ∨ b s1 = .ct s2) ∧ Inv (k + i + 1) s2) → ∀ s, Inv k s → ∃ s', forL t b xs s = .nx s' ∧ Inv (k + xs.length) s'
  | [], k, _, s, hs => ⟨s, rfl, hs⟩
  | x :: xs, k, h, s, hs => by
    obtain ⟨s1, s2, e1, e2, i⟩ := h 0 x rfl s hs
    obtain ⟨s', e3, i3⟩ := forL_inv (xs := xs) (k + 1) (fun j y hy s' hs' => by
      have := h (j + 1) y (by simpa using hy) s' (by rw [show k + (j + 1) = k + 1 + j by omega]; exact hs')
      rw [show k + (j + 1) + 1 = k + 1 + j + 1 by omega] at this
      exact this) s2 i
    refine ⟨s', ?_, by rw [show k + (x :: xs).length = k + 1 + xs.length by simp; omega]; exact i3⟩
    rcases e2 with e2 | e2 <;> simp [forL, e1, e2, e3]
theorem keysL_map {t : PV → Sl → Option Sl} {el : M PV} {own : List Nat} {f : PV → Key} {g : PV → PV} {s : Sl} : ∀ {xs : List PV},
    (∀ x ∈ xs, ∃ s1 s3, t x s = some s1 ∧ el s1 = .ok (g x) s3 ∧ keyP (g x) = some (f x) ∧ wipeS s3 own = s) → ∀ acc, keysL t mYes el own xs s acc = .ok ((xs.map f).foldl insK acc) s
  | [], _, acc => by simp [keysL]
  | x :: xs, h, acc => by
    obtain ⟨s1, s3, e1, e2, e4, e3⟩ := h x List.mem_cons_self
    have ih := keysL_map (xs := xs) (f := f) (g := g) (fun z hz => h z (List.mem_cons_of_mem _ hz)) (insK acc (f x))
    simp [keysL, e1, e2, mYes, e3, e4, ih]
theorem insK_fold_nodup : ∀ (l acc : List Key), (∀ k ∈ l, k ∉ acc) → l.Nodup → l.foldl insK acc = acc ++ l
  | [], acc, _, _ => by simp
  | k :: l, acc, h, nd => by
    have hk : k ∉ acc := h k List.mem_cons_self
    have e : insK acc k = acc ++ [k] := by unfold insK; rw [if_neg hk]
    rw [List.foldl_cons, e, insK_fold_nodup l (acc ++ [k]) (fun j hj => by
      rw [List.mem_append, List.mem_singleton]
      rintro (z | z)
      · exact h j (List.mem_cons_of_mem _ hj) z
      · subst z; exact (List.nodup_cons.mp nd).1 hj) (List.nodup_cons.mp nd).2]
    simp
theorem insK_fold_le : ∀ (l acc : List Key), (l.foldl insK acc).length ≤ acc.length + l.length
  | [], acc => by simp
  | k :: l, acc => by
    have := insK_fold_le l (insK acc k)
    have := insK_len acc k
    rw [List.foldl_cons, List.length_cons]
    omega
theorem insK_fold_lt : ∀ (l acc : List Key), ¬ ((∀ k ∈ l, k ∉ acc) ∧ l.Nodup) → (l.foldl insK acc).length < acc.length + l.length
  | [], acc, h => absurd ⟨by simp, List.nodup_nil⟩ h
  | k :: l, acc, h => by
    rw [List.foldl_cons, List.length_cons]
    by_cases hk : k ∈ acc
    · have e : insK acc k = acc := by unfold insK; rw [if_pos hk]
      rw [e]
      have := insK_fold_le l acc
      omega
    · have e : insK acc k = acc ++ [k] := by unfold insK; rw [if_neg hk]
      rw [e]
      have := insK_fold_lt l (acc ++ [k]) (fun ⟨h1, h2⟩ => h ⟨fun j hj => by
        rcases List.mem_cons.mp hj with z | z
        · subst z; exact hk
        · exact fun y => h1 j z (List.mem_append_left _ y), List.nodup_cons.mpr ⟨fun z => h1 k z (by simp), h2⟩⟩)
      rw [List.length_append, List.length_singleton] at this
      omega
@[simp] theorem wipe_nil (s : Sl) : wipeS s [] = s := rfl
@[simp] theorem wipe_cons (s : Sl) (v : Nat) (vs : List Nat) : wipeS s (v :: vs) = (wipeS s vs).set v none := rfl
@[simp] theorem itSeq_lst (o : Bool) (xs : List PV) : itSeq [.lst o xs] = if PV.owns xs = false then some xs else none := rfl
@[simp] theorem itSeq_tup (xs : List PV) : itSeq [.tup xs] = if PV.owns xs = false then some xs else none := rfl
@[simp] theorem itSeq_str (y : Str) : itSeq [.str y] = some (y.cps.toList.map fun c => .str ⟨#[c]⟩) := rfl
theorem itR1 (j : Int) : itRng1 [.int j] = if -(2 ^ 62) ≤ j ∧ j < 2 ^ 62 then some ((List.range j.toNat).map fun (k : Nat) => .int (k : Int)) else none := by
  by_cases h : -(2 ^ 62) ≤ j ∧ j < 2 ^ 62 <;> simp only [itRng1, h, and_self, if_true, if_false]
theorem itR2 (i j : Int) : itRng2 [.int i, .int j] = if -(2 ^ 62) ≤ i ∧ i < 2 ^ 62 ∧ -(2 ^ 62) ≤ j ∧ j < 2 ^ 62 then some ((List.range (j - i).toNat).map fun (k : Nat) => .int (i + (k : Int))) else none := by
  by_cases h : -(2 ^ 62) ≤ i ∧ i < 2 ^ 62 ∧ -(2 ^ 62) ≤ j ∧ j < 2 ^ 62 <;> simp only [itRng2, h, and_self, if_true, if_false]
@[simp] theorem tN_tup (is : List Nat) (xs : List PV) (s : Sl) : tN is (.tup xs) s = if xs.length = is.length then some ((is.zip xs).foldl (fun s p => s.set p.1 (some p.2)) s) else none := rfl
@[simp] theorem fin_nx (ps : List Pnd) (vals : List PV) (s : Sl) : finL ps vals (.nx s) = .nx (putP ps vals s) := rfl
@[simp] theorem fin_rt (ps : List Pnd) (vals : List PV) (x : PV) (s : Sl) : finL ps vals (.rt x s) = .rt x (putP ps vals s) := rfl
@[simp] theorem locs_nil (pn : List Nat) : locsIn pn [] = true := rfl
@[simp] theorem locs_loc (pn : List Nat) (i : Nat) (r : List Pnd) : locsIn pn (.loc i :: r) = (pn.contains i && locsIn pn r) := rfl
@[simp] theorem locs_val (pn : List Nat) (x : PV) (r : List Pnd) : locsIn pn (.val x :: r) = locsIn pn r := rfl
@[simp] theorem app_app (xs : List PV) (y : PV) : fApp (.lst true xs) [y] = if xs.length < LIM then some (.non, .lst true (xs ++ [y])) else none := rfl
@[simp] theorem pp_tupleL (o : Bool) (xs : List PV) : pTuple [.lst o xs] = if PV.owns xs = false then some (.tup xs) else none := rfl
@[simp] theorem pp_tupleT (xs : List PV) : pTuple [.tup xs] = if PV.owns xs = false then some (.tup xs) else none := rfl
@[simp] theorem pp_listL (o : Bool) (xs : List PV) : pList [.lst o xs] = if PV.owns xs = false then some (.lst true xs) else none := rfl
@[simp] theorem pp_listT (xs : List PV) : pList [.tup xs] = if PV.owns xs = false then some (.lst true xs) else none := rfl
end Bv

set_option maxHeartbeats 1000000
namespace Bv
open PySem PySem.Spec PyProof.Rows L2

theorem sh_int (i : Int) : shD (.int i) = some (.int i) := rfl
theorem sh_bl (i : Bool) : shD (.bl i) = some (.bool i) := rfl
theorem sh_non : shD .non = some .none := rfl
theorem sh_str {x : Str} (h : PyData.strOk x = true) : shD (.str x) = some (.str x) := by
  have e : SeqAt.shaped (.str x) = true := by
    unfold SeqAt.shaped
    rw [show PyData.canLay0 (.str x) = true from h, show PyData.depth (.str x) = 0 from rfl]
    rfl
  unfold shD
  show (if SeqAt.shaped (.str x) = true then some (PyData.str x) else none) = _
  rw [if_pos e]
@[simp] theorem eq_int (n : Bool) (a b : Int) : pEq n [.int a, .int b] = some (.bl (if n then !decide (a = b) else decide (a = b))) := by
  have e : PyData.eqv (.int a) (.int b) = decide (a = b) := by
    show (a == b) = _
    by_cases h : a = b <;> simp [h]
  unfold pEq
  simp only [sh_int, e]
theorem eq_str (n : Bool) {a b : Str} (ha : PyData.strOk a = true) (hb : PyData.strOk b = true) : pEq n [.str a, .str b] = some (.bl (if n then !decide (a = b) else decide (a = b))) := by
  have e : PyData.eqv (.str a) (.str b) = decide (a = b) := by
    show (a == b) = _
    by_cases h : a = b <;> simp [h]
  unfold pEq
  simp only [sh_str ha, sh_str hb, e]
theorem toDs_strs : ∀ ys : List Str, toDs (ys.map PV.str) = some (ys.map PyData.str)
  | [] => rfl
  | y :: ys => by simp only [List.map_cons, toDs, toD, toDs_strs ys]
theorem lay_strs : ∀ ys : List Str, (∀ y ∈ ys, PyData.strOk y = true) → PyData.canLayAll0 (ys.map PyData.str) = true
  | [], _ => rfl
  | y :: ys, h => by
    show (PyData.canLay0 (.str y) && PyData.canLayAll0 (ys.map PyData.str)) = true
    rw [lay_strs ys fun z hz => h z (List.mem_cons_of_mem _ hz), show PyData.canLay0 (.str y) = true from h y List.mem_cons_self]
    rfl
theorem dep_strs : ∀ ys : List Str, PyData.depthAll (ys.map PyData.str) = 0
  | [] => rfl
  | y :: ys => by
    show max (PyData.depth (.str y)) (PyData.depthAll (ys.map PyData.str)) = 0
    rw [dep_strs ys]
    rfl
theorem in_strs (n o : Bool) {a : Str} {ys : List Str} (ha : PyData.strOk a = true) (hy : ∀ y ∈ ys, PyData.strOk y = true) : pIn n [.str a, .lst o (ys.map PV.str)] = some (.bl (if n then !decide (a ∈ ys) else decide (a ∈ ys))) := by
  have e1 : SeqAt.shaped (.list (ys.map PyData.str)) = true := by
    unfold SeqAt.shaped
    rw [show PyData.canLay0 (.list (ys.map PyData.str)) = PyData.canLayAll0 (ys.map PyData.str) from rfl, lay_strs ys hy, show PyData.depth (.list (ys.map PyData.str)) = PyData.depthAll (ys.map PyData.str) + 1 from rfl, dep_strs]
    rfl
  have e2 : ((ys.map PyData.str).any fun z => PyData.eqv z (.str a)) = decide (a ∈ ys) := by
    induction ys with
    | nil => rfl
    | cons y ys ih =>
      have ih := ih (fun z hz => hy z (List.mem_cons_of_mem _ hz)) (by
        unfold SeqAt.shaped
        rw [show PyData.canLay0 (.list (ys.map PyData.str)) = PyData.canLayAll0 (ys.map PyData.str) from rfl, lay_strs ys fun z hz => hy z (List.mem_cons_of_mem _ hz), show PyData.depth (.list (ys.map PyData.str)) = PyData.depthAll (ys.map PyData.str) + 1 from rfl, dep_strs]
        rfl)
      rw [List.map_cons, List.any_cons, ih, show PyData.eqv (.str y) (.str a) = (y == a) from rfl]
      by_cases h : y = a
      · subst h; simp
      · have h2 : a ≠ y := fun e => h e.symm
        simp [h, h2]
  show inSeq n (.str a) (ys.map PV.str) = _
  unfold inSeq
  simp only [sh_str ha, toDs_strs, e1, if_true, e2]
@[simp] theorem pp_split_in (n : Bool) (a b : Str) : pIn n [.str a, .str b] = some (inStr n a b) := rfl
@[simp] theorem pp_pop (xs : List PV) (i : Int) : fPopAt (.lst true xs) [.int i] = if -(2 ^ 63) ≤ i ∧ i < 2 ^ 63 then (match seqIndex? i xs.length with
    | some k => match xs[k]? with | some y => some (y, .lst true (xs.eraseIdx k)) | none => none
    | none => none) else none := by
  by_cases h : -(2 ^ 63) ≤ i ∧ i < 2 ^ 63
  · rw [if_pos h]; show @ite _ _ (Classical.propDecidable _) _ _ = _; rw [if_pos h] <;> rfl
  · rw [if_neg h]; show @ite _ _ (Classical.propDecidable _) _ _ = _; rw [if_neg h]
theorem seqIx {i : Int} {n : Nat} (h0 : 0 ≤ i) (h1 : i < n) : seqIndex? i n = some i.toNat := by
  have h2 : ¬ i < 0 := by omega
  unfold seqIndex?
  simp [h2, h0, h1]
theorem frz_id {x : PV} (h : x.own = false) : frzP x = some x := by
  cases x with
  | lst o xs =>
    cases o with
    | true => simp at h
    | false => simp at h; simp [h]
  | tup xs => simp at h; simp [h]
  | dK _ => simp [PV.own] at h
  | dT _ => simp [PV.own] at h
  | sK _ => simp [PV.own] at h
  | _ => rfl
theorem perm_erase_cons {α : Type} : ∀ {l : List α} {k : Nat} (h : k < l.length), (l[k] :: l.eraseIdx k).Perm l
  | x :: l, 0, h => .refl _
  | x :: l, k + 1, h => by
    have hk : k < l.length := by simpa using h
    have ih := perm_erase_cons (l := l) (k := k) hk
    show (l[k] :: x :: l.eraseIdx k).Perm (x :: l)
    exact (List.Perm.swap x l[k] _).trans (List.Perm.cons x ih)
def rngP (n : Nat) : List PV := (List.range n).map fun (k : Nat) => .int (k : Int)
theorem it_nat {j : Int} (h0 : 0 ≤ j) (h : j < 4611686018427387904) : itRng1 [.int j] = some (rngP j.toNat) := by
  rw [itR1, if_pos ⟨by omega, by omega⟩]
  rfl
@[simp] theorem rngP_len (n : Nat) : (rngP n).length = n := by unfold rngP; simp
theorem lim_le {n : Nat} (h : n ≤ 16777216) : n ≤ LIM := h
theorem lim_lt {n : Nat} (h : n < 16777216) : n < LIM := h
@[simp] theorem lim_0 : 0 ≤ LIM := Nat.zero_le _
@[simp] theorem lim_1 : 1 ≤ LIM := by decide
@[simp] theorem lim_2 : 2 ≤ LIM := by decide
@[simp] theorem lim_3 : 3 ≤ LIM := by decide
@[simp] theorem lim_4 : 4 ≤ LIM := by decide
@[simp] theorem lim_5 : 5 ≤ LIM := by decide
@[simp] theorem lim_6 : 6 ≤ LIM := by decide
end Bv

set_option maxHeartbeats 1000000
namespace Bv
open PySem PySem.Spec PyProof.Rows L2

/-! ### is None, is not None -/
def isNon : PV → Bool
  | .non => true
  | _ => false
def pIsN (n : Bool) : List PV → Option PV
  | [x, .non] => some (.bl (if n then !isNon x else isNon x))
  | _ => none
section
variable {K : PySem.W.Frag} {H : Hp}
theorem non_iff {x : PV} {v : V} {g : Fp} (r : Rep K H x v g) : decide (v = V.non) = isNon x := by
  cases x with
  | non => rw [r.1]; rfl
  | bl b => rw [r.1]; rfl
  | int b => rw [r.1]; rfl
  | str b => rw [r.1]; rfl
  | tup xs => obtain ⟨a, va, rfl, _⟩ := r.tupAt; rfl
  | lst o xs => obtain ⟨a, va, ga, rfl, _⟩ := r.lstAt; rfl
  | dK xs => obtain ⟨a, ws, g, rfl, _⟩ := r; rfl
  | dT xs => obtain ⟨a, ws, g, rfl, _⟩ := r; rfl
  | sK _ => exact r.elim
theorem vo_isN : VOp K (pIsN false) (r2L (fun x y H Q => y = .non ∧ Q (.bl (decide (x = .non))) H)) := by
  intro H xs vs z Q hr hf q
  match xs, hf with
  | [x, .non], hf =>
    obtain ⟨v, w, g, k, rfl, rx, ⟨rfl, _⟩⟩ := rw2 hr
    cases (Option.some.inj hf)
    exact ⟨v, _, rfl, rfl, by rw [non_iff rx]; exact q _ H Z0 rep_bl (fr0 H)⟩
theorem vo_notN : VOp K (pIsN true) (r2L (fun x y H Q => y = .non ∧ Q (.bl (!decide (x = .non))) H)) := by
  intro H xs vs z Q hr hf q
  match xs, hf with
  | [x, .non], hf =>
    obtain ⟨v, w, g, k, rfl, rx, ⟨rfl, _⟩⟩ := rw2 hr
    cases (Option.some.inj hf)
    exact ⟨v, _, rfl, rfl, by rw [non_iff rx]; exact q _ H Z0 rep_bl (fr0 H)⟩
end

/-! ### slices with both bounds -/
section
variable {X : Cx} {W : WX} {a b c e : Expr} {es : List Expr} {pos p2 p : Pos}
def mSl3 (oa ob oc : M Pnd) : M PV := fun s => (oa s).bind fun pa s1 => (ob s1).bind fun pb s2 => match intOf s2 pb with
  | some i => (oc s2).bind fun pc s3 => (match intOf s3 pc with
    | some j => (match Pnd.gets s3 [pa] with
      | some xs => (match p1 (pCut (some i) (some j)) xs with | some z => .ok z s3 | none => .bad)
      | none => .bad)
    | none => .bad)
  | none => .bad
theorem se_slBoth {oa ob oc : M Pnd} (ha : SO X W a oa) (hb : SO X W b ob) (hc : SO X W c oc) : SE X W (.Subscript a (.Slice (some b) (some c) none p2) pos) (mSl3 oa ob oc) :=
  PE.weaken (pe_slice sl_all ha (po_some hb) (po_some hc)) fun σ H Q q => by
    refine rdG.bind (ρ := PRep X.K σ) q fun f a s1 v H1 g f1 h0 h1 h2 h3 h4 h5 => ?_
    refine rdG.next (ρ := PRep X.K σ) (stable_prep X.K σ) h1 h2 h3 h4 h5 fun p2 s2 v2 H2 g2 f2 k1 k2 k3 k4 k5 k6 => ?_
    cases e1 : intOf s2 p2 with
    | none => rw [e1] at k6; exact k6.elim
    | some i =>
      rw [e1] at k6
      obtain ⟨hv, hg⟩ := intOf_rep k3 k2 e1
      refine ⟨i, hv, ?_⟩
      have k4' : ∀ b, g b + f2 b ≤ 1 := fun b => by have := k4 b; rw [hg b] at this; omega
      have k5' : Frm H H2 f (fun b => g b + f2 b) := ⟨k5.keep, fun b o e z => by have : g b + g2 b + f2 b = 0 := k5.own b o e z; show g b + f2 b = 0; omega⟩
      refine rdG.next (ρ := PRep X.K σ) (stable_prep X.K σ) k1 k3 k4' k5' k6 fun p3 s3 v3 H3 g3 f3 l1 l2 l3 l4 l5 l6 => ?_
      cases e2 : intOf s3 p3 with
      | none => rw [e2] at l6; exact l6.elim
      | some j =>
        rw [e2] at l6
        obtain ⟨hv3, hg3⟩ := intOf_rep l3 l2 e2
        refine ⟨j, hv3, ?_⟩
        have l4' : ∀ b, g b + f3 b ≤ 1 := fun b => by have := l4 b; rw [hg3 b] at this; omega
        have l5' : Frm H H3 f (fun b => g b + f3 b) := ⟨l5.keep, fun b o e z => by have : g b + g3 b + f3 b = 0 := l5.own b o e z; show g b + f3 b = 0; omega⟩
        obtain ⟨x, ex, hx⟩ := op_end (r := fun vs H2 Q => ∃ x, vs = [x] ∧ rSlAll X.K x (some i) (some j) H2 Q) (f := p1 (pCut (some i) (some j))) (fun H xs vs z Q hr hf q => by
          match xs, hf with
          | [x], hf =>
            obtain ⟨v, g, rfl, rx⟩ := rw1 hr
            exact ⟨v, rfl, cut_ok rx hf q⟩) (ps := [a]) (vs := [v]) (g := g) ⟨v, [], g, Z0, rfl, l1, ⟨rfl, fun _ => rfl⟩, fun b => rfl⟩ l3 l4' l5' l6
        cases ex
        exact hx

/-! ### texts: endswith, count; places in lists -/
variable {o : Expr} {mo : M PV} {oe oo : M Pnd} {apos : Pos}
def pEnds : List PV → Option PV
  | [.str a, .str b] => some (.bl (Txt.endswith a b))
  | _ => none
def pCount : List PV → Option PV
  | [.str a, .str b] => some (.int (Txt.count a b))
  | _ => none
theorem vo_ends {K : PySem.W.Frag} : VOp K pEnds (fun vs H Q => ∃ x y, vs = [x, y] ∧ ∃ a b, x = .str a ∧ [y] = [.str b] ∧ Q (.bl (Txt.endswith a b)) H) := by
  intro H xs vs z Q hr hf q
  match xs, hf with
  | [.str a, .str b], hf =>
    obtain ⟨v, w, g, k, rfl, ⟨rfl, _⟩, ⟨rfl, _⟩⟩ := rw2 hr
    cases (Option.some.inj hf)
    exact ⟨_, _, rfl, a, b, rfl, rfl, q _ H Z0 rep_bl (fr0 H)⟩
theorem vo_count {K : PySem.W.Frag} : VOp K pCount (fun vs H Q => ∃ x y, vs = [x, y] ∧ ∃ a b, x = .str a ∧ [y] = [.str b] ∧ Q (.int (Txt.count a b)) H) := by
  intro H xs vs z Q hr hf q
  match xs, hf with
  | [.str a, .str b], hf =>
    obtain ⟨v, w, g, k, rfl, ⟨rfl, _⟩, ⟨rfl, _⟩⟩ := rw2 hr
    cases (Option.some.inj hf)
    exact ⟨_, _, rfl, a, b, rfl, rfl, q _ H Z0 rep_int (fr0 H)⟩
theorem se_ends (ho : SE X W o mo) (he : SO X W a oe) (hs : starEach [a] X.env = [(false, eval a X.env)] := by rfl) (hbase : attributeBase o "endswith" X.env (eval o X.env) = eval o X.env := by rfl) (hline : (apos.endLine == pos.line) = true := by rfl) :
    SE X W (.Call (.Attribute o "endswith" apos) [a] [] pos) (mStr1 pEnds mo oe) := PE.weaken (pe_m1 PySem.F.slot_str_endswith PySem.F.type_str_endswith mt_endswith ho he hs hbase hline) fun σ H Q q => str1_end vo_ends q
theorem se_count (ho : SE X W o mo) (he : SO X W a oe) (hs : starEach [a] X.env = [(false, eval a X.env)] := by rfl) (hbase : attributeBase o "count" X.env (eval o X.env) = eval o X.env := by rfl) (hline : (apos.endLine == pos.line) = true := by rfl) :
    SE X W (.Call (.Attribute o "count" apos) [a] [] pos) (mStr1 pCount mo oe) := PE.weaken (pe_m1 PySem.F.slot_str_count PySem.F.type_str_count mt_count ho he hs hbase hline) fun σ H Q q => str1_end vo_count q
/-- a reading method of a list (it is not changed), one argument -/
def mLst1 (f : List PV → Option PV) (oo oe : M Pnd) : M PV := fun s => (oo s).bind fun p1 s1 => match Pnd.gets s1 [p1] with
  | some [.lst _ _] => (oe s1).bind fun p s2 => (match Pnd.gets s2 [p1, p] with
    | some xs => (match f xs with | some z => .ok z s2 | none => .bad)
    | none => .bad)
  | _ => .bad
theorem lst1_end {f : List PV → Option PV} {r : V → List V → Hp → VK → Prop} (vo : VOp X.K f (fun vs H Q => ∃ x y, vs = [x, y] ∧ r x [y] H Q)) {σ : L2.St} {H : Hp} {Q : VK} (q : rdG (Rep X.K) X W (mLst1 f oo oe) σ H Q) :
    rdG (PRep X.K σ) X W oo σ H (fun x H1 => tyV X.K "list" x H1 ∧ rdG (PReps X.K σ) X W (oCons oe oNil) σ H1 (fun xs H2 => r x xs H2 Q)) := by
  refine rdG.bind (ρ := PRep X.K σ) q fun F p1 s1 v H1 g f1 h0 h1 h2 h3 h4 h5 => ?_
  cases e1 : Pnd.gets s1 [p1] with
  | none => rw [e1] at h5; exact h5.elim
  | some xs =>
    rw [e1] at h5
    have rw_ := gets_rep h2 (ps := [p1]) (vs := [v]) (g := g) ⟨v, [], g, Z0, rfl, h1, ⟨rfl, fun _ => rfl⟩, fun b => rfl⟩ e1
    match xs, h5 with
    | [.lst o ys], h5 =>
      obtain ⟨v', g', ev, r'⟩ := rw1 rw_
      cases ev
      obtain ⟨p, va, ga, rfl, ha, za, sa⟩ := r'.lstAt
      refine ⟨.inl ⟨rfl, va, ha⟩, ?_⟩
      have h5' : GP (Rep X.K) X W H F σ Q ((oCons oe oNil s1).bind fun ps s2 => match Pnd.gets s2 (p1 :: ps) with
          | some xs => (match f xs with | some z => .ok z s2 | none => .bad)
          | none => .bad) := by
        have e : ((oCons oe oNil s1).bind fun ps s2 => match Pnd.gets s2 (p1 :: ps) with
          | some xs => (match f xs with | some z => R.ok z s2 | none => .bad)
          | none => .bad) = ((oe s1).bind fun p s2 => match Pnd.gets s2 [p1, p] with
          | some xs => (match f xs with | some z => R.ok z s2 | none => .bad)
          | none => .bad) := by simp only [oCons, oNil, R.bind_assoc, R.bind_ok]
        rw [e]; exact h5
      refine rdG.next (ρ := PReps X.K σ) (stable_prep X.K σ) h1 h2 h3 h4 h5' fun ps s2 ws H2 g2 f2 k1 k2 k3 k4 k5 k6 => ?_
      obtain ⟨x', y', e, hq⟩ := op_end (r := fun vs H Q => ∃ x y, vs = [x, y] ∧ r x [y] H Q) vo (g := fun b => g b + g2 b) (ps := p1 :: ps) (vs := .ref p :: ws) ⟨.ref p, ws, g, g2, rfl, k1, k2, fun _ => rfl⟩ k3 k4 k5 k6
      cases e
      exact hq
def pIndex : List PV → Option PV
  | [.lst _ ys, x] => match shD x, toDs ys with
    | some d, some ds => if SeqAt.shaped (.list ds) = true then (match ds.findIdx? (fun z => PyData.eqv z d) with | some j => some (.int (j : Nat)) | none => none) else none
    | _, _ => none
  | _ => none
theorem vo_index {K : PySem.W.Frag} : VOp K pIndex (fun vs H Q => ∃ x y, vs = [x, y] ∧ rIndexD K x [y] H Q) := by
  intro H xs vs z Q hr hf q
  match xs, hf with
  | [.lst o ys, x], hf =>
    obtain ⟨v, w, g, k, rfl, rl, rx⟩ := rw2 hr
    simp only [pIndex] at hf
    cases e1 : shD x with
    | none => rw [e1] at hf; cases hf
    | some d =>
      cases e2 : toDs ys with
      | none => rw [e1, e2] at hf; cases hf
      | some ds =>
        rw [e1, e2] at hf
        dsimp only at hf
        split at hf
        · rename_i hs
          split at hf
          · rename_i j ej
            cases hf
            obtain ⟨a1, a2⟩ := shD_ok e1
            rw [List.findIdx?_eq_some_iff_getElem] at ej
            obtain ⟨hj, h1, h2⟩ := ej
            have rl' := rl
            obtain ⟨p, va, ga, ep, ha, za, sa⟩ := rl'.lstAt
            subst ep
            refine ⟨_, _, rfl, p, w, d, ds, j, ds[j], rfl, rfl, dp_of rl (by simp only [toD, e2, Option.map_some]), dp_of rx a1, hs, a2, List.getElem?_eq_getElem hj, h1, fun m z' hm hz => ?_, q _ H Z0 rep_int (fr0 H)⟩
            obtain ⟨hm2, rfl⟩ := List.getElem?_eq_some_iff.mp hz
            have := h2 m hm
            simpa using this
          · cases hf
        · cases hf
theorem se_index (hu : X.A.units + 65 < cLine) (ho : SO X W o oo) (he : SO X W a oe)
    (hbase : attributeBase o "index" X.env (eval o X.env) = eval o X.env := by rfl)
    (hfew : ((backTo pos (starEach [a] X.env)).all (fun x => !x.1) && (backToKw pos (keywordEach [] X.env)).all (fun x => x.1.isSome)
      && decide ([a].length + ([] : List Keyword).length + (if ([] : List Keyword).isEmpty then 0 else 1) < 30)) = true := by rfl)
    (hline : (apos.endLine == pos.line) = true := by rfl) (hs : starEach [a] X.env = (false, eval a X.env) :: starEach [] X.env := by rfl) (hplain : (backTo pos (starEach [] X.env)).any (·.1) = false := by rfl) :
    SE X W (.Call (.Attribute o "index" apos) [a] [] pos) (mLst1 pIndex oo oe) :=
  PE.weaken (pe_bm PySem.F.plainAttrs_list PySem.F.slot_list_index PySem.F.type_list_index (mt_indexD hu) ho (sa_cons he sa_nil hs) hbase hfew hline hs hplain) fun σ H Q q => lst1_end vo_index q
end

/-! ### for k, x in enumerate(list) -/
def enumP : Nat → List PV → List PV
  | _, [] => []
  | n, x :: r => .tup [.int (n : Nat), x] :: enumP (n + 1) r
theorem enumP_len : ∀ (n : Nat) (xs : List PV), (enumP n xs).length = xs.length
  | _, [] => rfl
  | n, x :: r => by simp [enumP, enumP_len (n + 1) r]
theorem enumP_get : ∀ (n : Nat) (xs : List PV) (i : Nat), (enumP n xs)[i]? = (xs[i]?).map fun x => .tup [.int ((n + i : Nat)), x]
  | _, [], i => by simp [enumP]
  | n, x :: r, 0 => by simp [enumP]
  | n, x :: r, i + 1 => by
    simp only [enumP, List.getElem?_cons_succ, enumP_get (n + 1) r i]
    rw [show n + 1 + i = n + (i + 1) by omega]
def itEnum : List PV → Option (List PV)
  | [.lst _ xs] => if PV.owns xs = false then some (enumP 0 xs) else none
  | _ => none
section
variable {K : PySem.W.Frag} {X : Cx} {W : WX} {l : Expr} {p pos tpos : Pos} {elts : List Expr} {kk : Nat}
theorem si_enum {o : M Pnd} (h : SO X W l o) (hg : Gl X "enumerate") (hm : X.mg "enumerate" = none) (hst : starEach [l] X.env = (false, eval l X.env) :: starEach [] X.env) (hs : starEach [l] X.env = [(false, eval l X.env)]) : SI X W (.Tuple elts kk tpos) (.Call (.Name "enumerate" p) [l] [] pos) (oCons o oNil) (fun vs H R => ∃ a xs, vs = [.ref a] ∧ SqL X.K H a xs ∧ R (Ite X.K a) H) :=
  pi_enum hg hm (sa_cons h sa_nil hst) hs
theorem vi_enum : VIt K itEnum (fun vs H R => ∃ a xs, vs = [.ref a] ∧ SqL K H a xs ∧ R (Ite K a) H) := by
  intro H vals vs g xs R hr hf q
  match vals, hf with
  | [.lst o ys], hf =>
    obtain ⟨v, ws, g1, g2, rfl, r, ⟨rfl, z2⟩, hg⟩ := hr
    have hgg : ∀ b, g b = g1 b := fun b => by rw [hg b, z2 b]; rfl
    have r : Rep K H (.lst o ys) v g := r.congr hgg
    simp only [itEnum] at hf
    split at hf
    · rename_i n
      cases hf
      obtain ⟨a, va, ga, rfl, ha, za, sa⟩ := id r.lstAt
      refine ⟨a, va, rfl, ha, q _ (fun H' => Rep K H' (.lst o ys) (.ref a) g) ⟨fun i H' hi hlt => ?_, fun H' hi => ?_, fun i H' v H2 x hi hx hy => ?_, fun H' H2 F k m d hi => hi.kept k m d⟩ r⟩
      · obtain ⟨a', vb, gb, e, hb, _, sb⟩ := hi.lstAt
        cases e
        have : i < vb.length := by rw [sb.length]; rw [enumP_len] at hlt; exact hlt
        exact ⟨vb, vb[i], hb, List.getElem?_eq_getElem this⟩
      · obtain ⟨a', vb, gb, e, hb, _, sb⟩ := hi.lstAt
        cases e
        exact ⟨vb, hb, by rw [sb.length, enumP_len]; exact Nat.le_refl _⟩
      · obtain ⟨a', vb, gb, e, hb, _, sb⟩ := hi.lstAt
        cases e
        obtain ⟨T, u, rfl, hT, rfl, hv⟩ := hy
        rw [enumP_get] at hx
        cases ey : ys[i]? with
        | none => rw [ey] at hx; cases hx
        | some y =>
          rw [ey] at hx
          have hx : PV.tup [.int ((0 + i : Nat)), y] = x := by simpa using hx
          subst hx
          have ru := (sb.seq n).at' i y u ey (hv vb hb)
          have sq : Seq0 K H' [.int ((0 + i : Nat)), y] [.int ((0 + i : Nat)), u] := ⟨rfl, fun j x v h1 h2 => by
            match j with
            | 0 => simp at h1 h2; subst h1; subst h2; exact rep_int
            | 1 => simp at h1 h2; subst h1; subst h2; exact ru
            | j + 2 => simp at h1⟩
          rw [show ((i : Nat) : Int) = ((0 + i : Nat) : Int) by omega]
          obtain ⟨t1, t2⟩ := newTup (p := T) sq (by rw [lim_eq]; exact (lim_2 : 2 ≤ LIM)) hT
          exact ⟨t1, t2.keep⟩
    · cases hf
end

/-! ### recursion: nothing is promised -/
theorem fb_bad {P : Program} {w : World} {K : PySem.W.Frag} {mg : Str → Option Value} {base : Heap} {k : Nat} {x : Str} {st : Stmt} {f : Addr} {fd : FuncData} {ps : List Str} (F : Fun K x x st f fd) (gx : mg x = some (.ref f)) (bd : Binds K fd ps []) :
    FB P w K mg base k x ps.length (fun _ => .bad) :=
  ⟨f, fd, ps, rfl, gx, F.kp, bd, ⟨fun vs H Q E ⟨xs, g, _, _, _, c⟩ => c.elim, fun A outer s H args us vs Q E _ _ _ _ ⟨xs, g, _, _, _, c⟩ => c.elim⟩⟩
@[simp] theorem pp_isN (n : Bool) (x : PV) : pIsN n [x, .non] = some (.bl (if n then !isNon x else isNon x)) := rfl
@[simp] theorem isNon_non : isNon .non = true := rfl
@[simp] theorem isNon_int (i : Int) : isNon (.int i) = false := rfl
@[simp] theorem isNon_tup (i : List PV) : isNon (.tup i) = false := rfl
@[simp] theorem isNon_lst (o : Bool) (i : List PV) : isNon (.lst o i) = false := rfl
@[simp] theorem isNon_str (i : Str) : isNon (.str i) = false := rfl
@[simp] theorem isNon_bl (i : Bool) : isNon (.bl i) = false := rfl
@[simp] theorem ap_Sl3 (oa ob oc : M Pnd) (s : Sl) : mSl3 oa ob oc s = (oa s).bind fun pa s1 => (ob s1).bind fun pb s2 => match intOf s2 pb with
  | some i => (oc s2).bind fun pc s3 => (match intOf s3 pc with
    | some j => (match Pnd.gets s3 [pa] with
      | some xs => (match p1 (pCut (some i) (some j)) xs with | some z => .ok z s3 | none => .bad)
      | none => .bad)
    | none => .bad)
  | none => .bad := Eq.trans rfl rfl
@[simp] theorem ap_Lst1 (f : List PV → Option PV) (oo oe : M Pnd) (s : Sl) : mLst1 f oo oe s = (oo s).bind fun p1 s1 => match Pnd.gets s1 [p1] with
  | some [.lst _ _] => (oe s1).bind fun p s2 => (match Pnd.gets s2 [p1, p] with
    | some xs => (match f xs with | some z => .ok z s2 | none => .bad)
    | none => .bad)
  | _ => .bad := Eq.trans rfl rfl
@[simp] theorem ap_Mk (cls : Str) (flds : List Str) (ms : M (List PV)) (s : Sl) : mMk cls flds ms s = (ms s).bind fun xs s' => if xs.length = flds.length ∧ PV.owns xs = false then .ok ⟨cls, (flds.zip xs).reverse⟩ s' else .bad := Eq.trans rfl rfl
@[simp] theorem ap_Try (cat : XV → Option Bool) (i : Nat) (b : MS) (h : XV → Sl → UO) (s : Sl) : mTry cat i b h s = match b s with
  | .exc x s' => match cat x with
    | some true => if i < s'.length then (match h x (s'.set i none) with
      | .ret y => .rt y (s'.set i none)
      | .nx => .nx (s'.set i none)
      | .bad => .bad) else .bad
    | some false => .exc x s'
    | none => .bad
  | o => o := Eq.trans rfl rfl
end Bv

set_option maxHeartbeats 4000000
namespace K02
open PySem PySem.Spec PyProof.Rows L2 Bv
def tS (i : Nat) : Stmt := PySem.Challenge.pw_ratewarrant_k02_whole_read_back.main.body.getD i (.Pass ⟨0, 0, 0, 0⟩)
/-- what the top has written -/
structure Tx (P : Program) (w : World) (K : PySem.W.Frag) (mg : Str → Option Value) (base : Heap) (aBadLine aBadThing aRateError : Addr) : Prop where
  b_ValueError : mg "ValueError" = none
  b_abs : mg "abs" = none
  b_all : mg "all" = none
  b_bool : mg "bool" = none
  b_enumerate : mg "enumerate" = none
  b_int : mg "int" = none
  b_isinstance : mg "isinstance" = none
  b_len : mg "len" = none
  b_list : mg "list" = none
  b_min : mg "min" = none
  b_range : mg "range" = none
  b_str : mg "str" = none
  b_sum : mg "sum" = none
  b_tuple : mg "tuple" = none
  c_FIGURES : ∃ t, mg "FIGURES" = some (.str "0123456789" t)
  c_LETTERS : ∃ t, mg "LETTERS" = some (.str "abcdefghijklmnopqrstuvwxyz" t)
  c_MODULUS : ∃ t, mg "MODULUS" = some (.int 9973 t)
  c_MOST_BLOCKS : ∃ t, mg "MOST_BLOCKS" = some (.int 60 t)
  c_MOST_NAME : ∃ t, mg "MOST_NAME" = some (.int 16 t)
  c_MOST_PHASES : ∃ t, mg "MOST_PHASES" = some (.int 6 t)
  c_MOST_QUEUES : ∃ t, mg "MOST_QUEUES" = some (.int 160 t)
  c_MOST_RATE : ∃ t, mg "MOST_RATE" = some (.int 12 t)
  c_MOST_START : ∃ t, mg "MOST_START" = some (.int 60 t)
  c_MOST_TEXT : ∃ t, mg "MOST_TEXT" = some (.int 100000 t)
  c_MOST_TIME : ∃ t, mg "MOST_TIME" = some (.int 60 t)
  c_SIGNS : ∃ t, mg "SIGNS" = some (.str "abcdefghijklmnopqrstuvwxyz0123456789_." t)
  m_BadLine : mg "BadLine" = some (.ref aBadLine)
  m_BadThing : mg "BadThing" = some (.ref aBadThing)
  m_RateError : mg "RateError" = some (.ref aRateError)
  x_BadLine : XB P w K mg base 1 "BadLine" ["row", "reason"]
  x_BadThing : XB P w K mg base 1 "BadThing" ["part"]
  e_BadLine_BadThing : PySem.W.exmOne K (.ref aBadLine) (.ref aBadThing) = some false
  e_BadThing_BadThing : PySem.W.exmOne K (.ref aBadThing) (.ref aBadThing) = some true
  g_BadThing : XfC K aBadThing
  n_BadThing_part : PySem.W.findIn K (.ref aBadThing) "part" = some none
  i_BadThing : L2.ExcC K aBadThing
  k_BadThing_BadLine : PySem.W.kitOne K (.ref aBadThing) (.ref aBadLine) = some false
  k_BadThing_RateError : PySem.W.kitOne K (.ref aBadThing) (.ref aRateError) = some true
  k_BadThing_ValueError : PySem.W.kitOne K (.ref aBadThing) (.type "ValueError") = some true
  f_whole : ∃ f fd, L2.Fun K "whole" "whole" (tS 15) f fd ∧ mg "whole" = some (.ref f) ∧ L2.Binds K fd ["thing", "low", "high"] []
  f_is_numbers : ∃ f fd, L2.Fun K "is_numbers" "is_numbers" (tS 16) f fd ∧ mg "is_numbers" = some (.ref f) ∧ L2.Binds K fd ["thing", "low", "high"] []
  f_is_name : ∃ f fd, L2.Fun K "is_name" "is_name" (tS 17) f fd ∧ mg "is_name" = some (.ref f) ∧ L2.Binds K fd ["thing"] []
  f_is_times : ∃ f fd, L2.Fun K "is_times" "is_times" (tS 18) f fd ∧ mg "is_times" = some (.ref f) ∧ L2.Binds K fd ["thing"] []
  f_is_deed : ∃ f fd, L2.Fun K "is_deed" "is_deed" (tS 19) f fd ∧ mg "is_deed" = some (.ref f) ∧ L2.Binds K fd ["thing"] []
  f_is_block : ∃ f fd, L2.Fun K "is_block" "is_block" (tS 20) f fd ∧ mg "is_block" = some (.ref f) ∧ L2.Binds K fd ["thing"] []
  f_is_rates : ∃ f fd, L2.Fun K "is_rates" "is_rates" (tS 21) f fd ∧ mg "is_rates" = some (.ref f) ∧ L2.Binds K fd ["thing", "size"] []
  f_is_start : ∃ f fd, L2.Fun K "is_start" "is_start" (tS 22) f fd ∧ mg "is_start" = some (.ref f) ∧ L2.Binds K fd ["thing"] []
  f_is_queue : ∃ f fd, L2.Fun K "is_queue" "is_queue" (tS 23) f fd ∧ mg "is_queue" = some (.ref f) ∧ L2.Binds K fd ["thing", "blocks"] []
  f_is_graph : ∃ f fd, L2.Fun K "is_graph" "is_graph" (tS 24) f fd ∧ mg "is_graph" = some (.ref f) ∧ L2.Binds K fd ["thing"] []
  f_check_graph : ∃ f fd, L2.Fun K "check_graph" "check_graph" (tS 25) f fd ∧ mg "check_graph" = some (.ref f) ∧ L2.Binds K fd ["graph"] []
  f_key_values : ∃ f fd, L2.Fun K "key_values" "key_values" (tS 29) f fd ∧ mg "key_values" = some (.ref f) ∧ L2.Binds K fd ["line"] []
  f_number_of : ∃ f fd, L2.Fun K "number_of" "number_of" (tS 30) f fd ∧ mg "number_of" = some (.ref f) ∧ L2.Binds K fd ["word"] []
  f_numbers_of : ∃ f fd, L2.Fun K "numbers_of" "numbers_of" (tS 31) f fd ∧ mg "numbers_of" = some (.ref f) ∧ L2.Binds K fd ["words"] []
  f_joined_words : ∃ f fd, L2.Fun K "joined_words" "joined_words" (tS 32) f fd ∧ mg "joined_words" = some (.ref f) ∧ L2.Binds K fd ["head", "numbers"] []
  f_block_line : ∃ f fd, L2.Fun K "block_line" "block_line" (tS 33) f fd ∧ mg "block_line" = some (.ref f) ∧ L2.Binds K fd ["block"] []
  f_queue_line : ∃ f fd, L2.Fun K "queue_line" "queue_line" (tS 34) f fd ∧ mg "queue_line" = some (.ref f) ∧ L2.Binds K fd ["source", "gives", "target", "takes", "start"] []
  f_graph_text : ∃ f fd, L2.Fun K "graph_text" "graph_text" (tS 35) f fd ∧ mg "graph_text" = some (.ref f) ∧ L2.Binds K fd ["graph"] []
  f_text_lines : ∃ f fd, L2.Fun K "text_lines" "text_lines" (tS 36) f fd ∧ mg "text_lines" = some (.ref f) ∧ L2.Binds K fd ["text"] []
  f_place_behind : ∃ f fd, L2.Fun K "place_behind" "place_behind" (tS 37) f fd ∧ mg "place_behind" = some (.ref f) ∧ L2.Binds K fd ["words", "word", "least"] []
  f_read_block : ∃ f fd, L2.Fun K "read_block" "read_block" (tS 38) f fd ∧ mg "read_block" = some (.ref f) ∧ L2.Binds K fd ["words", "names", "row"] []
  f_queue_parts : ∃ f fd, L2.Fun K "queue_parts" "queue_parts" (tS 39) f fd ∧ mg "queue_parts" = some (.ref f) ∧ L2.Binds K fd ["words", "row"] []
  f_number_in : ∃ f fd, L2.Fun K "number_in" "number_in" (tS 40) f fd ∧ mg "number_in" = some (.ref f) ∧ L2.Binds K fd ["names", "name", "row"] []
  f_read_queue : ∃ f fd, L2.Fun K "read_queue" "read_queue" (tS 41) f fd ∧ mg "read_queue" = some (.ref f) ∧ L2.Binds K fd ["words", "blocks", "many", "row"] []
  f_read_graph : ∃ f fd, L2.Fun K "read_graph" "read_graph" (tS 42) f fd ∧ mg "read_graph" = some (.ref f) ∧ L2.Binds K fd ["text"] []
  f_L_begin : ∃ f fd, L2.Fun K "_law_begin" "_law_begin" (tS 44) f fd ∧ mg "_law_begin" = some (.ref f) ∧ L2.Binds K fd ["script"] []
  f_L_draw : ∃ f fd, L2.Fun K "_law_draw" "_law_draw" (tS 45) f fd ∧ mg "_law_draw" = some (.ref f) ∧ L2.Binds K fd ["d", "many"] []
  f_L_pick : ∃ f fd, L2.Fun K "_law_pick" "_law_pick" (tS 46) f fd ∧ mg "_law_pick" = some (.ref f) ∧ L2.Binds K fd ["d", "row"] []
  f_L_rare : ∃ f fd, L2.Fun K "_law_rare" "_law_rare" (tS 47) f fd ∧ mg "_law_rare" = some (.ref f) ∧ L2.Binds K fd ["d", "many"] []
  f_L_shuffled : ∃ f fd, L2.Fun K "_law_shuffled" "_law_shuffled" (tS 48) f fd ∧ mg "_law_shuffled" = some (.ref f) ∧ L2.Binds K fd ["d", "row"] []
  f_L_pool : ∃ f fd, L2.Fun K "_law_pool" "_law_pool" (tS 49) f fd ∧ mg "_law_pool" = some (.ref f) ∧ L2.Binds K fd [] []
  f_L_is_int : ∃ f fd, L2.Fun K "_law_is_int" "_law_is_int" (tS 50) f fd ∧ mg "_law_is_int" = some (.ref f) ∧ L2.Binds K fd ["thing"] []
  f_L_free_number : ∃ f fd, L2.Fun K "_law_free_number" "_law_free_number" (tS 51) f fd ∧ mg "_law_free_number" = some (.ref f) ∧ L2.Binds K fd ["d", "high"] []
  f_L_free_numbers : ∃ f fd, L2.Fun K "_law_free_numbers" "_law_free_numbers" (tS 52) f fd ∧ mg "_law_free_numbers" = some (.ref f) ∧ L2.Binds K fd ["d", "many", "high"] []
  f_L_key_words : ∃ f fd, L2.Fun K "_law_key_words" "_law_key_words" (tS 53) f fd ∧ mg "_law_key_words" = some (.ref f) ∧ L2.Binds K fd [] []
  f_L_free_name : ∃ f fd, L2.Fun K "_law_free_name" "_law_free_name" (tS 54) f fd ∧ mg "_law_free_name" = some (.ref f) ∧ L2.Binds K fd ["d", "taken", "longest"] []
  f_L_free_block : ∃ f fd, L2.Fun K "_law_free_block" "_law_free_block" (tS 55) f fd ∧ mg "_law_free_block" = some (.ref f) ∧ L2.Binds K fd ["d", "taken", "longest"] []
  f_L_free_rates : ∃ f fd, L2.Fun K "_law_free_rates" "_law_free_rates" (tS 56) f fd ∧ mg "_law_free_rates" = some (.ref f) ∧ L2.Binds K fd ["d", "size"] []
  f_L_free_start : ∃ f fd, L2.Fun K "_law_free_start" "_law_free_start" (tS 57) f fd ∧ mg "_law_free_start" = some (.ref f) ∧ L2.Binds K fd ["d"] []
  f_L_free_queue : ∃ f fd, L2.Fun K "_law_free_queue" "_law_free_queue" (tS 58) f fd ∧ mg "_law_free_queue" = some (.ref f) ∧ L2.Binds K fd ["d", "blocks"] []
  f_L_big_graph : ∃ f fd, L2.Fun K "_law_big_graph" "_law_big_graph" (tS 59) f fd ∧ mg "_law_big_graph" = some (.ref f) ∧ L2.Binds K fd ["d"] []
  f_L_free_graph : ∃ f fd, L2.Fun K "_law_free_graph" "_law_free_graph" (tS 60) f fd ∧ mg "_law_free_graph" = some (.ref f) ∧ L2.Binds K fd ["d"] []
  f_L_words_of : ∃ f fd, L2.Fun K "_law_words_of" "_law_words_of" (tS 61) f fd ∧ mg "_law_words_of" = some (.ref f) ∧ L2.Binds K fd ["numbers"] []
  f_L_block_words : ∃ f fd, L2.Fun K "_law_block_words" "_law_block_words" (tS 62) f fd ∧ mg "_law_block_words" = some (.ref f) ∧ L2.Binds K fd ["block"] []
  f_L_queue_words : ∃ f fd, L2.Fun K "_law_queue_words" "_law_queue_words" (tS 63) f fd ∧ mg "_law_queue_words" = some (.ref f) ∧ L2.Binds K fd ["head", "queue", "source", "target"] []
  f_L_graph_lines : ∃ f fd, L2.Fun K "_law_graph_lines" "_law_graph_lines" (tS 64) f fd ∧ mg "_law_graph_lines" = some (.ref f) ∧ L2.Binds K fd ["graph"] []
  f_L_text : ∃ f fd, L2.Fun K "_law_text" "_law_text" (tS 65) f fd ∧ mg "_law_text" = some (.ref f) ∧ L2.Binds K fd ["lines"] []
  f_L_near : ∃ f fd, L2.Fun K "_law_near" "_law_near" (tS 66) f fd ∧ mg "_law_near" = some (.ref f) ∧ L2.Binds K fd ["d", "graph"] []
  f_L_alike : ∃ f fd, L2.Fun K "_law_alike" "_law_alike" (tS 67) f fd ∧ mg "_law_alike" = some (.ref f) ∧ L2.Binds K fd ["told", "due"] []
  f_L_there_and_back : ∃ f fd, L2.Fun K "_law_there_and_back" "_law_there_and_back" (tS 68) f fd ∧ mg "_law_there_and_back" = some (.ref f) ∧ L2.Binds K fd ["graph"] []
  f_L_refused : ∃ f fd, L2.Fun K "_law_refused" "_law_refused" (tS 69) f fd ∧ mg "_law_refused" = some (.ref f) ∧ L2.Binds K fd ["thing"] []
  f_law : ∃ f fd, L2.Fun K "law" "law" (tS 70) f fd ∧ mg "law" = some (.ref f) ∧ L2.Binds K fd ["script"] []
variable {P : Program} {w : World} {K : PySem.W.Frag} {mg : Str → Option Value} {base : Heap} {aBadLine aBadThing aRateError : Addr}
/-! ### _law_begin -/
abbrev s_L_begin : Stmt := tS 44
theorem sc_L_begin : FnScope ["script", "cell"] ["script"] (defScope s_L_begin) := ⟨rfl, rfl, rfl, by decide +kernel, rfl, by decide +kernel, by decide +kernel⟩
noncomputable def m_L_begin : MS := mRet (mLst (vCons (mFz (mComp (oCons (oN 0) oNil) itSeq (t1 1) (mYes) (mOp pInt1 (oCons (oN 1) (oNil))) [1])) (vCons (mC (.int 0)) (vCons (mC (.int 0)) (vCons (mC (.int 7)) (vCons (mC (.int 3)) (vNil)))))))
noncomputable def C_L_begin : List PV → CR := runB 2 1 [0] m_L_begin
theorem fb_L_begin (T : Tx P w K mg base aBadLine aBadThing aRateError) : FB P w K mg base 1 "_law_begin" 1 C_L_begin := by
  obtain ⟨f, fd, F, g, b⟩ := T.f_L_begin
  exact fb_of (N := ["script", "cell"]) (ps := ["script"]) (pn := [0]) (m := m_L_begin) (k := 0) F sc_L_begin g b fun cdv A outer s H E hr => (sss_one (ss_ret (se_lst (sv_cons (se_fz (se_comp rfl sc_L_begin.nd (si_seq (so_N 0 (pv 0))) vi_seq (own := [("cell", 1)]) (blkOk_by (N := ["script", "cell"]) (sc := defScope s_L_begin) (by decide +kernel)) (tgb_name 1 (fun _ _ _ _ _ => (pg_name (i := 1) sc_L_begin.nd rfl (Or.inl rfl)))) (by decide) (fun _ _ _ _ _ => sif_nil) (fun _ _ _ _ _ => (se_bty (CallR.or call_int1 call_int_str) vo_int1 (by rfl) T.b_int bt_int (sa_cons (so_N 1 (pv 1)) sa_nil))))) (sv_cons se_int (sv_cons se_int (sv_cons se_int (sv_cons se_int sv_nil))))))))

/-! ### _law_draw -/
abbrev s_L_draw : Stmt := tS 45
theorem sc_L_draw : FnScope ["d", "many", "found", "size", "cell"] ["d", "many"] (defScope s_L_draw) := ⟨rfl, rfl, rfl, by decide +kernel, rfl, by decide +kernel, by decide +kernel⟩
noncomputable def m_L_draw : MS := mSeq (mIf (mT (mOp (pCmp pGt) (oCons (oE (mOp pIx (oCons (oN 0) (oCons (oE (mC (.int 2))) oNil)))) (oCons (oE (mC (.int 0))) oNil)))) (mSeq (mAsg (mOp pIx (oCons (oN 0) (oCons (oE (mC (.int 2))) oNil))) (t1 2))
  (mSeq (mSetI 0 (mC (.int 2)) (mFz (mOp pFdiv (oCons (oN 2) (oCons (oN 1) oNil)))))
  (mRet (mOp pMod (oCons (oE (mOp pInt1 (oCons (oN 2) (oNil)))) (oCons (oN 1) oNil)))))) (mNx))
  (mSeq (mAsg (mC (.int 0)) (t1 3))
  (mSeq (mIf (mT (mOp (pCmp pLt) (oCons (oE (mOp pIx (oCons (oN 0) (oCons (oE (mC (.int 1))) oNil)))) (oCons (oE (mOp pLen (oCons (oE (mOp pIx (oCons (oN 0) (oCons (oE (mC (.int 0))) oNil)))) (oNil)))) oNil)))) (mSeq (mAsg (mOp pIx (oCons (oE (mOp pIx (oCons (oN 0) (oCons (oE (mC (.int 0))) oNil)))) (oCons (oE (mOp pIx (oCons (oN 0) (oCons (oE (mC (.int 1))) oNil)))) oNil))) (t1 4))
  (mAsg (mOp pAdd (oCons (oE (mOp pMul2 (oCons (oE (mC (.int 2))) (oCons (oE (mOp pAbs (oCons (oN 4) (oNil)))) oNil)))) (oCons (oE (mOp pInt1 (oCons (oE (mOp (pCmp pLt) (oCons (oN 4) (oCons (oE (mC (.int 0))) oNil)))) (oNil)))) oNil))) (t1 3))) (mNx))
  (mSeq (mAugI 0 1 (fun i j => i + j) (mC (.int 1)))
  (mSeq (mIf (mT (mOp (pCmp pGe) (oCons (oN 3) (oCons (oE (mOp pMul2 (oCons (oE (mC (.int 2))) (oCons (oE (mOp pPow (oCons (oE (mC (.int 10))) (oCons (oE (mC (.int 18))) oNil)))) oNil)))) oNil)))) (mSeq (mAsg (mOp pMod (oCons (oE (mOp pInt1 (oCons (oE (mOp pFdiv (oCons (oN 3) (oCons (oE (mC (.int 2))) oNil)))) (oNil)))) (oCons (oE (mOp pShl (oCons (oE (mC (.int 1))) (oCons (oE (mC (.int 6000))) oNil)))) oNil))) (t1 2))
  (mSeq (mSetI 0 (mC (.int 2)) (mFz (mOp pFdiv (oCons (oN 2) (oCons (oN 1) oNil)))))
  (mRet (mOp pMod (oCons (oE (mOp pInt1 (oCons (oN 2) (oNil)))) (oCons (oN 1) oNil)))))) (mNx))
  (mSeq (mSetI 0 (mC (.int 3)) (mFz (mOp pMod (oCons (oE (mOp pInt1 (oCons (oE (mOp pAdd (oCons (oE (mOp pAdd (oCons (oE (mOp pAdd (oCons (oE (mOp pMul2 (oCons (oE (mOp pIx (oCons (oN 0) (oCons (oE (mC (.int 3))) oNil)))) (oCons (oE (mC (.int 48271))) oNil)))) (oCons (oE (mOp pMul2 (oCons (oE (mOp pMod (oCons (oE (mOp pInt1 (oCons (oN 3) (oNil)))) (oCons (oE (mC (.int 2147483629))) oNil)))) (oCons (oE (mC (.int 16807))) oNil)))) oNil)))) (oCons (oE (mOp pMul2 (oCons (oE (mOp pIx (oCons (oN 0) (oCons (oE (mC (.int 1))) oNil)))) (oCons (oE (mC (.int 69621))) oNil)))) oNil)))) (oCons (oE (mC (.int 11))) oNil)))) (oNil)))) (oCons (oE (mC (.int 2147483647))) oNil)))))
  (mRet (mOp pMod (oCons (oE (mOp pInt1 (oCons (oE (mOp pFdiv (oCons (oE (mOp pIx (oCons (oN 0) (oCons (oE (mC (.int 3))) oNil)))) (oCons (oE (mC (.int 16))) oNil)))) (oNil)))) (oCons (oN 1) oNil)))))))))
noncomputable def C_L_draw : List PV → CR := runB 5 2 [0, 1] m_L_draw
theorem fb_L_draw (T : Tx P w K mg base aBadLine aBadThing aRateError) : FB P w K mg base 1 "_law_draw" 2 C_L_draw := by
  obtain ⟨f, fd, F, g, b⟩ := T.f_L_draw
  exact fb_of (N := ["d", "many", "found", "size", "cell"]) (ps := ["d", "many"]) (pn := [0, 1]) (m := m_L_draw) (k := 0) F sc_L_draw g b fun cdv A outer s H E hr => (sss_cons (ss_if (st_cmp op_gt (vo_cmp pGt) (so_E (se_ix ix_seq vo_ix (so_N 0 (pv 0)) (so_E se_int) (by intro _ _; rfl))) (so_E se_int) (nomark _)) (sss_cons (ss_set 2 (se_ix ix_seq vo_ix (so_N 0 (pv 0)) (so_E se_int) (by intro _ _; rfl)) sc_L_draw.nd rfl (Or.inl rfl) (by decide) (by rfl) (.inl rfl))
  (sss_cons (ss_setI 0 (se_fz (se_op2 op_fdiv vo_fdiv (so_N 2 (pv 2)) (so_N 1 (pv 1)))) (pv 0) se_int)
  (sss_one (ss_ret (se_op2 op_mod vo_mod (so_E (se_bty (CallR.or call_int1 call_int_str) vo_int1 (by rfl) T.b_int bt_int (sa_cons (so_N 2 (pv 2)) sa_nil))) (so_N 1 (pv 1))))))) sss_nil)
  (sss_cons (ss_set 3 se_int sc_L_draw.nd rfl (Or.inl rfl) (by decide) (by rfl) (.inl rfl))
  (sss_cons (ss_if (st_cmp op_lt (vo_cmp pLt) (so_E (se_ix ix_seq vo_ix (so_N 0 (pv 0)) (so_E se_int) (by intro _ _; rfl))) (so_E (se_blt call_len vo_len (by rfl) T.b_len bt_len (sa_cons (so_E (se_ix ix_seq vo_ix (so_N 0 (pv 0)) (so_E se_int) (by intro _ _; rfl))) sa_nil))) (nomark _)) (sss_cons (ss_set 4 (se_ix ix_seq vo_ix (so_E (se_ix ix_seq vo_ix (so_N 0 (pv 0)) (so_E se_int) (by intro _ _; rfl))) (so_E (se_ix ix_seq vo_ix (so_N 0 (pv 0)) (so_E se_int) (by intro _ _; rfl))) (by intro _ _; rfl)) sc_L_draw.nd rfl (Or.inl rfl) (by decide) (by rfl) (.inl rfl))
  (sss_one (ss_set 3 (se_op2 op_addAll vo_add (so_E (se_op2 op_mul2 vo_mul2 (so_E se_int) (so_E (se_blt call_abs vo_abs (by rfl) T.b_abs bt_abs (sa_cons (so_N 4 (pv 4)) sa_nil))))) (so_E (se_bty (CallR.or call_int1 call_int_str) vo_int1 (by rfl) T.b_int bt_int (sa_cons (so_E (se_cmp op_lt (vo_cmp pLt) (so_N 4 (pv 4)) (so_E se_int) (nomark _))) sa_nil)))) sc_L_draw.nd rfl (Or.inl rfl) (by decide) (by rfl) (.inl rfl)))) sss_nil)
  (sss_cons (ss_augI 0 1 (pv 0) ip_add se_int)
  (sss_cons (ss_if (st_cmp op_ge (vo_cmp pGe) (so_N 3 (pv 3)) (so_E (se_op2 op_mul2 vo_mul2 (so_E se_int) (so_E (se_op2 op_pow vo_pow (so_E se_int) (so_E se_int))))) (nomark _)) (sss_cons (ss_set 2 (se_op2 op_mod vo_mod (so_E (se_bty (CallR.or call_int1 call_int_str) vo_int1 (by rfl) T.b_int bt_int (sa_cons (so_E (se_op2 op_fdiv vo_fdiv (so_N 3 (pv 3)) (so_E se_int))) sa_nil))) (so_E (se_op2 op_shl vo_shl (so_E se_int) (so_E se_int)))) sc_L_draw.nd rfl (Or.inl rfl) (by decide) (by rfl) (.inl rfl))
  (sss_cons (ss_setI 0 (se_fz (se_op2 op_fdiv vo_fdiv (so_N 2 (pv 2)) (so_N 1 (pv 1)))) (pv 0) se_int)
  (sss_one (ss_ret (se_op2 op_mod vo_mod (so_E (se_bty (CallR.or call_int1 call_int_str) vo_int1 (by rfl) T.b_int bt_int (sa_cons (so_N 2 (pv 2)) sa_nil))) (so_N 1 (pv 1))))))) sss_nil)
  (sss_cons (ss_setI 0 (se_fz (se_op2 op_mod vo_mod (so_E (se_bty (CallR.or call_int1 call_int_str) vo_int1 (by rfl) T.b_int bt_int (sa_cons (so_E (se_op2 op_addAll vo_add (so_E (se_op2 op_addAll vo_add (so_E (se_op2 op_addAll vo_add (so_E (se_op2 op_mul2 vo_mul2 (so_E (se_ix ix_seq vo_ix (so_N 0 (pv 0)) (so_E se_int) (by intro _ _; rfl))) (so_E se_int))) (so_E (se_op2 op_mul2 vo_mul2 (so_E (se_op2 op_mod vo_mod (so_E (se_bty (CallR.or call_int1 call_int_str) vo_int1 (by rfl) T.b_int bt_int (sa_cons (so_N 3 (pv 3)) sa_nil))) (so_E se_int))) (so_E se_int))))) (so_E (se_op2 op_mul2 vo_mul2 (so_E (se_ix ix_seq vo_ix (so_N 0 (pv 0)) (so_E se_int) (by intro _ _; rfl))) (so_E se_int))))) (so_E se_int))) sa_nil))) (so_E se_int))) (pv 0) se_int)
  (sss_one (ss_ret (se_op2 op_mod vo_mod (so_E (se_bty (CallR.or call_int1 call_int_str) vo_int1 (by rfl) T.b_int bt_int (sa_cons (so_E (se_op2 op_fdiv vo_fdiv (so_E (se_ix ix_seq vo_ix (so_N 0 (pv 0)) (so_E se_int) (by intro _ _; rfl))) (so_E se_int))) sa_nil))) (so_N 1 (pv 1)))))))))))

/-! ### _law_rare -/
abbrev s_L_rare : Stmt := tS 47
theorem sc_L_rare : FnScope ["d", "many"] ["d", "many"] (defScope s_L_rare) := ⟨rfl, rfl, rfl, by decide +kernel, rfl, by decide +kernel, by decide +kernel⟩
noncomputable def m_L_rare : MS := mRet (mOp (pEq false) (oCons (oE (mCallN 2 C_L_draw (oCons (oN 0) (oCons (oN 1) (oNil))))) (oCons (oE (mOp pFdiv (oCons (oN 1) (oCons (oE (mC (.int 2))) oNil)))) oNil)))
noncomputable def C_L_rare : List PV → CR := runB 2 2 [0, 1] m_L_rare
theorem fb_L_rare (T : Tx P w K mg base aBadLine aBadThing aRateError) : FB P w K mg base 2 "_law_rare" 2 C_L_rare := by
  obtain ⟨f, fd, F, g, b⟩ := T.f_L_rare
  exact fb_of (N := ["d", "many"]) (ps := ["d", "many"]) (pn := [0, 1]) (m := m_L_rare) (k := 1) F sc_L_rare g b fun cdv A outer s H E hr => (sss_one (ss_ret (se_cmp (op_eqD (hu64 hr)) vo_eq (so_E (se_call bx_tk (fb_L_draw T) (hr.mono (by omega)) (by rfl) (sa_cons (so_N 0 (pv 0)) (sa_cons (so_N 1 (pv 1)) sa_nil)))) (so_E (se_op2 op_fdiv vo_fdiv (so_N 1 (pv 1)) (so_E se_int))) (nomark _))))

/-! ### _law_shuffled -/
abbrev s_L_shuffled : Stmt := tS 48
theorem sc_L_shuffled : FnScope ["d", "row", "left", "found", "k"] ["d", "row"] (defScope s_L_shuffled) := ⟨rfl, rfl, rfl, by decide +kernel, rfl, by decide +kernel, by decide +kernel⟩
noncomputable def m_L_shuffled : MS := mSeq (mAsg (mOp pList (oCons (oN 1) (oNil))) (t1 2))
  (mSeq (mAsg (mLst (vNil)) (t1 3))
  (mSeq (mFor [0, 1] (oCons (oE (mOp pLen (oCons (oN 2) (oNil)))) oNil) itRng1 (t1 4) (mDrop (mMeth 3 fApp (vCons (mFz (mMeth 2 fPopAt (vCons (mFz (mCallN 2 C_L_draw (oCons (oN 0) (oCons (oE (mOp pLen (oCons (oN 2) (oNil)))) (oNil))))) (vNil)))) (vNil)))))
  (mRet (mN 3))))
noncomputable def C_L_shuffled : List PV → CR := runB 5 2 [0, 1] m_L_shuffled
theorem fb_L_shuffled (T : Tx P w K mg base aBadLine aBadThing aRateError) : FB P w K mg base 2 "_law_shuffled" 2 C_L_shuffled := by
  obtain ⟨f, fd, F, g, b⟩ := T.f_L_shuffled
  exact fb_of (N := ["d", "row", "left", "found", "k"]) (ps := ["d", "row"]) (pn := [0, 1]) (m := m_L_shuffled) (k := 1) F sc_L_shuffled g b fun cdv A outer s H E hr => (sss_cons (ss_set 2 (se_bty call_list_of vo_list (by rfl) T.b_list bt_list (sa_cons (so_N 1 (pv 1)) sa_nil)) sc_L_shuffled.nd rfl (Or.inl rfl) (by decide) (by rfl) (.inl rfl))
  (sss_cons (ss_set 3 (se_lst sv_nil) sc_L_shuffled.nd rfl (Or.inl rfl) (by decide) (by rfl) (.inl rfl))
  (sss_cons (ss_for bx_po rfl (si_rng1 (so_E (se_blt call_len vo_len (by rfl) T.b_len bt_len (sa_cons (so_N 2 (pv 2)) sa_nil))) (by rfl) T.b_range (by rfl) (by rfl)) vi_rng1 (tg_name 4 (pg_name (i := 4) sc_L_shuffled.nd rfl (Or.inl rfl))) (by decide) (by decide) (sss_one (ss_expr (se_meth 3 PySem.F.slot_list_append PySem.F.type_list_append mt_append vm_app (pv 3) (sv_cons (se_fz (se_meth 2 PySem.F.slot_list_pop PySem.F.type_list_pop mt_popAt vm_popAt (pv 2) (sv_cons (se_fz (se_call bx_tk (fb_L_draw T) (hr.mono (by omega)) (by rfl) (sa_cons (so_N 0 (pv 0)) (sa_cons (so_E (se_blt call_len vo_len (by rfl) T.b_len bt_len (sa_cons (so_N 2 (pv 2)) sa_nil))) sa_nil)))) sv_nil))) sv_nil)) (by rfl))))
  (sss_one (ss_ret (se_N 3 (pv 3)))))))

/-! ### _law_pool -/
abbrev s_L_pool : Stmt := tS 49
theorem sc_L_pool : FnScope ["text"] [] (defScope s_L_pool) := ⟨rfl, rfl, rfl, by decide +kernel, rfl, by decide +kernel, by decide +kernel⟩
noncomputable def m_L_pool : MS := mSeq (mAsg (mC (.str "a b2 sum left r k0 carry z9z full tail n m8 aa busy cnt p t4 even2 ab1 head u v2 w lowest high mid ")) (t1 0))
  (mSeq (mAsg (mOp pAdd (oCons (oN 0) (oCons (oE (mC (.str "s t e f g h i j k x y q7 deep turn gate l5 hold next1 o c0 d two zz1 near far9 last ring2 "))) oNil))) (t1 0))
  (mRet (mStr1 pSplit (mOp pAdd (oCons (oN 0) (oCons (oE (mC (.str "aaaaaaa8 b c1 top2 net3 row col7 v"))) oNil))) (oE (mC (.str " "))))))
noncomputable def C_L_pool : List PV → CR := runB 1 0 [] m_L_pool
theorem fb_L_pool (T : Tx P w K mg base aBadLine aBadThing aRateError) : FB P w K mg base 1 "_law_pool" 0 C_L_pool := by
  obtain ⟨f, fd, F, g, b⟩ := T.f_L_pool
  exact fb_of (N := ["text"]) (ps := []) (pn := []) (m := m_L_pool) (k := 0) F sc_L_pool g b fun cdv A outer s H E hr => (sss_cons (ss_set 0 se_str sc_L_pool.nd rfl (Or.inl rfl) (by decide) (by rfl) (.inl rfl))
  (sss_cons (ss_set 0 (se_op2 op_addAll vo_add (so_N 0 (pv 0)) (so_E se_str)) sc_L_pool.nd rfl (Or.inl rfl) (by decide) (by rfl) (.inl rfl))
  (sss_one (ss_ret (se_split (se_op2 op_addAll vo_add (so_N 0 (pv 0)) (so_E se_str)) (so_E se_str))))))

/-! ### _law_pick -/
abbrev s_L_pick : Stmt := tS 46
theorem sc_L_pick : FnScope ["d", "row"] ["d", "row"] (defScope s_L_pick) := ⟨rfl, rfl, rfl, by decide +kernel, rfl, by decide +kernel, by decide +kernel⟩
noncomputable def m_L_pick : MS := mRet (mOp pIx (oCons (oN 1) (oCons (oE (mCallN 2 C_L_draw (oCons (oN 0) (oCons (oE (mOp pLen (oCons (oN 1) (oNil)))) (oNil))))) oNil)))
noncomputable def C_L_pick : List PV → CR := runB 2 2 [0, 1] m_L_pick
theorem fb_L_pick (T : Tx P w K mg base aBadLine aBadThing aRateError) : FB P w K mg base 2 "_law_pick" 2 C_L_pick := by
  obtain ⟨f, fd, F, g, b⟩ := T.f_L_pick
  exact fb_of (N := ["d", "row"]) (ps := ["d", "row"]) (pn := [0, 1]) (m := m_L_pick) (k := 1) F sc_L_pick g b fun cdv A outer s H E hr => (sss_one (ss_ret (se_ix ix_seq vo_ix (so_N 1 (pv 1)) (so_E (se_call bx_tk (fb_L_draw T) (hr.mono (by omega)) (by rfl) (sa_cons (so_N 0 (pv 0)) (sa_cons (so_E (se_blt call_len vo_len (by rfl) T.b_len bt_len (sa_cons (so_N 1 (pv 1)) sa_nil))) sa_nil)))) (by intro _ _; rfl))))

/-! ### _law_key_words -/
abbrev s_L_key_words : Stmt := tS 53
theorem sc_L_key_words : FnScope ["text"] [] (defScope s_L_key_words) := ⟨rfl, rfl, rfl, by decide +kernel, rfl, by decide +kernel, by decide +kernel⟩
noncomputable def m_L_key_words : MS := mSeq (mAsg (mC (.str "block queue times deed gives target takes start part joint wire back self right left source")) (t1 0))
  (mRet (mStr1 pSplit (mN 0) (oE (mC (.str " ")))))
noncomputable def C_L_key_words : List PV → CR := runB 1 0 [] m_L_key_words
theorem fb_L_key_words (T : Tx P w K mg base aBadLine aBadThing aRateError) : FB P w K mg base 1 "_law_key_words" 0 C_L_key_words := by
  obtain ⟨f, fd, F, g, b⟩ := T.f_L_key_words
  exact fb_of (N := ["text"]) (ps := []) (pn := []) (m := m_L_key_words) (k := 0) F sc_L_key_words g b fun cdv A outer s H E hr => (sss_cons (ss_set 0 se_str sc_L_key_words.nd rfl (Or.inl rfl) (by decide) (by rfl) (.inl rfl))
  (sss_one (ss_ret (se_split (se_N 0 (pv 0)) (so_E se_str)))))

/-! ### _law_free_name -/
abbrev s_L_free_name : Stmt := tS 54
theorem sc_L_free_name : FnScope ["d", "taken", "longest", "word", "signs", "kind", "name", "size", "k", "left"] ["d", "taken", "longest"] (defScope s_L_free_name) := ⟨rfl, rfl, rfl, by decide +kernel, rfl, by decide +kernel, by decide +kernel⟩
noncomputable def m_L_free_name : MS := mSeq (mAsg (mC (.str "abcdefghijklmnopqrstuvwxyz0123456789_.")) (t1 4))
  (mSeq (mAsg (mCallN 2 C_L_draw (oCons (oN 0) (oCons (oE (mC (.int 4))) (oNil)))) (t1 5))
  (mSeq (mIf (mT (mOp (pEq false) (oCons (oN 5) (oCons (oE (mC (.int 0))) oNil)))) (mAsg (mCallN 2 C_L_pick (oCons (oN 0) (oCons (oE (mCallN 0 C_L_key_words oNil)) (oNil)))) (t1 6)) (mIf (mT (mOp (pEq false) (oCons (oN 5) (oCons (oE (mC (.int 1))) oNil)))) (mSeq (mAsg (mOp pSub (oCons (oN 2) (oCons (oE (mOp pMul2 (oCons (oE (mCallN 2 C_L_draw (oCons (oN 0) (oCons (oE (mC (.int 2))) (oNil))))) (oCons (oE (mCallN 2 C_L_draw (oCons (oN 0) (oCons (oN 2) (oNil))))) oNil)))) oNil))) (t1 7))
  (mSeq (mAsg (mOp pIx (oCons (oN 4) (oCons (oE (mCallN 2 C_L_draw (oCons (oN 0) (oCons (oE (mC (.int 26))) (oNil))))) oNil))) (t1 6))
  (mFor [0, 1, 2] (oCons (oE (mOp pSub (oCons (oN 7) (oCons (oE (mC (.int 1))) oNil)))) oNil) itRng1 (t1 8) (mAsg (mOp pAdd (oCons (oN 6) (oCons (oE (mOp pIx (oCons (oN 4) (oCons (oE (mCallN 2 C_L_draw (oCons (oN 0) (oCons (oE (mC (.int 38))) (oNil))))) oNil)))) oNil))) (t1 6))))) (mAsg (mCallN 2 C_L_pick (oCons (oN 0) (oCons (oE (mCallN 0 C_L_pool oNil)) (oNil)))) (t1 6))))
  (mSeq (mIf (mT (mOp (pIn false) (oCons (oN 6) (oCons (oN 1) oNil)))) (mSeq (mAsg (mComp (oCons (oE (mCallN 0 C_L_pool oNil)) oNil) itSeq (t1 3) (mT (mOp (pIn true) (oCons (oN 3) (oCons (oN 1) oNil)))) (mFzN 3) [3]) (t1 9))
  (mAsg (mOp pIx (oCons (oN 9) (oCons (oE (mC (.int 0))) oNil))) (t1 6))) (mNx))
  (mRet (mN 6)))))
noncomputable def C_L_free_name : List PV → CR := runB 10 3 [0, 1, 2] m_L_free_name
theorem fb_L_free_name (T : Tx P w K mg base aBadLine aBadThing aRateError) : FB P w K mg base 3 "_law_free_name" 3 C_L_free_name := by
  obtain ⟨f, fd, F, g, b⟩ := T.f_L_free_name
  exact fb_of (N := ["d", "taken", "longest", "word", "signs", "kind", "name", "size", "k", "left"]) (ps := ["d", "taken", "longest"]) (pn := [0, 1, 2]) (m := m_L_free_name) (k := 2) F sc_L_free_name g b fun cdv A outer s H E hr => (sss_cons (ss_set 4 se_str sc_L_free_name.nd rfl (Or.inl rfl) (by decide) (by rfl) (.inl rfl))
  (sss_cons (ss_set 5 (se_call bx_tk (fb_L_draw T) (hr.mono (by omega)) (by rfl) (sa_cons (so_N 0 (pv 0)) (sa_cons (so_E se_int) sa_nil))) sc_L_free_name.nd rfl (Or.inl rfl) (by decide) (by rfl) (.inl rfl))
  (sss_cons (ss_if (st_cmp (op_eqD (hu64 hr)) vo_eq (so_N 5 (pv 5)) (so_E se_int) (nomark _)) (sss_one (ss_set 6 (se_call bx_tk (fb_L_pick T) (hr.mono (by omega)) (by rfl) (sa_cons (so_N 0 (pv 0)) (sa_cons (so_E (se_call0 bx_tk (fb_L_key_words T) (hr.mono (by omega)) (by rfl))) sa_nil))) sc_L_free_name.nd rfl (Or.inl rfl) (by decide) (by rfl) (.inl rfl))) (sss_one (ss_if (st_cmp (op_eqD (hu64 hr)) vo_eq (so_N 5 (pv 5)) (so_E se_int) (nomark _)) (sss_cons (ss_set 7 (se_op2 op_sub vo_sub (so_N 2 (pv 2)) (so_E (se_op2 op_mul2 vo_mul2 (so_E (se_call bx_tk (fb_L_draw T) (hr.mono (by omega)) (by rfl) (sa_cons (so_N 0 (pv 0)) (sa_cons (so_E se_int) sa_nil)))) (so_E (se_call bx_tk (fb_L_draw T) (hr.mono (by omega)) (by rfl) (sa_cons (so_N 0 (pv 0)) (sa_cons (so_N 2 (pv 2)) sa_nil))))))) sc_L_free_name.nd rfl (Or.inl rfl) (by decide) (by rfl) (.inl rfl))
  (sss_cons (ss_set 6 (se_ix ix_seq vo_ix (so_N 4 (pv 4)) (so_E (se_call bx_tk (fb_L_draw T) (hr.mono (by omega)) (by rfl) (sa_cons (so_N 0 (pv 0)) (sa_cons (so_E se_int) sa_nil)))) (by intro _ _; rfl)) sc_L_free_name.nd rfl (Or.inl rfl) (by decide) (by rfl) (.inl rfl))
  (sss_one (ss_for bx_po rfl (si_rng1 (so_E (se_op2 op_sub vo_sub (so_N 7 (pv 7)) (so_E se_int))) (by rfl) T.b_range (by rfl) (by rfl)) vi_rng1 (tg_name 8 (pg_name (i := 8) sc_L_free_name.nd rfl (Or.inl rfl))) (by decide) (by decide) (sss_one (ss_set 6 (se_op2 op_addAll vo_add (so_N 6 (pv 6)) (so_E (se_ix ix_seq vo_ix (so_N 4 (pv 4)) (so_E (se_call bx_tk (fb_L_draw T) (hr.mono (by omega)) (by rfl) (sa_cons (so_N 0 (pv 0)) (sa_cons (so_E se_int) sa_nil)))) (by intro _ _; rfl)))) sc_L_free_name.nd rfl (Or.inl rfl) (by decide) (by rfl) (.inl rfl))))))) (sss_one (ss_set 6 (se_call bx_tk (fb_L_pick T) (hr.mono (by omega)) (by rfl) (sa_cons (so_N 0 (pv 0)) (sa_cons (so_E (se_call0 bx_tk (fb_L_pool T) (hr.mono (by omega)) (by rfl))) sa_nil))) sc_L_free_name.nd rfl (Or.inl rfl) (by decide) (by rfl) (.inl rfl))))))
  (sss_cons (ss_if (st_cmp (op_inAll (hu65 hr)) vo_in (so_N 6 (pv 6)) (so_N 1 (pv 1)) (by rfl)) (sss_cons (ss_setLc 9 rfl sc_L_free_name.nd rfl rfl (by decide) (sw_true rfl rfl rfl (by decide +kernel)) (si_seq (so_E (se_call0 bx_tk (fb_L_pool T) (hr.mono (by omega)) (by rfl)))) vi_seq (own := [("word", 3)]) (blkOk_by (N := ["d", "taken", "longest", "word", "signs", "kind", "name", "size", "k", "left"]) (sc := defScope s_L_free_name) (by decide +kernel)) (tgb_name 3 (fun _ _ _ _ _ => (pg_name (i := 3) sc_L_free_name.nd rfl (Or.inl rfl)))) (by decide) (fun _ _ _ _ _ => sif_one (st_cmp (op_notInAll (hu65 hr)) vo_notin (so_N 3 (pv 3)) (so_N 1 (pv 1)) (by rfl))) (fun _ _ _ _ _ => (se_FzN 3 (pv 3))))
  (sss_one (ss_set 6 (se_ix ix_seq vo_ix (so_N 9 (pv 9)) (so_E se_int) (by intro _ _; rfl)) sc_L_free_name.nd rfl (Or.inl rfl) (by decide) (by rfl) (.inl rfl)))) sss_nil)
  (sss_one (ss_ret (se_N 6 (pv 6))))))))

/-! ### _law_free_number -/
abbrev s_L_free_number : Stmt := tS 51
theorem sc_L_free_number : FnScope ["d", "high", "kind"] ["d", "high"] (defScope s_L_free_number) := ⟨rfl, rfl, rfl, by decide +kernel, rfl, by decide +kernel, by decide +kernel⟩
noncomputable def m_L_free_number : MS := mSeq (mAsg (mCallN 2 C_L_draw (oCons (oN 0) (oCons (oE (mC (.int 5))) (oNil)))) (t1 2))
  (mSeq (mIf (mT (mOp (pEq false) (oCons (oN 2) (oCons (oE (mC (.int 0))) oNil)))) (mRet (mC (.int 0))) (mNx))
  (mSeq (mIf (mT (mOp (pEq false) (oCons (oN 2) (oCons (oE (mC (.int 1))) oNil)))) (mRet (mN 1)) (mNx))
  (mSeq (mIf (mT (mOp (pEq false) (oCons (oN 2) (oCons (oE (mC (.int 2))) oNil)))) (mRet (mCallN 2 C_L_draw (oCons (oN 0) (oCons (oE (mOp pAdd (oCons (oN 1) (oCons (oE (mC (.int 1))) oNil)))) (oNil))))) (mNx))
  (mRet (mCallN 2 C_L_draw (oCons (oN 0) (oCons (oE (mOp pAdd (oCons (oE (mOp pMin2 (oCons (oN 1) (oCons (oE (mC (.int 11))) (oNil))))) (oCons (oE (mC (.int 1))) oNil)))) (oNil))))))))
noncomputable def C_L_free_number : List PV → CR := runB 3 2 [0, 1] m_L_free_number
theorem fb_L_free_number (T : Tx P w K mg base aBadLine aBadThing aRateError) : FB P w K mg base 2 "_law_free_number" 2 C_L_free_number := by
  obtain ⟨f, fd, F, g, b⟩ := T.f_L_free_number
  exact fb_of (N := ["d", "high", "kind"]) (ps := ["d", "high"]) (pn := [0, 1]) (m := m_L_free_number) (k := 1) F sc_L_free_number g b fun cdv A outer s H E hr => (sss_cons (ss_set 2 (se_call bx_tk (fb_L_draw T) (hr.mono (by omega)) (by rfl) (sa_cons (so_N 0 (pv 0)) (sa_cons (so_E se_int) sa_nil))) sc_L_free_number.nd rfl (Or.inl rfl) (by decide) (by rfl) (.inl rfl))
  (sss_cons (ss_if (st_cmp (op_eqD (hu64 hr)) vo_eq (so_N 2 (pv 2)) (so_E se_int) (nomark _)) (sss_one (ss_ret se_int)) sss_nil)
  (sss_cons (ss_if (st_cmp (op_eqD (hu64 hr)) vo_eq (so_N 2 (pv 2)) (so_E se_int) (nomark _)) (sss_one (ss_ret (se_N 1 (pv 1)))) sss_nil)
  (sss_cons (ss_if (st_cmp (op_eqD (hu64 hr)) vo_eq (so_N 2 (pv 2)) (so_E se_int) (nomark _)) (sss_one (ss_ret (se_call bx_tk (fb_L_draw T) (hr.mono (by omega)) (by rfl) (sa_cons (so_N 0 (pv 0)) (sa_cons (so_E (se_op2 op_addAll vo_add (so_N 1 (pv 1)) (so_E se_int))) sa_nil))))) sss_nil)
  (sss_one (ss_ret (se_call bx_tk (fb_L_draw T) (hr.mono (by omega)) (by rfl) (sa_cons (so_N 0 (pv 0)) (sa_cons (so_E (se_op2 op_addAll vo_add (so_E (se_blt (call_min2 rfl) vo_min2 (by rfl) T.b_min bt_min (sa_cons (so_N 1 (pv 1)) (sa_cons (so_E se_int) sa_nil)))) (so_E se_int))) sa_nil)))))))))

/-! ### _law_free_numbers -/
abbrev s_L_free_numbers : Stmt := tS 52
theorem sc_L_free_numbers : FnScope ["d", "many", "high", "k"] ["d", "many", "high"] (defScope s_L_free_numbers) := ⟨rfl, rfl, rfl, by decide +kernel, rfl, by decide +kernel, by decide +kernel⟩
noncomputable def m_L_free_numbers : MS := mRet (mOp pTuple (oCons (oE (mComp (oCons (oN 1) oNil) itRng1 (t1 3) (mYes) (mFz (mCallN 2 C_L_free_number (oCons (oN 0) (oCons (oN 2) (oNil))))) [3])) (oNil)))
noncomputable def C_L_free_numbers : List PV → CR := runB 4 3 [0, 1, 2] m_L_free_numbers
theorem fb_L_free_numbers (T : Tx P w K mg base aBadLine aBadThing aRateError) : FB P w K mg base 3 "_law_free_numbers" 3 C_L_free_numbers := by
  obtain ⟨f, fd, F, g, b⟩ := T.f_L_free_numbers
  exact fb_of (N := ["d", "many", "high", "k"]) (ps := ["d", "many", "high"]) (pn := [0, 1, 2]) (m := m_L_free_numbers) (k := 2) F sc_L_free_numbers g b fun cdv A outer s H E hr => (sss_one (ss_ret (se_bty call_tuple_of vo_tuple (by rfl) T.b_tuple bt_tuple (sa_cons (so_E (se_comp rfl sc_L_free_numbers.nd (si_rng1 (so_N 1 (pv 1)) (by rfl) T.b_range (by rfl) (by rfl)) vi_rng1 (own := [("k", 3)]) (blkOk_by (N := ["d", "many", "high", "k"]) (sc := defScope s_L_free_numbers) (by decide +kernel)) (tgb_name 3 (fun _ _ _ _ _ => (pg_name (i := 3) sc_L_free_numbers.nd rfl (Or.inl rfl)))) (by decide) (fun _ _ _ _ _ => sif_nil) (fun _ _ _ _ _ => (se_fz (se_call takes0 (fb_L_free_number T) (hr.mono (by omega)) (by rfl) (sa_cons (so_N 0 (pv 0)) (sa_cons (so_N 2 (pv 2)) sa_nil))))))) sa_nil))))

/-! ### _law_free_block -/
abbrev s_L_free_block : Stmt := tS 55
theorem sc_L_free_block : FnScope ["d", "taken", "longest", "name", "phases"] ["d", "taken", "longest"] (defScope s_L_free_block) := ⟨rfl, rfl, rfl, by decide +kernel, rfl, by decide +kernel, by decide +kernel⟩
noncomputable def m_L_free_block : MS := mSeq (mAsg (mCallN 3 C_L_free_name (oCons (oN 0) (oCons (oN 1) (oCons (oN 2) (oNil))))) (t1 3))
  (mSeq (mAsg (mOp pAdd (oCons (oE (mC (.int 1))) (oCons (oE (mCallN 2 C_L_draw (oCons (oN 0) (oCons (oE (mC (.int 3))) (oNil))))) oNil))) (t1 4))
  (mSeq (mIf (mT (mCallN 2 C_L_rare (oCons (oN 0) (oCons (oE (mC (.int 5))) (oNil))))) (mAsg (mOp pAdd (oCons (oE (mC (.int 4))) (oCons (oE (mCallN 2 C_L_draw (oCons (oN 0) (oCons (oE (mC (.int 3))) (oNil))))) oNil))) (t1 4)) (mNx))
  (mRet (mTup (vCons (mFzN 3) (vCons (mFz (mCallN 3 C_L_free_numbers (oCons (oN 0) (oCons (oN 4) (oCons (oE (mC (.int 60))) (oNil)))))) (vCons (mFz (mCallN 3 C_L_free_numbers (oCons (oN 0) (oCons (oE (mC (.int 2))) (oCons (oE (mC (.int 9972))) (oNil)))))) (vNil))))))))
noncomputable def C_L_free_block : List PV → CR := runB 5 3 [0, 1, 2] m_L_free_block
theorem fb_L_free_block (T : Tx P w K mg base aBadLine aBadThing aRateError) : FB P w K mg base 4 "_law_free_block" 3 C_L_free_block := by
  obtain ⟨f, fd, F, g, b⟩ := T.f_L_free_block
  exact fb_of (N := ["d", "taken", "longest", "name", "phases"]) (ps := ["d", "taken", "longest"]) (pn := [0, 1, 2]) (m := m_L_free_block) (k := 3) F sc_L_free_block g b fun cdv A outer s H E hr => (sss_cons (ss_set 3 (se_call bx_tk (fb_L_free_name T) (hr.mono (by omega)) (by rfl) (sa_cons (so_N 0 (pv 0)) (sa_cons (so_N 1 (pv 1)) (sa_cons (so_N 2 (pv 2)) sa_nil)))) sc_L_free_block.nd rfl (Or.inl rfl) (by decide) (by rfl) (.inl rfl))
  (sss_cons (ss_set 4 (se_op2 op_addAll vo_add (so_E se_int) (so_E (se_call bx_tk (fb_L_draw T) (hr.mono (by omega)) (by rfl) (sa_cons (so_N 0 (pv 0)) (sa_cons (so_E se_int) sa_nil))))) sc_L_free_block.nd rfl (Or.inl rfl) (by decide) (by rfl) (.inl rfl))
  (sss_cons (ss_if (st_val (se_call bx_tk (fb_L_rare T) (hr.mono (by omega)) (by rfl) (sa_cons (so_N 0 (pv 0)) (sa_cons (so_E se_int) sa_nil)))) (sss_one (ss_set 4 (se_op2 op_addAll vo_add (so_E se_int) (so_E (se_call bx_tk (fb_L_draw T) (hr.mono (by omega)) (by rfl) (sa_cons (so_N 0 (pv 0)) (sa_cons (so_E se_int) sa_nil))))) sc_L_free_block.nd rfl (Or.inl rfl) (by decide) (by rfl) (.inl rfl))) sss_nil)
  (sss_one (ss_ret (se_tup (sv_cons (se_FzN 3 (pv 3)) (sv_cons (se_fz (se_call bx_tk (fb_L_free_numbers T) (hr.mono (by omega)) (by rfl) (sa_cons (so_N 0 (pv 0)) (sa_cons (so_N 4 (pv 4)) (sa_cons (so_E se_int) sa_nil))))) (sv_cons (se_fz (se_call bx_tk (fb_L_free_numbers T) (hr.mono (by omega)) (by rfl) (sa_cons (so_N 0 (pv 0)) (sa_cons (so_E se_int) (sa_cons (so_E se_int) sa_nil))))) sv_nil)))))))))

/-! ### _law_free_rates -/
abbrev s_L_free_rates : Stmt := tS 56
theorem sc_L_free_rates : FnScope ["d", "size", "row"] ["d", "size"] (defScope s_L_free_rates) := ⟨rfl, rfl, rfl, by decide +kernel, rfl, by decide +kernel, by decide +kernel⟩
noncomputable def m_L_free_rates : MS := mSeq (mAsg (mOp pList (oCons (oE (mCallN 3 C_L_free_numbers (oCons (oN 0) (oCons (oN 1) (oCons (oE (mC (.int 12))) (oNil)))))) (oNil))) (t1 2))
  (mSeq (mIf (mT (mOp (pEq false) (oCons (oE (mOp pSum (oCons (oN 2) (oNil)))) (oCons (oE (mC (.int 0))) oNil)))) (mSetI 2 (mCallN 2 C_L_draw (oCons (oN 0) (oCons (oN 1) (oNil)))) (mFz (mOp pAdd (oCons (oE (mC (.int 1))) (oCons (oE (mCallN 2 C_L_draw (oCons (oN 0) (oCons (oE (mC (.int 12))) (oNil))))) oNil))))) (mNx))
  (mRet (mOp pTuple (oCons (oN 2) (oNil)))))
noncomputable def C_L_free_rates : List PV → CR := runB 3 2 [0, 1] m_L_free_rates
theorem fb_L_free_rates (T : Tx P w K mg base aBadLine aBadThing aRateError) : FB P w K mg base 4 "_law_free_rates" 2 C_L_free_rates := by
  obtain ⟨f, fd, F, g, b⟩ := T.f_L_free_rates
  exact fb_of (N := ["d", "size", "row"]) (ps := ["d", "size"]) (pn := [0, 1]) (m := m_L_free_rates) (k := 3) F sc_L_free_rates g b fun cdv A outer s H E hr => (sss_cons (ss_set 2 (se_bty call_list_of vo_list (by rfl) T.b_list bt_list (sa_cons (so_E (se_call bx_tk (fb_L_free_numbers T) (hr.mono (by omega)) (by rfl) (sa_cons (so_N 0 (pv 0)) (sa_cons (so_N 1 (pv 1)) (sa_cons (so_E se_int) sa_nil))))) sa_nil)) sc_L_free_rates.nd rfl (Or.inl rfl) (by decide) (by rfl) (.inl rfl))
  (sss_cons (ss_if (st_cmp (op_eqD (hu64 hr)) vo_eq (so_E (se_blt (call_sum2 rfl) vo_sum (by rfl) T.b_sum bt_sum (sa_cons (so_N 2 (pv 2)) sa_nil))) (so_E se_int) (nomark _)) (sss_one (ss_setI 2 (se_fz (se_op2 op_addAll vo_add (so_E se_int) (so_E (se_call bx_tk (fb_L_draw T) (hr.mono (by omega)) (by rfl) (sa_cons (so_N 0 (pv 0)) (sa_cons (so_E se_int) sa_nil)))))) (pv 2) (se_call bx_tk (fb_L_draw T) (hr.mono (by omega)) (by rfl) (sa_cons (so_N 0 (pv 0)) (sa_cons (so_N 1 (pv 1)) sa_nil))))) sss_nil)
  (sss_one (ss_ret (se_bty call_tuple_of vo_tuple (by rfl) T.b_tuple bt_tuple (sa_cons (so_N 2 (pv 2)) sa_nil))))))

/-! ### _law_free_start -/
abbrev s_L_free_start : Stmt := tS 57
theorem sc_L_free_start : FnScope ["d", "many"] ["d"] (defScope s_L_free_start) := ⟨rfl, rfl, rfl, by decide +kernel, rfl, by decide +kernel, by decide +kernel⟩
noncomputable def m_L_free_start : MS := mSeq (mAsg (mOp pMul2 (oCons (oE (mCallN 2 C_L_draw (oCons (oN 0) (oCons (oE (mC (.int 2))) (oNil))))) (oCons (oE (mCallN 2 C_L_draw (oCons (oN 0) (oCons (oE (mC (.int 5))) (oNil))))) oNil))) (t1 1))
  (mSeq (mIf (mT (mCallN 2 C_L_rare (oCons (oN 0) (oCons (oE (mC (.int 9))) (oNil))))) (mAsg (mOp pSub (oCons (oE (mC (.int 60))) (oCons (oE (mCallN 2 C_L_draw (oCons (oN 0) (oCons (oE (mC (.int 2))) (oNil))))) oNil))) (t1 1)) (mNx))
  (mRet (mCallN 3 C_L_free_numbers (oCons (oN 0) (oCons (oN 1) (oCons (oE (mC (.int 9972))) (oNil)))))))
noncomputable def C_L_free_start : List PV → CR := runB 2 1 [0] m_L_free_start
theorem fb_L_free_start (T : Tx P w K mg base aBadLine aBadThing aRateError) : FB P w K mg base 4 "_law_free_start" 1 C_L_free_start := by
  obtain ⟨f, fd, F, g, b⟩ := T.f_L_free_start
  exact fb_of (N := ["d", "many"]) (ps := ["d"]) (pn := [0]) (m := m_L_free_start) (k := 3) F sc_L_free_start g b fun cdv A outer s H E hr => (sss_cons (ss_set 1 (se_op2 op_mul2 vo_mul2 (so_E (se_call bx_tk (fb_L_draw T) (hr.mono (by omega)) (by rfl) (sa_cons (so_N 0 (pv 0)) (sa_cons (so_E se_int) sa_nil)))) (so_E (se_call bx_tk (fb_L_draw T) (hr.mono (by omega)) (by rfl) (sa_cons (so_N 0 (pv 0)) (sa_cons (so_E se_int) sa_nil))))) sc_L_free_start.nd rfl (Or.inl rfl) (by decide) (by rfl) (.inl rfl))
  (sss_cons (ss_if (st_val (se_call bx_tk (fb_L_rare T) (hr.mono (by omega)) (by rfl) (sa_cons (so_N 0 (pv 0)) (sa_cons (so_E se_int) sa_nil)))) (sss_one (ss_set 1 (se_op2 op_sub vo_sub (so_E se_int) (so_E (se_call bx_tk (fb_L_draw T) (hr.mono (by omega)) (by rfl) (sa_cons (so_N 0 (pv 0)) (sa_cons (so_E se_int) sa_nil))))) sc_L_free_start.nd rfl (Or.inl rfl) (by decide) (by rfl) (.inl rfl))) sss_nil)
  (sss_one (ss_ret (se_call bx_tk (fb_L_free_numbers T) (hr.mono (by omega)) (by rfl) (sa_cons (so_N 0 (pv 0)) (sa_cons (so_N 1 (pv 1)) (sa_cons (so_E se_int) sa_nil))))))))

/-! ### _law_free_queue -/
abbrev s_L_free_queue : Stmt := tS 58
theorem sc_L_free_queue : FnScope ["d", "blocks", "source", "target", "gives", "takes"] ["d", "blocks"] (defScope s_L_free_queue) := ⟨rfl, rfl, rfl, by decide +kernel, rfl, by decide +kernel, by decide +kernel⟩
noncomputable def m_L_free_queue : MS := mSeq (mPar 2 3 (vCons (mCallN 2 C_L_draw (oCons (oN 0) (oCons (oE (mOp pLen (oCons (oN 1) (oNil)))) (oNil)))) (vCons (mCallN 2 C_L_draw (oCons (oN 0) (oCons (oE (mOp pLen (oCons (oN 1) (oNil)))) (oNil)))) (vNil))))
  (mSeq (mAsg (mCallN 2 C_L_free_rates (oCons (oN 0) (oCons (oE (mOp pLen (oCons (oE (mOp pIx (oCons (oE (mOp pIx (oCons (oN 1) (oCons (oN 2) oNil)))) (oCons (oE (mC (.int 1))) oNil)))) (oNil)))) (oNil)))) (t1 4))
  (mSeq (mAsg (mCallN 2 C_L_free_rates (oCons (oN 0) (oCons (oE (mOp pLen (oCons (oE (mOp pIx (oCons (oE (mOp pIx (oCons (oN 1) (oCons (oN 3) oNil)))) (oCons (oE (mC (.int 1))) oNil)))) (oNil)))) (oNil)))) (t1 5))
  (mRet (mTup (vCons (mFzN 2) (vCons (mFzN 4) (vCons (mFzN 3) (vCons (mFzN 5) (vCons (mFz (mCallN 1 C_L_free_start (oCons (oN 0) (oNil)))) (vNil))))))))))
noncomputable def C_L_free_queue : List PV → CR := runB 6 2 [0, 1] m_L_free_queue
theorem fb_L_free_queue (T : Tx P w K mg base aBadLine aBadThing aRateError) : FB P w K mg base 5 "_law_free_queue" 2 C_L_free_queue := by
  obtain ⟨f, fd, F, g, b⟩ := T.f_L_free_queue
  exact fb_of (N := ["d", "blocks", "source", "target", "gives", "takes"]) (ps := ["d", "blocks"]) (pn := [0, 1]) (m := m_L_free_queue) (k := 4) F sc_L_free_queue g b fun cdv A outer s H E hr => (sss_cons (ss_par 2 3 rfl sc_L_free_queue.nd rfl rfl (by decide) rfl rfl (by decide) (sv_cons (se_call bx_tk (fb_L_draw T) (hr.mono (by omega)) (by rfl) (sa_cons (so_N 0 (pv 0)) (sa_cons (so_E (se_blt call_len vo_len (by rfl) T.b_len bt_len (sa_cons (so_N 1 (pv 1)) sa_nil))) sa_nil))) (sv_cons (se_call bx_tk (fb_L_draw T) (hr.mono (by omega)) (by rfl) (sa_cons (so_N 0 (pv 0)) (sa_cons (so_E (se_blt call_len vo_len (by rfl) T.b_len bt_len (sa_cons (so_N 1 (pv 1)) sa_nil))) sa_nil))) sv_nil)) (by rfl) (by rfl))
  (sss_cons (ss_set 4 (se_call bx_tk (fb_L_free_rates T) (hr.mono (by omega)) (by rfl) (sa_cons (so_N 0 (pv 0)) (sa_cons (so_E (se_blt call_len vo_len (by rfl) T.b_len bt_len (sa_cons (so_E (se_ix ix_seq vo_ix (so_E (se_ix ix_seq vo_ix (so_N 1 (pv 1)) (so_N 2 (pv 2)) (by intro _ _; rfl))) (so_E se_int) (by intro _ _; rfl))) sa_nil))) sa_nil))) sc_L_free_queue.nd rfl (Or.inl rfl) (by decide) (by rfl) (.inl rfl))
  (sss_cons (ss_set 5 (se_call bx_tk (fb_L_free_rates T) (hr.mono (by omega)) (by rfl) (sa_cons (so_N 0 (pv 0)) (sa_cons (so_E (se_blt call_len vo_len (by rfl) T.b_len bt_len (sa_cons (so_E (se_ix ix_seq vo_ix (so_E (se_ix ix_seq vo_ix (so_N 1 (pv 1)) (so_N 3 (pv 3)) (by intro _ _; rfl))) (so_E se_int) (by intro _ _; rfl))) sa_nil))) sa_nil))) sc_L_free_queue.nd rfl (Or.inl rfl) (by decide) (by rfl) (.inl rfl))
  (sss_one (ss_ret (se_tup (sv_cons (se_FzN 2 (pv 2)) (sv_cons (se_FzN 4 (pv 4)) (sv_cons (se_FzN 3 (pv 3)) (sv_cons (se_FzN 5 (pv 5)) (sv_cons (se_fz (se_call bx_tk (fb_L_free_start T) (hr.mono (by omega)) (by rfl) (sa_cons (so_N 0 (pv 0)) sa_nil))) sv_nil)))))))))))

/-! ### _law_big_graph -/
abbrev s_L_big_graph : Stmt := tS 59
theorem sc_L_big_graph : FnScope ["d", "k", "names", "some", "blocks", "one", "rows", "size"] ["d"] (defScope s_L_big_graph) := ⟨rfl, rfl, rfl, by decide +kernel, rfl, by decide +kernel, by decide +kernel⟩
noncomputable def m_L_big_graph : MS := mSeq (mAsg (mCallN 2 C_L_shuffled (oCons (oN 0) (oCons (oE (mCallN 0 C_L_pool oNil)) (oNil)))) (t1 2))
  (mSeq (mAsg (mComp (oCons (oE (mC (.int 3))) oNil) itRng1 (t1 1) (mYes) (mFz (mCallN 3 C_L_free_block (oCons (oN 0) (oCons (oE (mLst (vNil))) (oCons (oE (mC (.int 16))) (oNil)))))) [1]) (t1 3))
  (mSeq (mAsg (mLst (vNil)) (t1 4))
  (mSeq (mFor [0] (oCons (oE (mOp pSub (oCons (oE (mC (.int 60))) (oCons (oE (mOp pMul2 (oCons (oE (mCallN 2 C_L_draw (oCons (oN 0) (oCons (oE (mC (.int 2))) (oNil))))) (oCons (oE (mCallN 2 C_L_draw (oCons (oN 0) (oCons (oE (mC (.int 58))) (oNil))))) oNil)))) oNil)))) oNil) itRng1 (t1 1) (mSeq (mAsg (mCallN 2 C_L_pick (oCons (oN 0) (oCons (oN 3) (oNil)))) (t1 5))
  (mDrop (mMeth 4 fApp (vCons (mTup (vCons (mFz (mOp pIx (oCons (oN 2) (oCons (oN 1) oNil)))) (vCons (mFz (mOp pIx (oCons (oN 5) (oCons (oE (mC (.int 1))) oNil)))) (vCons (mFz (mOp pIx (oCons (oN 5) (oCons (oE (mC (.int 2))) oNil)))) (vNil))))) (vNil))))))
  (mSeq (mAsg (mComp (oCons (oE (mC (.int 3))) oNil) itRng1 (t1 1) (mYes) (mFz (mCallN 2 C_L_free_queue (oCons (oN 0) (oCons (oN 4) (oNil))))) [1]) (t1 6))
  (mSeq (mAsg (mOp pSub (oCons (oE (mC (.int 160))) (oCons (oE (mOp pMul2 (oCons (oE (mCallN 2 C_L_draw (oCons (oN 0) (oCons (oE (mC (.int 2))) (oNil))))) (oCons (oE (mCallN 2 C_L_draw (oCons (oN 0) (oCons (oE (mC (.int 161))) (oNil))))) oNil)))) oNil))) (t1 7))
  (mRet (mTup (vCons (mOp pTuple (oCons (oN 4) (oNil))) (vCons (mOp pTuple (oCons (oE (mComp (oCons (oN 7) oNil) itRng1 (t1 1) (mYes) (mFz (mCallN 2 C_L_pick (oCons (oN 0) (oCons (oN 6) (oNil))))) [1])) (oNil))) (vNil))))))))))
noncomputable def C_L_big_graph : List PV → CR := runB 8 1 [0] m_L_big_graph
theorem fb_L_big_graph (T : Tx P w K mg base aBadLine aBadThing aRateError) : FB P w K mg base 6 "_law_big_graph" 1 C_L_big_graph := by
  obtain ⟨f, fd, F, g, b⟩ := T.f_L_big_graph
  exact fb_of (N := ["d", "k", "names", "some", "blocks", "one", "rows", "size"]) (ps := ["d"]) (pn := [0]) (m := m_L_big_graph) (k := 5) F sc_L_big_graph g b fun cdv A outer s H E hr => (sss_cons (ss_set 2 (se_call bx_tk (fb_L_shuffled T) (hr.mono (by omega)) (by rfl) (sa_cons (so_N 0 (pv 0)) (sa_cons (so_E (se_call0 bx_tk (fb_L_pool T) (hr.mono (by omega)) (by rfl))) sa_nil))) sc_L_big_graph.nd rfl (Or.inl rfl) (by decide) (by rfl) (.inl rfl))
  (sss_cons (ss_setLc 3 rfl sc_L_big_graph.nd rfl rfl (by decide) (sw_true rfl rfl rfl (by decide +kernel)) (si_rng1 (so_E se_int) (by rfl) T.b_range (by rfl) (by rfl)) vi_rng1 (own := [("k", 1)]) (blkOk_by (N := ["d", "k", "names", "some", "blocks", "one", "rows", "size"]) (sc := defScope s_L_big_graph) (by decide +kernel)) (tgb_name 1 (fun _ _ _ _ _ => (pg_name (i := 1) sc_L_big_graph.nd rfl (Or.inl rfl)))) (by decide) (fun _ _ _ _ _ => sif_nil) (fun _ _ _ _ _ => (se_fz (se_call takes0 (fb_L_free_block T) (hr.mono (by omega)) (by rfl) (sa_cons (so_N 0 (pv 0)) (sa_cons (so_E (se_lst sv_nil)) (sa_cons (so_E se_int) sa_nil)))))))
  (sss_cons (ss_set 4 (se_lst sv_nil) sc_L_big_graph.nd rfl (Or.inr rfl) (by decide) (by rfl) (.inl rfl))
  (sss_cons (ss_for bx_po rfl (si_rng1 (so_E (se_op2 op_sub vo_sub (so_E se_int) (so_E (se_op2 op_mul2 vo_mul2 (so_E (se_call bx_tk (fb_L_draw T) (hr.mono (by omega)) (by rfl) (sa_cons (so_N 0 (pv 0)) (sa_cons (so_E se_int) sa_nil)))) (so_E (se_call bx_tk (fb_L_draw T) (hr.mono (by omega)) (by rfl) (sa_cons (so_N 0 (pv 0)) (sa_cons (so_E se_int) sa_nil)))))))) (by rfl) T.b_range (by rfl) (by rfl)) vi_rng1 (tg_name 1 (pg_name (i := 1) sc_L_big_graph.nd rfl (Or.inl rfl))) (by decide) (by decide) (sss_cons (ss_set 5 (se_call bx_tk (fb_L_pick T) (hr.mono (by omega)) (by rfl) (sa_cons (so_N 0 (pv 0)) (sa_cons (so_N 3 (pv 3)) sa_nil))) sc_L_big_graph.nd rfl (Or.inl rfl) (by decide) (by rfl) (.inl rfl))
  (sss_one (ss_expr (se_meth 4 PySem.F.slot_list_append PySem.F.type_list_append mt_append vm_app (pv 4) (sv_cons (se_tup (sv_cons (se_fz (se_ix ix_seq vo_ix (so_N 2 (pv 2)) (so_N 1 (pv 1)) (by intro _ _; rfl))) (sv_cons (se_fz (se_ix ix_seq vo_ix (so_N 5 (pv 5)) (so_E se_int) (by intro _ _; rfl))) (sv_cons (se_fz (se_ix ix_seq vo_ix (so_N 5 (pv 5)) (so_E se_int) (by intro _ _; rfl))) sv_nil)))) sv_nil)) (by rfl)))))
  (sss_cons (ss_set 6 (se_comp rfl sc_L_big_graph.nd (si_rng1 (so_E se_int) (by rfl) T.b_range (by rfl) (by rfl)) vi_rng1 (own := [("k", 1)]) (blkOk_by (N := ["d", "k", "names", "some", "blocks", "one", "rows", "size"]) (sc := defScope s_L_big_graph) (by decide +kernel)) (tgb_name 1 (fun _ _ _ _ _ => (pg_name (i := 1) sc_L_big_graph.nd rfl (Or.inl rfl)))) (by decide) (fun _ _ _ _ _ => sif_nil) (fun _ _ _ _ _ => (se_fz (se_call takes0 (fb_L_free_queue T) (hr.mono (by omega)) (by rfl) (sa_cons (so_N 0 (pv 0)) (sa_cons (so_N 4 (pv 4)) sa_nil)))))) sc_L_big_graph.nd rfl (Or.inr rfl) (by decide) (by rfl) (.inl rfl))
  (sss_cons (ss_set 7 (se_op2 op_sub vo_sub (so_E se_int) (so_E (se_op2 op_mul2 vo_mul2 (so_E (se_call bx_tk (fb_L_draw T) (hr.mono (by omega)) (by rfl) (sa_cons (so_N 0 (pv 0)) (sa_cons (so_E se_int) sa_nil)))) (so_E (se_call bx_tk (fb_L_draw T) (hr.mono (by omega)) (by rfl) (sa_cons (so_N 0 (pv 0)) (sa_cons (so_E se_int) sa_nil))))))) sc_L_big_graph.nd rfl (Or.inl rfl) (by decide) (by rfl) (.inl rfl))
  (sss_one (ss_ret (se_tup (sv_cons (se_bty call_tuple_of vo_tuple (by rfl) T.b_tuple bt_tuple (sa_cons (so_N 4 (pv 4)) sa_nil)) (sv_cons (se_bty call_tuple_of vo_tuple (by rfl) T.b_tuple bt_tuple (sa_cons (so_E (se_comp rfl sc_L_big_graph.nd (si_rng1 (so_N 7 (pv 7)) (by rfl) T.b_range (by rfl) (by rfl)) vi_rng1 (own := [("k", 1)]) (blkOk_by (N := ["d", "k", "names", "some", "blocks", "one", "rows", "size"]) (sc := defScope s_L_big_graph) (by decide +kernel)) (tgb_name 1 (fun _ _ _ _ _ => (pg_name (i := 1) sc_L_big_graph.nd rfl (Or.inl rfl)))) (by decide) (fun _ _ _ _ _ => sif_nil) (fun _ _ _ _ _ => (se_fz (se_call takes0 (fb_L_pick T) (hr.mono (by omega)) (by rfl) (sa_cons (so_N 0 (pv 0)) (sa_cons (so_N 6 (pv 6)) sa_nil))))))) sa_nil)) sv_nil)))))))))))

/-! ### _law_free_graph -/
abbrev s_L_free_graph : Stmt := tS 60
theorem sc_L_free_graph : FnScope ["d", "block", "k", "blocks"] ["d"] (defScope s_L_free_graph) := ⟨rfl, rfl, rfl, by decide +kernel, rfl, by decide +kernel, by decide +kernel⟩
noncomputable def m_L_free_graph : MS := mSeq (mIf (mT (mCallN 2 C_L_rare (oCons (oN 0) (oCons (oE (mC (.int 8))) (oNil))))) (mRet (mCallN 1 C_L_big_graph (oCons (oN 0) (oNil)))) (mNx))
  (mSeq (mAsg (mLst (vNil)) (t1 3))
  (mSeq (mFor [0] (oCons (oE (mOp pAdd (oCons (oE (mC (.int 1))) (oCons (oE (mCallN 2 C_L_draw (oCons (oN 0) (oCons (oE (mC (.int 4))) (oNil))))) oNil)))) oNil) itRng1 (t1 2) (mDrop (mMeth 3 fApp (vCons (mFz (mCallN 3 C_L_free_block (oCons (oN 0) (oCons (oE (mComp (oCons (oN 3) oNil) itSeq (t1 1) (mYes) (mFz (mOp pIx (oCons (oN 1) (oCons (oE (mC (.int 0))) oNil)))) [1])) (oCons (oE (mC (.int 16))) (oNil)))))) (vNil)))))
  (mRet (mTup (vCons (mOp pTuple (oCons (oN 3) (oNil))) (vCons (mOp pTuple (oCons (oE (mComp (oCons (oE (mCallN 2 C_L_draw (oCons (oN 0) (oCons (oE (mC (.int 5))) (oNil))))) oNil) itRng1 (t1 2) (mYes) (mFz (mCallN 2 C_L_free_queue (oCons (oN 0) (oCons (oN 3) (oNil))))) [2])) (oNil))) (vNil)))))))
noncomputable def C_L_free_graph : List PV → CR := runB 4 1 [0] m_L_free_graph
theorem fb_L_free_graph (T : Tx P w K mg base aBadLine aBadThing aRateError) : FB P w K mg base 7 "_law_free_graph" 1 C_L_free_graph := by
  obtain ⟨f, fd, F, g, b⟩ := T.f_L_free_graph
  exact fb_of (N := ["d", "block", "k", "blocks"]) (ps := ["d"]) (pn := [0]) (m := m_L_free_graph) (k := 6) F sc_L_free_graph g b fun cdv A outer s H E hr => (sss_cons (ss_if (st_val (se_call bx_tk (fb_L_rare T) (hr.mono (by omega)) (by rfl) (sa_cons (so_N 0 (pv 0)) (sa_cons (so_E se_int) sa_nil)))) (sss_one (ss_ret (se_call bx_tk (fb_L_big_graph T) (hr.mono (by omega)) (by rfl) (sa_cons (so_N 0 (pv 0)) sa_nil)))) sss_nil)
  (sss_cons (ss_set 3 (se_lst sv_nil) sc_L_free_graph.nd rfl (Or.inr rfl) (by decide) (by rfl) (.inl rfl))
  (sss_cons (ss_for bx_po rfl (si_rng1 (so_E (se_op2 op_addAll vo_add (so_E se_int) (so_E (se_call bx_tk (fb_L_draw T) (hr.mono (by omega)) (by rfl) (sa_cons (so_N 0 (pv 0)) (sa_cons (so_E se_int) sa_nil)))))) (by rfl) T.b_range (by rfl) (by rfl)) vi_rng1 (tg_name 2 (pg_name (i := 2) sc_L_free_graph.nd rfl (Or.inl rfl))) (by decide) (by decide) (sss_one (ss_expr (se_meth 3 PySem.F.slot_list_append PySem.F.type_list_append mt_append vm_app (pv 3) (sv_cons (se_fz (se_call bx_tk (fb_L_free_block T) (hr.mono (by omega)) (by rfl) (sa_cons (so_N 0 (pv 0)) (sa_cons (so_E (se_comp rfl sc_L_free_graph.nd (si_seq (so_N 3 (pv 3))) vi_seq (own := [("block", 1)]) (blkOk_by (N := ["d", "block", "k", "blocks"]) (sc := defScope s_L_free_graph) (by decide +kernel)) (tgb_name 1 (fun _ _ _ _ _ => (pg_name (i := 1) sc_L_free_graph.nd rfl (Or.inl rfl)))) (by decide) (fun _ _ _ _ _ => sif_nil) (fun _ _ _ _ _ => (se_fz (se_ix ix_seq vo_ix (so_N 1 (pv 1)) (so_E se_int) (by intro _ _; rfl)))))) (sa_cons (so_E se_int) sa_nil))))) sv_nil)) (by rfl))))
  (sss_one (ss_ret (se_tup (sv_cons (se_bty call_tuple_of vo_tuple (by rfl) T.b_tuple bt_tuple (sa_cons (so_N 3 (pv 3)) sa_nil)) (sv_cons (se_bty call_tuple_of vo_tuple (by rfl) T.b_tuple bt_tuple (sa_cons (so_E (se_comp rfl sc_L_free_graph.nd (si_rng1 (so_E (se_call bx_tk (fb_L_draw T) (hr.mono (by omega)) (by rfl) (sa_cons (so_N 0 (pv 0)) (sa_cons (so_E se_int) sa_nil)))) (by rfl) T.b_range (by rfl) (by rfl)) vi_rng1 (own := [("k", 2)]) (blkOk_by (N := ["d", "block", "k", "blocks"]) (sc := defScope s_L_free_graph) (by decide +kernel)) (tgb_name 2 (fun _ _ _ _ _ => (pg_name (i := 2) sc_L_free_graph.nd rfl (Or.inl rfl)))) (by decide) (fun _ _ _ _ _ => sif_nil) (fun _ _ _ _ _ => (se_fz (se_call takes0 (fb_L_free_queue T) (hr.mono (by omega)) (by rfl) (sa_cons (so_N 0 (pv 0)) (sa_cons (so_N 3 (pv 3)) sa_nil))))))) sa_nil)) sv_nil))))))))

/-! ### _law_near -/
abbrev s_L_near : Stmt := tS 66
theorem sc_L_near : FnScope ["d", "graph", "queue", "block", "k", "blocks", "queues", "way", "name", "times", "deed", "names"] ["d", "graph"] (defScope s_L_near) := ⟨rfl, rfl, rfl, by decide +kernel, rfl, by decide +kernel, by decide +kernel⟩
noncomputable def m_L_near : MS := mSeq (mAsg (mN 1) (tN [5, 6]))
  (mSeq (mAsg (mCallN 2 C_L_draw (oCons (oN 0) (oCons (oE (mC (.int 5))) (oNil)))) (t1 7))
  (mSeq (mIf (mT (mOp (pEq false) (oCons (oN 7) (oCons (oE (mC (.int 0))) oNil)))) (mSeq (mAsg (mOp pIx (oCons (oN 5) (oCons (oE (mOp pNeg (oCons (oE (mC (.int 1))) oNil))) oNil))) (tN [8, 9, 10]))
  (mRet (mTup (vCons (mFz (mOp pAdd (oCons (oE (mOp pSlHi (oCons (oN 5) (oCons (oE (mOp pNeg (oCons (oE (mC (.int 1))) oNil))) oNil)))) (oCons (oE (mTup (vCons (mTup (vCons (mFzN 8) (vCons (mFzN 9) (vCons (mTup (vCons (mFz (mOp pIx (oCons (oN 10) (oCons (oE (mC (.int 0))) oNil)))) (vCons (mFz (mOp pSub (oCons (oE (mC (.int 9972))) (oCons (oE (mOp pIx (oCons (oN 10) (oCons (oE (mC (.int 1))) oNil)))) oNil)))) (vNil)))) (vNil))))) (vNil)))) oNil)))) (vCons (mFzN 6) (vNil)))))) (mNx))
  (mSeq (mIf (mT (mOp (pEq false) (oCons (oN 7) (oCons (oE (mC (.int 1))) oNil)))) (mRet (mTup (vCons (mFzN 5) (vCons (mFz (mOp pRev (oCons (oN 6) oNil))) (vNil))))) (mNx))
  (mSeq (mIf (mT (mOp (pEq false) (oCons (oN 7) (oCons (oE (mC (.int 2))) oNil)))) (mRet (mTup (vCons (mFzN 5) (vCons (mOp pTuple (oCons (oE (mComp (oCons (oN 6) oNil) itSeq (t1 2) (mYes) (mFz (mOp pAdd (oCons (oE (mOp pSlHi (oCons (oN 2) (oCons (oE (mC (.int 4))) oNil)))) (oCons (oE (mTup (vCons (mFz (mOp pRev (oCons (oE (mOp pIx (oCons (oN 2) (oCons (oE (mC (.int 4))) oNil)))) oNil))) (vNil)))) oNil)))) [2])) (oNil))) (vNil))))) (mNx))
  (mSeq (mIf (mT (mOp (pEq false) (oCons (oN 7) (oCons (oE (mC (.int 3))) oNil)))) (mSeq (mAsg (mComp (oCons (oN 5) oNil) itSeq (t1 3) (mYes) (mFz (mOp pIx (oCons (oN 3) (oCons (oE (mC (.int 0))) oNil)))) [3]) (t1 11))
  (mSeq (mAsg (mOp pAdd (oCons (oE (mOp pSlLo (oCons (oN 11) (oCons (oE (mC (.int 1))) oNil)))) (oCons (oE (mOp pSlHi (oCons (oN 11) (oCons (oE (mC (.int 1))) oNil)))) oNil))) (t1 11))
  (mRet (mTup (vCons (mOp pTuple (oCons (oE (mComp (oCons (oE (mOp pLen (oCons (oN 11) (oNil)))) oNil) itRng1 (t1 4) (mYes) (mFz (mOp pAdd (oCons (oE (mTup (vCons (mFz (mOp pIx (oCons (oN 11) (oCons (oN 4) oNil)))) (vNil)))) (oCons (oE (mOp pSlLo (oCons (oE (mOp pIx (oCons (oN 5) (oCons (oN 4) oNil)))) (oCons (oE (mC (.int 1))) oNil)))) oNil)))) [4])) (oNil))) (vCons (mFzN 6) (vNil))))))) (mNx))
  (mRet (mCallN 1 C_L_free_graph (oCons (oN 0) (oNil)))))))))
noncomputable def C_L_near : List PV → CR := runB 12 2 [0, 1] m_L_near
theorem fb_L_near (T : Tx P w K mg base aBadLine aBadThing aRateError) : FB P w K mg base 8 "_law_near" 2 C_L_near := by
  obtain ⟨f, fd, F, g, b⟩ := T.f_L_near
  exact fb_of (N := ["d", "graph", "queue", "block", "k", "blocks", "queues", "way", "name", "times", "deed", "names"]) (ps := ["d", "graph"]) (pn := [0, 1]) (m := m_L_near) (k := 7) F sc_L_near g b fun cdv A outer s H E hr => (sss_cons (ss_asg (se_N 1 (pv 1)) (tg_tup rfl (PNs.cons (pg_name (i := 5) sc_L_near.nd rfl (Or.inr rfl)) (PNs.cons (pg_name (i := 6) sc_L_near.nd rfl (Or.inl rfl)) PNs.nil rfl) rfl) rfl rfl) (by decide) (by rfl) (by rfl) (by rfl))
  (sss_cons (ss_set 7 (se_call bx_tk (fb_L_draw T) (hr.mono (by omega)) (by rfl) (sa_cons (so_N 0 (pv 0)) (sa_cons (so_E se_int) sa_nil))) sc_L_near.nd rfl (Or.inl rfl) (by decide) (by rfl) (.inl rfl))
  (sss_cons (ss_if (st_cmp (op_eqD (hu64 hr)) vo_eq (so_N 7 (pv 7)) (so_E se_int) (nomark _)) (sss_cons (ss_asg (se_ix ix_seq vo_ix (so_N 5 (pv 5)) (so_E (se_neg (so_E se_int))) (by intro _ _; rfl)) (tg_tup rfl (PNs.cons (pg_name (i := 8) sc_L_near.nd rfl (Or.inl rfl)) (PNs.cons (pg_name (i := 9) sc_L_near.nd rfl (Or.inl rfl)) (PNs.cons (pg_name (i := 10) sc_L_near.nd rfl (Or.inl rfl)) PNs.nil rfl) rfl) rfl) rfl rfl) (by decide) (by rfl) (by rfl) (by rfl))
  (sss_one (ss_ret (se_tup (sv_cons (se_fz (se_op2 op_addAll vo_add (so_E (se_slHi (so_N 5 (pv 5)) (so_E (se_neg (so_E se_int))))) (so_E (se_tup (sv_cons (se_tup (sv_cons (se_FzN 8 (pv 8)) (sv_cons (se_FzN 9 (pv 9)) (sv_cons (se_tup (sv_cons (se_fz (se_ix ix_seq vo_ix (so_N 10 (pv 10)) (so_E se_int) (by intro _ _; rfl))) (sv_cons (se_fz (se_op2 op_sub vo_sub (so_E se_int) (so_E (se_ix ix_seq vo_ix (so_N 10 (pv 10)) (so_E se_int) (by intro _ _; rfl))))) sv_nil))) sv_nil)))) sv_nil))))) (sv_cons (se_FzN 6 (pv 6)) sv_nil)))))) sss_nil)
  (sss_cons (ss_if (st_cmp (op_eqD (hu64 hr)) vo_eq (so_N 7 (pv 7)) (so_E se_int) (nomark _)) (sss_one (ss_ret (se_tup (sv_cons (se_FzN 5 (pv 5)) (sv_cons (se_fz (se_rev (so_N 6 (pv 6)))) sv_nil))))) sss_nil)
  (sss_cons (ss_if (st_cmp (op_eqD (hu64 hr)) vo_eq (so_N 7 (pv 7)) (so_E se_int) (nomark _)) (sss_one (ss_ret (se_tup (sv_cons (se_FzN 5 (pv 5)) (sv_cons (se_bty call_tuple_of vo_tuple (by rfl) T.b_tuple bt_tuple (sa_cons (so_E (se_comp rfl sc_L_near.nd (si_seq (so_N 6 (pv 6))) vi_seq (own := [("queue", 2)]) (blkOk_by (N := ["d", "graph", "queue", "block", "k", "blocks", "queues", "way", "name", "times", "deed", "names"]) (sc := defScope s_L_near) (by decide +kernel)) (tgb_name 2 (fun _ _ _ _ _ => (pg_name (i := 2) sc_L_near.nd rfl (Or.inl rfl)))) (by decide) (fun _ _ _ _ _ => sif_nil) (fun _ _ _ _ _ => (se_fz (se_op2 op_addAll vo_add (so_E (se_slHi (so_N 2 (pv 2)) (so_E se_int))) (so_E (se_tup (sv_cons (se_fz (se_rev (so_E (se_ix ix_seq vo_ix (so_N 2 (pv 2)) (so_E se_int) (by intro _ _; rfl))))) sv_nil)))))))) sa_nil)) sv_nil))))) sss_nil)
  (sss_cons (ss_if (st_cmp (op_eqD (hu64 hr)) vo_eq (so_N 7 (pv 7)) (so_E se_int) (nomark _)) (sss_cons (ss_set 11 (se_comp rfl sc_L_near.nd (si_seq (so_N 5 (pv 5))) vi_seq (own := [("block", 3)]) (blkOk_by (N := ["d", "graph", "queue", "block", "k", "blocks", "queues", "way", "name", "times", "deed", "names"]) (sc := defScope s_L_near) (by decide +kernel)) (tgb_name 3 (fun _ _ _ _ _ => (pg_name (i := 3) sc_L_near.nd rfl (Or.inl rfl)))) (by decide) (fun _ _ _ _ _ => sif_nil) (fun _ _ _ _ _ => (se_fz (se_ix ix_seq vo_ix (so_N 3 (pv 3)) (so_E se_int) (by intro _ _; rfl))))) sc_L_near.nd rfl (Or.inr rfl) (by decide) (by rfl) (.inl rfl))
  (sss_cons (ss_set 11 (se_op2 op_addAll vo_add (so_E (se_slLo (so_N 11 (pv 11)) (so_E se_int))) (so_E (se_slHi (so_N 11 (pv 11)) (so_E se_int)))) sc_L_near.nd rfl (Or.inr rfl) (by decide) (by rfl) (.inl rfl))
  (sss_one (ss_ret (se_tup (sv_cons (se_bty call_tuple_of vo_tuple (by rfl) T.b_tuple bt_tuple (sa_cons (so_E (se_comp rfl sc_L_near.nd (si_rng1 (so_E (se_blt call_len vo_len (by rfl) T.b_len bt_len (sa_cons (so_N 11 (pv 11)) sa_nil))) (by rfl) T.b_range (by rfl) (by rfl)) vi_rng1 (own := [("k", 4)]) (blkOk_by (N := ["d", "graph", "queue", "block", "k", "blocks", "queues", "way", "name", "times", "deed", "names"]) (sc := defScope s_L_near) (by decide +kernel)) (tgb_name 4 (fun _ _ _ _ _ => (pg_name (i := 4) sc_L_near.nd rfl (Or.inl rfl)))) (by decide) (fun _ _ _ _ _ => sif_nil) (fun _ _ _ _ _ => (se_fz (se_op2 op_addAll vo_add (so_E (se_tup (sv_cons (se_fz (se_ix ix_seq vo_ix (so_N 11 (pv 11)) (so_N 4 (pv 4)) (by intro _ _; rfl))) sv_nil))) (so_E (se_slLo (so_E (se_ix ix_seq vo_ix (so_N 5 (pv 5)) (so_N 4 (pv 4)) (by intro _ _; rfl))) (so_E se_int)))))))) sa_nil)) (sv_cons (se_FzN 6 (pv 6)) sv_nil))))))) sss_nil)
  (sss_one (ss_ret (se_call bx_tk (fb_L_free_graph T) (hr.mono (by omega)) (by rfl) (sa_cons (so_N 0 (pv 0)) sa_nil))))))))))

/-! ### _law_text -/
abbrev s_L_text : Stmt := tS 65
theorem sc_L_text : FnScope ["lines", "words"] ["lines"] (defScope s_L_text) := ⟨rfl, rfl, rfl, by decide +kernel, rfl, by decide +kernel, by decide +kernel⟩
noncomputable def m_L_text : MS := mRet (mStr1 pJoin (mC (.str "")) (oE (mComp (oCons (oN 0) oNil) itSeq (t1 1) (mYes) (mFz (mOp pAdd (oCons (oE (mStr1 pJoin (mC (.str " ")) (oN 1))) (oCons (oE (mC (.str "\n"))) oNil)))) [1])))
noncomputable def C_L_text : List PV → CR := runB 2 1 [0] m_L_text
theorem fb_L_text (T : Tx P w K mg base aBadLine aBadThing aRateError) : FB P w K mg base 1 "_law_text" 1 C_L_text := by
  obtain ⟨f, fd, F, g, b⟩ := T.f_L_text
  exact fb_of (N := ["lines", "words"]) (ps := ["lines"]) (pn := [0]) (m := m_L_text) (k := 0) F sc_L_text g b fun cdv A outer s H E hr => (sss_one (ss_ret (se_join se_str (so_E (se_comp rfl sc_L_text.nd (si_seq (so_N 0 (pv 0))) vi_seq (own := [("words", 1)]) (blkOk_by (N := ["lines", "words"]) (sc := defScope s_L_text) (by decide +kernel)) (tgb_name 1 (fun _ _ _ _ _ => (pg_name (i := 1) sc_L_text.nd rfl (Or.inl rfl)))) (by decide) (fun _ _ _ _ _ => sif_nil) (fun _ _ _ _ _ => (se_fz (se_op2 op_addAll vo_add (so_E (se_join se_str (so_N 1 (pv 1)))) (so_E se_str)))))))))

/-! ### _law_words_of -/
abbrev s_L_words_of : Stmt := tS 61
theorem sc_L_words_of : FnScope ["numbers", "number"] ["numbers"] (defScope s_L_words_of) := ⟨rfl, rfl, rfl, by decide +kernel, rfl, by decide +kernel, by decide +kernel⟩
noncomputable def m_L_words_of : MS := mRet (mComp (oCons (oN 0) oNil) itSeq (t1 1) (mYes) (mOp pStr (oCons (oN 1) (oNil))) [1])
noncomputable def C_L_words_of : List PV → CR := runB 2 1 [0] m_L_words_of
theorem fb_L_words_of (T : Tx P w K mg base aBadLine aBadThing aRateError) : FB P w K mg base 1 "_law_words_of" 1 C_L_words_of := by
  obtain ⟨f, fd, F, g, b⟩ := T.f_L_words_of
  exact fb_of (N := ["numbers", "number"]) (ps := ["numbers"]) (pn := [0]) (m := m_L_words_of) (k := 0) F sc_L_words_of g b fun cdv A outer s H E hr => (sss_one (ss_ret (se_comp rfl sc_L_words_of.nd (si_seq (so_N 0 (pv 0))) vi_seq (own := [("number", 1)]) (blkOk_by (N := ["numbers", "number"]) (sc := defScope s_L_words_of) (by decide +kernel)) (tgb_name 1 (fun _ _ _ _ _ => (pg_name (i := 1) sc_L_words_of.nd rfl (Or.inl rfl)))) (by decide) (fun _ _ _ _ _ => sif_nil) (fun _ _ _ _ _ => (se_bty call_str_int vo_str (by rfl) T.b_str bt_str (sa_cons (so_N 1 (pv 1)) sa_nil))))))

/-! ### _law_block_words -/
abbrev s_L_block_words : Stmt := tS 62
theorem sc_L_block_words : FnScope ["block"] ["block"] (defScope s_L_block_words) := ⟨rfl, rfl, rfl, by decide +kernel, rfl, by decide +kernel, by decide +kernel⟩
noncomputable def m_L_block_words : MS := mRet (mOp pAdd (oCons (oE (mOp pAdd (oCons (oE (mOp pAdd (oCons (oE (mLst (vCons (mC (.str "block")) (vCons (mFz (mOp pIx (oCons (oN 0) (oCons (oE (mC (.int 0))) oNil)))) (vCons (mC (.str "times")) (vNil)))))) (oCons (oE (mCallN 1 C_L_words_of (oCons (oE (mOp pIx (oCons (oN 0) (oCons (oE (mC (.int 1))) oNil)))) (oNil)))) oNil)))) (oCons (oE (mLst (vCons (mC (.str "deed")) (vNil)))) oNil)))) (oCons (oE (mCallN 1 C_L_words_of (oCons (oE (mOp pIx (oCons (oN 0) (oCons (oE (mC (.int 2))) oNil)))) (oNil)))) oNil)))
noncomputable def C_L_block_words : List PV → CR := runB 1 1 [0] m_L_block_words
theorem fb_L_block_words (T : Tx P w K mg base aBadLine aBadThing aRateError) : FB P w K mg base 2 "_law_block_words" 1 C_L_block_words := by
  obtain ⟨f, fd, F, g, b⟩ := T.f_L_block_words
  exact fb_of (N := ["block"]) (ps := ["block"]) (pn := [0]) (m := m_L_block_words) (k := 1) F sc_L_block_words g b fun cdv A outer s H E hr => (sss_one (ss_ret (se_op2 op_addAll vo_add (so_E (se_op2 op_addAll vo_add (so_E (se_op2 op_addAll vo_add (so_E (se_lst (sv_cons se_str (sv_cons (se_fz (se_ix ix_seq vo_ix (so_N 0 (pv 0)) (so_E se_int) (by intro _ _; rfl))) (sv_cons se_str sv_nil))))) (so_E (se_call bx_tk (fb_L_words_of T) (hr.mono (by omega)) (by rfl) (sa_cons (so_E (se_ix ix_seq vo_ix (so_N 0 (pv 0)) (so_E se_int) (by intro _ _; rfl))) sa_nil))))) (so_E (se_lst (sv_cons se_str sv_nil))))) (so_E (se_call bx_tk (fb_L_words_of T) (hr.mono (by omega)) (by rfl) (sa_cons (so_E (se_ix ix_seq vo_ix (so_N 0 (pv 0)) (so_E se_int) (by intro _ _; rfl))) sa_nil))))))

/-! ### _law_queue_words -/
abbrev s_L_queue_words : Stmt := tS 63
theorem sc_L_queue_words : FnScope ["head", "queue", "source", "target", "words"] ["head", "queue", "source", "target"] (defScope s_L_queue_words) := ⟨rfl, rfl, rfl, by decide +kernel, rfl, by decide +kernel, by decide +kernel⟩
noncomputable def m_L_queue_words : MS := mSeq (mAsg (mOp pAdd (oCons (oE (mOp pAdd (oCons (oE (mOp pAdd (oCons (oN 0) (oCons (oE (mLst (vCons (mFzN 2) (vCons (mC (.str "gives")) (vNil))))) oNil)))) (oCons (oE (mCallN 1 C_L_words_of (oCons (oE (mOp pIx (oCons (oN 1) (oCons (oE (mC (.int 1))) oNil)))) (oNil)))) oNil)))) (oCons (oE (mLst (vCons (mC (.str "target")) (vCons (mFzN 3) (vCons (mC (.str "takes")) (vNil)))))) oNil))) (t1 4))
  (mRet (mOp pAdd (oCons (oE (mOp pAdd (oCons (oE (mOp pAdd (oCons (oN 4) (oCons (oE (mCallN 1 C_L_words_of (oCons (oE (mOp pIx (oCons (oN 1) (oCons (oE (mC (.int 3))) oNil)))) (oNil)))) oNil)))) (oCons (oE (mLst (vCons (mC (.str "start")) (vNil)))) oNil)))) (oCons (oE (mCallN 1 C_L_words_of (oCons (oE (mOp pIx (oCons (oN 1) (oCons (oE (mC (.int 4))) oNil)))) (oNil)))) oNil))))
noncomputable def C_L_queue_words : List PV → CR := runB 5 4 [0, 1, 2, 3] m_L_queue_words
theorem fb_L_queue_words (T : Tx P w K mg base aBadLine aBadThing aRateError) : FB P w K mg base 2 "_law_queue_words" 4 C_L_queue_words := by
  obtain ⟨f, fd, F, g, b⟩ := T.f_L_queue_words
  exact fb_of (N := ["head", "queue", "source", "target", "words"]) (ps := ["head", "queue", "source", "target"]) (pn := [0, 1, 2, 3]) (m := m_L_queue_words) (k := 1) F sc_L_queue_words g b fun cdv A outer s H E hr => (sss_cons (ss_set 4 (se_op2 op_addAll vo_add (so_E (se_op2 op_addAll vo_add (so_E (se_op2 op_addAll vo_add (so_N 0 (pv 0)) (so_E (se_lst (sv_cons (se_FzN 2 (pv 2)) (sv_cons se_str sv_nil)))))) (so_E (se_call bx_tk (fb_L_words_of T) (hr.mono (by omega)) (by rfl) (sa_cons (so_E (se_ix ix_seq vo_ix (so_N 1 (pv 1)) (so_E se_int) (by intro _ _; rfl))) sa_nil))))) (so_E (se_lst (sv_cons se_str (sv_cons (se_FzN 3 (pv 3)) (sv_cons se_str sv_nil)))))) sc_L_queue_words.nd rfl (Or.inl rfl) (by decide) (by rfl) (.inl rfl))
  (sss_one (ss_ret (se_op2 op_addAll vo_add (so_E (se_op2 op_addAll vo_add (so_E (se_op2 op_addAll vo_add (so_N 4 (pv 4)) (so_E (se_call bx_tk (fb_L_words_of T) (hr.mono (by omega)) (by rfl) (sa_cons (so_E (se_ix ix_seq vo_ix (so_N 1 (pv 1)) (so_E se_int) (by intro _ _; rfl))) sa_nil))))) (so_E (se_lst (sv_cons se_str sv_nil))))) (so_E (se_call bx_tk (fb_L_words_of T) (hr.mono (by omega)) (by rfl) (sa_cons (so_E (se_ix ix_seq vo_ix (so_N 1 (pv 1)) (so_E se_int) (by intro _ _; rfl))) sa_nil)))))))

/-! ### _law_graph_lines -/
abbrev s_L_graph_lines : Stmt := tS 64
theorem sc_L_graph_lines : FnScope ["graph", "block", "names", "lines", "queue"] ["graph"] (defScope s_L_graph_lines) := ⟨rfl, rfl, rfl, by decide +kernel, rfl, by decide +kernel, by decide +kernel⟩
noncomputable def m_L_graph_lines : MS := mSeq (mAsg (mComp (oCons (oE (mOp pIx (oCons (oN 0) (oCons (oE (mC (.int 0))) oNil)))) oNil) itSeq (t1 1) (mYes) (mFz (mOp pIx (oCons (oN 1) (oCons (oE (mC (.int 0))) oNil)))) [1]) (t1 2))
  (mSeq (mAsg (mComp (oCons (oE (mOp pIx (oCons (oN 0) (oCons (oE (mC (.int 0))) oNil)))) oNil) itSeq (t1 1) (mYes) (mFz (mCallN 1 C_L_block_words (oCons (oN 1) (oNil)))) [1]) (t1 3))
  (mSeq (mFor [0] (oCons (oE (mOp pIx (oCons (oN 0) (oCons (oE (mC (.int 1))) oNil)))) oNil) itSeq (t1 4) (mDrop (mMeth 3 fApp (vCons (mFz (mCallN 4 C_L_queue_words (oCons (oE (mLst (vCons (mC (.str "queue")) (vNil)))) (oCons (oN 4) (oCons (oE (mOp pIx (oCons (oN 2) (oCons (oE (mOp pIx (oCons (oN 4) (oCons (oE (mC (.int 0))) oNil)))) oNil)))) (oCons (oE (mOp pIx (oCons (oN 2) (oCons (oE (mOp pIx (oCons (oN 4) (oCons (oE (mC (.int 2))) oNil)))) oNil)))) (oNil))))))) (vNil)))))
  (mRet (mN 3))))
noncomputable def C_L_graph_lines : List PV → CR := runB 5 1 [0] m_L_graph_lines
theorem fb_L_graph_lines (T : Tx P w K mg base aBadLine aBadThing aRateError) : FB P w K mg base 3 "_law_graph_lines" 1 C_L_graph_lines := by
  obtain ⟨f, fd, F, g, b⟩ := T.f_L_graph_lines
  exact fb_of (N := ["graph", "block", "names", "lines", "queue"]) (ps := ["graph"]) (pn := [0]) (m := m_L_graph_lines) (k := 2) F sc_L_graph_lines g b fun cdv A outer s H E hr => (sss_cons (ss_setLc 2 rfl sc_L_graph_lines.nd rfl rfl (by decide) (sw_true rfl rfl rfl (by decide +kernel)) (si_seq (so_E (se_ix ix_seq vo_ix (so_N 0 (pv 0)) (so_E se_int) (by intro _ _; rfl)))) vi_seq (own := [("block", 1)]) (blkOk_by (N := ["graph", "block", "names", "lines", "queue"]) (sc := defScope s_L_graph_lines) (by decide +kernel)) (tgb_name 1 (fun _ _ _ _ _ => (pg_name (i := 1) sc_L_graph_lines.nd rfl (Or.inl rfl)))) (by decide) (fun _ _ _ _ _ => sif_nil) (fun _ _ _ _ _ => (se_fz (se_ix ix_seq vo_ix (so_N 1 (pv 1)) (so_E se_int) (by intro _ _; rfl)))))
  (sss_cons (ss_setLc 3 rfl sc_L_graph_lines.nd rfl rfl (by decide) (sw_true rfl rfl rfl (by decide +kernel)) (si_seq (so_E (se_ix ix_seq vo_ix (so_N 0 (pv 0)) (so_E se_int) (by intro _ _; rfl)))) vi_seq (own := [("block", 1)]) (blkOk_by (N := ["graph", "block", "names", "lines", "queue"]) (sc := defScope s_L_graph_lines) (by decide +kernel)) (tgb_name 1 (fun _ _ _ _ _ => (pg_name (i := 1) sc_L_graph_lines.nd rfl (Or.inl rfl)))) (by decide) (fun _ _ _ _ _ => sif_nil) (fun _ _ _ _ _ => (se_fz (se_call takes0 (fb_L_block_words T) (hr.mono (by omega)) (by rfl) (sa_cons (so_N 1 (pv 1)) sa_nil)))))
  (sss_cons (ss_for bx_po rfl (si_seq (so_E (se_ix ix_seq vo_ix (so_N 0 (pv 0)) (so_E se_int) (by intro _ _; rfl)))) vi_seq (tg_name 4 (pg_name (i := 4) sc_L_graph_lines.nd rfl (Or.inl rfl))) (by decide) (by decide) (sss_one (ss_expr (se_meth 3 PySem.F.slot_list_append PySem.F.type_list_append mt_append vm_app (pv 3) (sv_cons (se_fz (se_call bx_tk (fb_L_queue_words T) (hr.mono (by omega)) (by rfl) (sa_cons (so_E (se_lst (sv_cons se_str sv_nil))) (sa_cons (so_N 4 (pv 4)) (sa_cons (so_E (se_ix ix_seq vo_ix (so_N 2 (pv 2)) (so_E (se_ix ix_seq vo_ix (so_N 4 (pv 4)) (so_E se_int) (by intro _ _; rfl))) (by intro _ _; rfl))) (sa_cons (so_E (se_ix ix_seq vo_ix (so_N 2 (pv 2)) (so_E (se_ix ix_seq vo_ix (so_N 4 (pv 4)) (so_E se_int) (by intro _ _; rfl))) (by intro _ _; rfl))) sa_nil)))))) sv_nil)) (by rfl))))
  (sss_one (ss_ret (se_N 3 (pv 3)))))))

/-! ### text_lines -/
abbrev s_text_lines : Stmt := tS 36
theorem sc_text_lines : FnScope ["text"] ["text"] (defScope s_text_lines) := ⟨rfl, rfl, rfl, by decide +kernel, rfl, by decide +kernel, by decide +kernel⟩
noncomputable def m_text_lines : MS := mSeq (mIf (mOr (mNot (mT (mOp (pIsi "str") (oCons (oN 0) oNil)))) (mT (mOp (pCmp pGt) (oCons (oE (mOp pLen (oCons (oN 0) (oNil)))) (oCons (oE (mC (.int 100000))) oNil))))) (mRaise (mMk "BadThing" ["part"] (vCons (mC (.str "text")) (vNil)))) (mNx))
  (mSeq (mIf (mNot (mT (mStr1 pEnds (mN 0) (oE (mC (.str "\n")))))) (mRaise (mMk "BadLine" ["row", "reason"] (vCons (mFz (mOp pAdd (oCons (oE (mStr1 pCount (mN 0) (oE (mC (.str "\n"))))) (oCons (oE (mC (.int 1))) oNil)))) (vCons (mC (.str "end")) (vNil))))) (mNx))
  (mRet (mStr1 pSplit (mOp pSlHi (oCons (oN 0) (oCons (oE (mOp pNeg (oCons (oE (mC (.int 1))) oNil))) oNil))) (oE (mC (.str "\n"))))))
noncomputable def C_text_lines : List PV → CR := runB 1 1 [0] m_text_lines
theorem fb_text_lines (T : Tx P w K mg base aBadLine aBadThing aRateError) : FB P w K mg base 3 "text_lines" 1 C_text_lines := by
  obtain ⟨f, fd, F, g, b⟩ := T.f_text_lines
  exact fb_of (N := ["text"]) (ps := ["text"]) (pn := [0]) (m := m_text_lines) (k := 2) F sc_text_lines g b fun cdv A outer s H E hr => (sss_cons (ss_if (st_bool (sw_or (st_not (st_val (se_isi kit_str (by rfl) T.b_isinstance (by rfl) T.b_str bt_str (so_N 0 (pv 0))))) (sw_or1 (st_cmp op_gt (vo_cmp pGt) (so_E (se_blt call_len vo_len (by rfl) T.b_len bt_len (sa_cons (so_N 0 (pv 0)) sa_nil))) (so_E (se_Gint (by rfl) T.c_MOST_TEXT)) (nomark _))))) (sss_one (ss_raise rfl bx_tk (sx_mk T.x_BadThing (hr.mono (by omega)) (by rfl) (sv_cons se_str sv_nil) (by decide)))) sss_nil)
  (sss_cons (ss_if (st_not (st_val (se_ends (se_N 0 (pv 0)) (so_E se_str)))) (sss_one (ss_raise rfl bx_tk (sx_mk T.x_BadLine (hr.mono (by omega)) (by rfl) (sv_cons (se_fz (se_op2 op_addAll vo_add (so_E (se_count (se_N 0 (pv 0)) (so_E se_str))) (so_E se_int))) (sv_cons se_str sv_nil)) (by decide)))) sss_nil)
  (sss_one (ss_ret (se_split (se_slHi (so_N 0 (pv 0)) (so_E (se_neg (so_E se_int)))) (so_E se_str))))))

/-! ### key_values -/
abbrev s_key_values : Stmt := tS 29
theorem sc_key_values : FnScope ["line", "word", "words"] ["line"] (defScope s_key_values) := ⟨rfl, rfl, rfl, by decide +kernel, rfl, by decide +kernel, by decide +kernel⟩
noncomputable def m_key_values : MS := mSeq (mAsg (mStr1 pSplit (mN 0) (oE (mC (.str " ")))) (t1 2))
  (mSeq (mIf (mNot (mT (mOp pAll (oCons (oE (mComp (oCons (oN 2) oNil) itSeq (t1 1) (mYes) (mOp (pCmp pGt) (oCons (oE (mOp pLen (oCons (oN 1) (oNil)))) (oCons (oE (mC (.int 0))) oNil))) [1])) (oNil))))) (mRet (mC .non)) (mNx))
  (mRet (mOp pTuple (oCons (oN 2) (oNil)))))
noncomputable def C_key_values : List PV → CR := runB 3 1 [0] m_key_values
theorem fb_key_values (T : Tx P w K mg base aBadLine aBadThing aRateError) : FB P w K mg base 1 "key_values" 1 C_key_values := by
  obtain ⟨f, fd, F, g, b⟩ := T.f_key_values
  exact fb_of (N := ["line", "word", "words"]) (ps := ["line"]) (pn := [0]) (m := m_key_values) (k := 0) F sc_key_values g b fun cdv A outer s H E hr => (sss_cons (ss_set 2 (se_split (se_N 0 (pv 0)) (so_E se_str)) sc_key_values.nd rfl (Or.inl rfl) (by decide) (by rfl) (.inl rfl))
  (sss_cons (ss_if (st_not (st_val (se_blt (cr_all rfl) vo_all (by rfl) T.b_all bt_all (sa_cons (so_E (se_comp rfl sc_key_values.nd (si_seq (so_N 2 (pv 2))) vi_seq (own := [("word", 1)]) (blkOk_by (N := ["line", "word", "words"]) (sc := defScope s_key_values) (by decide +kernel)) (tgb_name 1 (fun _ _ _ _ _ => (pg_name (i := 1) sc_key_values.nd rfl (Or.inl rfl)))) (by decide) (fun _ _ _ _ _ => sif_nil) (fun _ _ _ _ _ => (se_cmp op_gt (vo_cmp pGt) (so_E (se_blt call_len vo_len (by rfl) T.b_len bt_len (sa_cons (so_N 1 (pv 1)) sa_nil))) (so_E se_int) (nomark _))))) sa_nil)))) (sss_one (ss_ret se_non)) sss_nil)
  (sss_one (ss_ret (se_bty call_tuple_of vo_tuple (by rfl) T.b_tuple bt_tuple (sa_cons (so_N 2 (pv 2)) sa_nil))))))

/-! ### place_behind -/
abbrev s_place_behind : Stmt := tS 37
theorem sc_place_behind : FnScope ["words", "word", "least", "place"] ["words", "word", "least"] (defScope s_place_behind) := ⟨rfl, rfl, rfl, by decide +kernel, rfl, by decide +kernel, by decide +kernel⟩
noncomputable def m_place_behind : MS := mSeq (mFor [0, 1, 2] (oCons (oN 2) (oCons (oE (mOp pLen (oCons (oN 0) (oNil)))) oNil)) itRng2 (t1 3) (mIf (mT (mOp (pEq false) (oCons (oE (mOp pIx (oCons (oN 0) (oCons (oN 3) oNil)))) (oCons (oN 1) oNil)))) (mRet (mN 3)) (mNx)))
  (mRet (mC .non))
noncomputable def C_place_behind : List PV → CR := runB 4 3 [0, 1, 2] m_place_behind
theorem fb_place_behind (T : Tx P w K mg base aBadLine aBadThing aRateError) : FB P w K mg base 1 "place_behind" 3 C_place_behind := by
  obtain ⟨f, fd, F, g, b⟩ := T.f_place_behind
  exact fb_of (N := ["words", "word", "least", "place"]) (ps := ["words", "word", "least"]) (pn := [0, 1, 2]) (m := m_place_behind) (k := 0) F sc_place_behind g b fun cdv A outer s H E hr => (sss_cons (ss_for bx_po rfl (si_rng2 (so_N 2 (pv 2)) (so_E (se_blt call_len vo_len (by rfl) T.b_len bt_len (sa_cons (so_N 0 (pv 0)) sa_nil))) (by rfl) T.b_range (by rfl) (by rfl) (by rfl) (by rfl)) vi_rng2 (tg_name 3 (pg_name (i := 3) sc_place_behind.nd rfl (Or.inl rfl))) (by decide) (by decide) (sss_one (ss_if (st_cmp (op_eqD (hu64 hr)) vo_eq (so_E (se_ix ix_seq vo_ix (so_N 0 (pv 0)) (so_N 3 (pv 3)) (by intro _ _; rfl))) (so_N 1 (pv 1)) (nomark _)) (sss_one (ss_ret (se_N 3 (pv 3)))) sss_nil)))
  (sss_one (ss_ret se_non)))

/-! ### number_of -/
abbrev s_number_of : Stmt := tS 30
theorem sc_number_of : FnScope ["word", "sign"] ["word"] (defScope s_number_of) := ⟨rfl, rfl, rfl, by decide +kernel, rfl, by decide +kernel, by decide +kernel⟩
noncomputable def m_number_of : MS := mSeq (mIf (mOr (mNot (mT (mChain pLe pLe (oE (mC (.int 1))) (oE (mOp pLen (oCons (oN 0) (oNil)))) (oE (mC (.int 4)))))) (mNot (mT (mOp pAll (oCons (oE (mComp (oCons (oN 0) oNil) itSeq (t1 1) (mYes) (mOp (pIn false) (oCons (oN 1) (oCons (oE (mC (.str "0123456789"))) oNil))) [1])) (oNil)))))) (mRet (mC .non)) (mNx))
  (mSeq (mIf (mAnd (mT (mOp (pCmp pGt) (oCons (oE (mOp pLen (oCons (oN 0) (oNil)))) (oCons (oE (mC (.int 1))) oNil)))) (mT (mOp (pEq false) (oCons (oE (mOp pIx (oCons (oN 0) (oCons (oE (mC (.int 0))) oNil)))) (oCons (oE (mC (.str "0"))) oNil))))) (mRet (mC .non)) (mNx))
  (mRet (mOp pInt1 (oCons (oN 0) (oNil)))))
noncomputable def C_number_of : List PV → CR := runB 2 1 [0] m_number_of
theorem fb_number_of (T : Tx P w K mg base aBadLine aBadThing aRateError) : FB P w K mg base 1 "number_of" 1 C_number_of := by
  obtain ⟨f, fd, F, g, b⟩ := T.f_number_of
  exact fb_of (N := ["word", "sign"]) (ps := ["word"]) (pn := [0]) (m := m_number_of) (k := 0) F sc_number_of g b fun cdv A outer s H E hr => (sss_cons (ss_if (st_bool (sw_or (st_not (st_chain (p := pLe) (p' := pLe) op_le op_le (so_E se_int) (so_E (se_blt call_len vo_len (by rfl) T.b_len bt_len (sa_cons (so_N 0 (pv 0)) sa_nil))) (so_E se_int))) (sw_or1 (st_not (st_val (se_blt (cr_all rfl) vo_all (by rfl) T.b_all bt_all (sa_cons (so_E (se_comp rfl sc_number_of.nd (si_seq (so_N 0 (pv 0))) vi_seq (own := [("sign", 1)]) (blkOk_by (N := ["word", "sign"]) (sc := defScope s_number_of) (by decide +kernel)) (tgb_name 1 (fun _ _ _ _ _ => (pg_name (i := 1) sc_number_of.nd rfl (Or.inl rfl)))) (by decide) (fun _ _ _ _ _ => sif_nil) (fun _ _ _ _ _ => (se_cmp (op_inAll (hu65 hr)) vo_in (so_N 1 (pv 1)) (so_E (se_Gstr (by rfl) T.c_FIGURES)) (by rfl))))) sa_nil))))))) (sss_one (ss_ret se_non)) sss_nil)
  (sss_cons (ss_if (st_bool (sw_and (st_cmp op_gt (vo_cmp pGt) (so_E (se_blt call_len vo_len (by rfl) T.b_len bt_len (sa_cons (so_N 0 (pv 0)) sa_nil))) (so_E se_int) (nomark _)) (sw_and1 (st_cmp (op_eqD (hu64 hr)) vo_eq (so_E (se_ix ix_seq vo_ix (so_N 0 (pv 0)) (so_E se_int) (by intro _ _; rfl))) (so_E se_str) (nomark _))))) (sss_one (ss_ret se_non)) sss_nil)
  (sss_one (ss_ret (se_bty (CallR.or call_int1 call_int_str) vo_int1 (by rfl) T.b_int bt_int (sa_cons (so_N 0 (pv 0)) sa_nil))))))

/-! ### numbers_of -/
abbrev s_numbers_of : Stmt := tS 31
theorem sc_numbers_of : FnScope ["words", "word", "number", "found"] ["words"] (defScope s_numbers_of) := ⟨rfl, rfl, rfl, by decide +kernel, rfl, by decide +kernel, by decide +kernel⟩
noncomputable def m_numbers_of : MS := mSeq (mAsg (mComp (oCons (oN 0) oNil) itSeq (t1 1) (mYes) (mFz (mCallN 1 C_number_of (oCons (oN 1) (oNil)))) [1]) (t1 3))
  (mSeq (mIf (mNot (mT (mOp pAll (oCons (oE (mComp (oCons (oN 3) oNil) itSeq (t1 2) (mYes) (mOp (pIsN true) (oCons (oN 2) (oCons (oE (mC .non)) oNil))) [2])) (oNil))))) (mRet (mC .non)) (mNx))
  (mRet (mOp pTuple (oCons (oN 3) (oNil)))))
noncomputable def C_numbers_of : List PV → CR := runB 4 1 [0] m_numbers_of
theorem fb_numbers_of (T : Tx P w K mg base aBadLine aBadThing aRateError) : FB P w K mg base 2 "numbers_of" 1 C_numbers_of := by
  obtain ⟨f, fd, F, g, b⟩ := T.f_numbers_of
  exact fb_of (N := ["words", "word", "number", "found"]) (ps := ["words"]) (pn := [0]) (m := m_numbers_of) (k := 1) F sc_numbers_of g b fun cdv A outer s H E hr => (sss_cons (ss_setLc 3 rfl sc_numbers_of.nd rfl rfl (by decide) (sw_true rfl rfl rfl (by decide +kernel)) (si_seq (so_N 0 (pv 0))) vi_seq (own := [("word", 1)]) (blkOk_by (N := ["words", "word", "number", "found"]) (sc := defScope s_numbers_of) (by decide +kernel)) (tgb_name 1 (fun _ _ _ _ _ => (pg_name (i := 1) sc_numbers_of.nd rfl (Or.inl rfl)))) (by decide) (fun _ _ _ _ _ => sif_nil) (fun _ _ _ _ _ => (se_fz (se_call takes0 (fb_number_of T) (hr.mono (by omega)) (by rfl) (sa_cons (so_N 1 (pv 1)) sa_nil)))))
  (sss_cons (ss_if (st_not (st_val (se_blt (cr_all rfl) vo_all (by rfl) T.b_all bt_all (sa_cons (so_E (se_comp rfl sc_numbers_of.nd (si_seq (so_N 3 (pv 3))) vi_seq (own := [("number", 2)]) (blkOk_by (N := ["words", "word", "number", "found"]) (sc := defScope s_numbers_of) (by decide +kernel)) (tgb_name 2 (fun _ _ _ _ _ => (pg_name (i := 2) sc_numbers_of.nd rfl (Or.inl rfl)))) (by decide) (fun _ _ _ _ _ => sif_nil) (fun _ _ _ _ _ => (se_cmp op_notN vo_notN (so_N 2 (pv 2)) (so_E se_non) (nomark _))))) sa_nil)))) (sss_one (ss_ret se_non)) sss_nil)
  (sss_one (ss_ret (se_bty call_tuple_of vo_tuple (by rfl) T.b_tuple bt_tuple (sa_cons (so_N 3 (pv 3)) sa_nil))))))

/-! ### is_name -/
abbrev s_is_name : Stmt := tS 17
theorem sc_is_name : FnScope ["thing", "sign"] ["thing"] (defScope s_is_name) := ⟨rfl, rfl, rfl, by decide +kernel, rfl, by decide +kernel, by decide +kernel⟩
noncomputable def m_is_name : MS := mSeq (mIf (mOr (mNot (mT (mOp (pIsi "str") (oCons (oN 0) oNil)))) (mNot (mT (mChain pLe pLe (oE (mC (.int 1))) (oE (mOp pLen (oCons (oN 0) (oNil)))) (oE (mC (.int 16))))))) (mRet (mC (.bl false))) (mNx))
  (mRet (mAndV (mOp (pIn false) (oCons (oE (mOp pIx (oCons (oN 0) (oCons (oE (mC (.int 0))) oNil)))) (oCons (oE (mC (.str "abcdefghijklmnopqrstuvwxyz"))) oNil))) (mOp pAll (oCons (oE (mComp (oCons (oN 0) oNil) itSeq (t1 1) (mYes) (mOp (pIn false) (oCons (oN 1) (oCons (oE (mC (.str "abcdefghijklmnopqrstuvwxyz0123456789_."))) oNil))) [1])) (oNil)))))
noncomputable def C_is_name : List PV → CR := runB 2 1 [0] m_is_name
theorem fb_is_name (T : Tx P w K mg base aBadLine aBadThing aRateError) : FB P w K mg base 1 "is_name" 1 C_is_name := by
  obtain ⟨f, fd, F, g, b⟩ := T.f_is_name
  exact fb_of (N := ["thing", "sign"]) (ps := ["thing"]) (pn := [0]) (m := m_is_name) (k := 0) F sc_is_name g b fun cdv A outer s H E hr => (sss_cons (ss_if (st_bool (sw_or (st_not (st_val (se_isi kit_str (by rfl) T.b_isinstance (by rfl) T.b_str bt_str (so_N 0 (pv 0))))) (sw_or1 (st_not (st_chain (p := pLe) (p' := pLe) op_le op_le (so_E se_int) (so_E (se_blt call_len vo_len (by rfl) T.b_len bt_len (sa_cons (so_N 0 (pv 0)) sa_nil))) (so_E (se_Gint (by rfl) T.c_MOST_NAME))))))) (sss_one (ss_ret se_bl)) sss_nil)
  (sss_one (ss_ret (se_and (se_cmp (op_inAll (hu65 hr)) vo_in (so_E (se_ix ix_seq vo_ix (so_N 0 (pv 0)) (so_E se_int) (by intro _ _; rfl))) (so_E (se_Gstr (by rfl) T.c_LETTERS)) (by rfl)) (se_one (se_blt (cr_all rfl) vo_all (by rfl) T.b_all bt_all (sa_cons (so_E (se_comp rfl sc_is_name.nd (si_seq (so_N 0 (pv 0))) vi_seq (own := [("sign", 1)]) (blkOk_by (N := ["thing", "sign"]) (sc := defScope s_is_name) (by decide +kernel)) (tgb_name 1 (fun _ _ _ _ _ => (pg_name (i := 1) sc_is_name.nd rfl (Or.inl rfl)))) (by decide) (fun _ _ _ _ _ => sif_nil) (fun _ _ _ _ _ => (se_cmp (op_inAll (hu65 hr)) vo_in (so_N 1 (pv 1)) (so_E (se_Gstr (by rfl) T.c_SIGNS)) (by rfl))))) sa_nil)))))))

/-! ### whole -/
abbrev s_whole : Stmt := tS 15
theorem sc_whole : FnScope ["thing", "low", "high"] ["thing", "low", "high"] (defScope s_whole) := ⟨rfl, rfl, rfl, by decide +kernel, rfl, by decide +kernel, by decide +kernel⟩
noncomputable def m_whole : MS := mRet (mAndV (mOp (pIsi "int") (oCons (oN 0) oNil)) (mAndV (mNotV (mOp (pIsi "bool") (oCons (oN 0) oNil))) (mChain pLe pLe (oN 1) (oN 0) (oN 2))))
noncomputable def C_whole : List PV → CR := runB 3 3 [0, 1, 2] m_whole
theorem fb_whole (T : Tx P w K mg base aBadLine aBadThing aRateError) : FB P w K mg base 1 "whole" 3 C_whole := by
  obtain ⟨f, fd, F, g, b⟩ := T.f_whole
  exact fb_of (N := ["thing", "low", "high"]) (ps := ["thing", "low", "high"]) (pn := [0, 1, 2]) (m := m_whole) (k := 0) F sc_whole g b fun cdv A outer s H E hr => (sss_one (ss_ret (se_and (se_isi kit_int (by rfl) T.b_isinstance (by rfl) T.b_int bt_int (so_N 0 (pv 0))) (se_and (se_not (se_isi kit_bool (by rfl) T.b_isinstance (by rfl) T.b_bool bt_bool (so_N 0 (pv 0)))) (se_one (se_chain (p := pLe) (p' := pLe) op_le op_le (so_N 1 (pv 1)) (so_N 0 (pv 0)) (so_N 2 (pv 2))))))))

/-! ### is_numbers -/
abbrev s_is_numbers : Stmt := tS 16
theorem sc_is_numbers : FnScope ["thing", "low", "high", "part"] ["thing", "low", "high"] (defScope s_is_numbers) := ⟨rfl, rfl, rfl, by decide +kernel, rfl, by decide +kernel, by decide +kernel⟩
noncomputable def m_is_numbers : MS := mSeq (mIf (mNot (mT (mOp (pIsi "tuple") (oCons (oN 0) oNil)))) (mRet (mC (.bl false))) (mNx))
  (mRet (mOp pAll (oCons (oE (mComp (oCons (oN 0) oNil) itSeq (t1 3) (mYes) (mFz (mCallN 3 C_whole (oCons (oN 3) (oCons (oN 1) (oCons (oN 2) (oNil)))))) [3])) (oNil))))
noncomputable def C_is_numbers : List PV → CR := runB 4 3 [0, 1, 2] m_is_numbers
theorem fb_is_numbers (T : Tx P w K mg base aBadLine aBadThing aRateError) : FB P w K mg base 2 "is_numbers" 3 C_is_numbers := by
  obtain ⟨f, fd, F, g, b⟩ := T.f_is_numbers
  exact fb_of (N := ["thing", "low", "high", "part"]) (ps := ["thing", "low", "high"]) (pn := [0, 1, 2]) (m := m_is_numbers) (k := 1) F sc_is_numbers g b fun cdv A outer s H E hr => (sss_cons (ss_if (st_not (st_val (se_isi kit_tuple (by rfl) T.b_isinstance (by rfl) T.b_tuple bt_tuple (so_N 0 (pv 0))))) (sss_one (ss_ret se_bl)) sss_nil)
  (sss_one (ss_ret (se_blt (cr_all rfl) vo_all (by rfl) T.b_all bt_all (sa_cons (so_E (se_comp rfl sc_is_numbers.nd (si_seq (so_N 0 (pv 0))) vi_seq (own := [("part", 3)]) (blkOk_by (N := ["thing", "low", "high", "part"]) (sc := defScope s_is_numbers) (by decide +kernel)) (tgb_name 3 (fun _ _ _ _ _ => (pg_name (i := 3) sc_is_numbers.nd rfl (Or.inl rfl)))) (by decide) (fun _ _ _ _ _ => sif_nil) (fun _ _ _ _ _ => (se_fz (se_call takes0 (fb_whole T) (hr.mono (by omega)) (by rfl) (sa_cons (so_N 3 (pv 3)) (sa_cons (so_N 1 (pv 1)) (sa_cons (so_N 2 (pv 2)) sa_nil)))))))) sa_nil)))))

/-! ### is_times -/
abbrev s_is_times : Stmt := tS 18
theorem sc_is_times : FnScope ["thing"] ["thing"] (defScope s_is_times) := ⟨rfl, rfl, rfl, by decide +kernel, rfl, by decide +kernel, by decide +kernel⟩
noncomputable def m_is_times : MS := mRet (mAndV (mCallN 3 C_is_numbers (oCons (oN 0) (oCons (oE (mC (.int 0))) (oCons (oE (mC (.int 60))) (oNil))))) (mChain pLe pLe (oE (mC (.int 1))) (oE (mOp pLen (oCons (oN 0) (oNil)))) (oE (mC (.int 6)))))
noncomputable def C_is_times : List PV → CR := runB 1 1 [0] m_is_times
theorem fb_is_times (T : Tx P w K mg base aBadLine aBadThing aRateError) : FB P w K mg base 3 "is_times" 1 C_is_times := by
  obtain ⟨f, fd, F, g, b⟩ := T.f_is_times
  exact fb_of (N := ["thing"]) (ps := ["thing"]) (pn := [0]) (m := m_is_times) (k := 2) F sc_is_times g b fun cdv A outer s H E hr => (sss_one (ss_ret (se_and (se_call bx_tk (fb_is_numbers T) (hr.mono (by omega)) (by rfl) (sa_cons (so_N 0 (pv 0)) (sa_cons (so_E se_int) (sa_cons (so_E (se_Gint (by rfl) T.c_MOST_TIME)) sa_nil)))) (se_one (se_chain (p := pLe) (p' := pLe) op_le op_le (so_E se_int) (so_E (se_blt call_len vo_len (by rfl) T.b_len bt_len (sa_cons (so_N 0 (pv 0)) sa_nil))) (so_E (se_Gint (by rfl) T.c_MOST_PHASES)))))))

/-! ### is_deed -/
abbrev s_is_deed : Stmt := tS 19
theorem sc_is_deed : FnScope ["thing"] ["thing"] (defScope s_is_deed) := ⟨rfl, rfl, rfl, by decide +kernel, rfl, by decide +kernel, by decide +kernel⟩
noncomputable def m_is_deed : MS := mRet (mAndV (mCallN 3 C_is_numbers (oCons (oN 0) (oCons (oE (mC (.int 0))) (oCons (oE (mOp pSub (oCons (oE (mC (.int 9973))) (oCons (oE (mC (.int 1))) oNil)))) (oNil))))) (mOp (pEq false) (oCons (oE (mOp pLen (oCons (oN 0) (oNil)))) (oCons (oE (mC (.int 2))) oNil))))
noncomputable def C_is_deed : List PV → CR := runB 1 1 [0] m_is_deed
theorem fb_is_deed (T : Tx P w K mg base aBadLine aBadThing aRateError) : FB P w K mg base 3 "is_deed" 1 C_is_deed := by
  obtain ⟨f, fd, F, g, b⟩ := T.f_is_deed
  exact fb_of (N := ["thing"]) (ps := ["thing"]) (pn := [0]) (m := m_is_deed) (k := 2) F sc_is_deed g b fun cdv A outer s H E hr => (sss_one (ss_ret (se_and (se_call bx_tk (fb_is_numbers T) (hr.mono (by omega)) (by rfl) (sa_cons (so_N 0 (pv 0)) (sa_cons (so_E se_int) (sa_cons (so_E (se_op2 op_sub vo_sub (so_E (se_Gint (by rfl) T.c_MODULUS)) (so_E se_int))) sa_nil)))) (se_one (se_cmp (op_eqD (hu64 hr)) vo_eq (so_E (se_blt call_len vo_len (by rfl) T.b_len bt_len (sa_cons (so_N 0 (pv 0)) sa_nil))) (so_E se_int) (nomark _))))))

/-! ### is_block -/
abbrev s_is_block : Stmt := tS 20
theorem sc_is_block : FnScope ["thing"] ["thing"] (defScope s_is_block) := ⟨rfl, rfl, rfl, by decide +kernel, rfl, by decide +kernel, by decide +kernel⟩
noncomputable def m_is_block : MS := mSeq (mIf (mOr (mNot (mT (mOp (pIsi "tuple") (oCons (oN 0) oNil)))) (mT (mOp (pEq true) (oCons (oE (mOp pLen (oCons (oN 0) (oNil)))) (oCons (oE (mC (.int 3))) oNil))))) (mRet (mC (.bl false))) (mNx))
  (mRet (mAndV (mCallN 1 C_is_name (oCons (oE (mOp pIx (oCons (oN 0) (oCons (oE (mC (.int 0))) oNil)))) (oNil))) (mAndV (mCallN 1 C_is_times (oCons (oE (mOp pIx (oCons (oN 0) (oCons (oE (mC (.int 1))) oNil)))) (oNil))) (mCallN 1 C_is_deed (oCons (oE (mOp pIx (oCons (oN 0) (oCons (oE (mC (.int 2))) oNil)))) (oNil))))))
noncomputable def C_is_block : List PV → CR := runB 1 1 [0] m_is_block
theorem fb_is_block (T : Tx P w K mg base aBadLine aBadThing aRateError) : FB P w K mg base 4 "is_block" 1 C_is_block := by
  obtain ⟨f, fd, F, g, b⟩ := T.f_is_block
  exact fb_of (N := ["thing"]) (ps := ["thing"]) (pn := [0]) (m := m_is_block) (k := 3) F sc_is_block g b fun cdv A outer s H E hr => (sss_cons (ss_if (st_bool (sw_or (st_not (st_val (se_isi kit_tuple (by rfl) T.b_isinstance (by rfl) T.b_tuple bt_tuple (so_N 0 (pv 0))))) (sw_or1 (st_cmp (op_neD (hu64 hr)) vo_ne (so_E (se_blt call_len vo_len (by rfl) T.b_len bt_len (sa_cons (so_N 0 (pv 0)) sa_nil))) (so_E se_int) (nomark _))))) (sss_one (ss_ret se_bl)) sss_nil)
  (sss_one (ss_ret (se_and (se_call bx_tk (fb_is_name T) (hr.mono (by omega)) (by rfl) (sa_cons (so_E (se_ix ix_seq vo_ix (so_N 0 (pv 0)) (so_E se_int) (by intro _ _; rfl))) sa_nil)) (se_and (se_call bx_tk (fb_is_times T) (hr.mono (by omega)) (by rfl) (sa_cons (so_E (se_ix ix_seq vo_ix (so_N 0 (pv 0)) (so_E se_int) (by intro _ _; rfl))) sa_nil)) (se_one (se_call bx_tk (fb_is_deed T) (hr.mono (by omega)) (by rfl) (sa_cons (so_E (se_ix ix_seq vo_ix (so_N 0 (pv 0)) (so_E se_int) (by intro _ _; rfl))) sa_nil))))))))

/-! ### read_block -/
abbrev s_read_block : Stmt := tS 38
theorem sc_read_block : FnScope ["words", "names", "row", "end", "times", "deed", "block"] ["words", "names", "row"] (defScope s_read_block) := ⟨rfl, rfl, rfl, by decide +kernel, rfl, by decide +kernel, by decide +kernel⟩
noncomputable def m_read_block : MS := mSeq (mAsg (mCallN 3 C_place_behind (oCons (oN 0) (oCons (oE (mC (.str "deed"))) (oCons (oE (mC (.int 3))) (oNil))))) (t1 3))
  (mSeq (mIf (mOr (mT (mOp (pCmp pLt) (oCons (oE (mOp pLen (oCons (oN 0) (oNil)))) (oCons (oE (mC (.int 3))) oNil)))) (mOr (mT (mOp (pEq true) (oCons (oE (mOp pIx (oCons (oN 0) (oCons (oE (mC (.int 2))) oNil)))) (oCons (oE (mC (.str "times"))) oNil)))) (mT (mOp (pIsN false) (oCons (oN 3) (oCons (oE (mC .non)) oNil)))))) (mRaise (mMk "BadLine" ["row", "reason"] (vCons (mFzN 2) (vCons (mC (.str "form")) (vNil))))) (mNx))
  (mSeq (mAsg (mCallN 1 C_numbers_of (oCons (oE (mSl3 (oN 0) (oE (mC (.int 3))) (oN 3))) (oNil))) (t1 4))
  (mSeq (mAsg (mCallN 1 C_numbers_of (oCons (oE (mOp pSlLo (oCons (oN 0) (oCons (oE (mOp pAdd (oCons (oN 3) (oCons (oE (mC (.int 1))) oNil)))) oNil)))) (oNil))) (t1 5))
  (mSeq (mIf (mOr (mT (mOp (pIsN false) (oCons (oN 4) (oCons (oE (mC .non)) oNil)))) (mT (mOp (pIsN false) (oCons (oN 5) (oCons (oE (mC .non)) oNil))))) (mRaise (mMk "BadLine" ["row", "reason"] (vCons (mFzN 2) (vCons (mC (.str "number")) (vNil))))) (mNx))
  (mSeq (mIf (mOr (mNot (mT (mCallN 1 C_is_name (oCons (oE (mOp pIx (oCons (oN 0) (oCons (oE (mC (.int 1))) oNil)))) (oNil))))) (mT (mOp (pIn false) (oCons (oE (mOp pIx (oCons (oN 0) (oCons (oE (mC (.int 1))) oNil)))) (oCons (oN 1) oNil))))) (mRaise (mMk "BadLine" ["row", "reason"] (vCons (mFzN 2) (vCons (mC (.str "name")) (vNil))))) (mNx))
  (mSeq (mAsg (mTup (vCons (mFz (mOp pIx (oCons (oN 0) (oCons (oE (mC (.int 1))) oNil)))) (vCons (mFzN 4) (vCons (mFzN 5) (vNil))))) (t1 6))
  (mSeq (mIf (mNot (mT (mCallN 1 C_is_block (oCons (oN 6) (oNil))))) (mRaise (mMk "BadLine" ["row", "reason"] (vCons (mFzN 2) (vCons (mC (.str "value")) (vNil))))) (mNx))
  (mSeq (mIf (mT (mOp (pCmp pGe) (oCons (oE (mOp pLen (oCons (oN 1) (oNil)))) (oCons (oE (mC (.int 60))) oNil)))) (mRaise (mMk "BadLine" ["row", "reason"] (vCons (mFzN 2) (vCons (mC (.str "many")) (vNil))))) (mNx))
  (mRet (mN 6))))))))))
noncomputable def C_read_block : List PV → CR := runB 7 3 [0, 1, 2] m_read_block
theorem fb_read_block (T : Tx P w K mg base aBadLine aBadThing aRateError) : FB P w K mg base 5 "read_block" 3 C_read_block := by
  obtain ⟨f, fd, F, g, b⟩ := T.f_read_block
  exact fb_of (N := ["words", "names", "row", "end", "times", "deed", "block"]) (ps := ["words", "names", "row"]) (pn := [0, 1, 2]) (m := m_read_block) (k := 4) F sc_read_block g b fun cdv A outer s H E hr => (sss_cons (ss_set 3 (se_call bx_tk (fb_place_behind T) (hr.mono (by omega)) (by rfl) (sa_cons (so_N 0 (pv 0)) (sa_cons (so_E se_str) (sa_cons (so_E se_int) sa_nil)))) sc_read_block.nd rfl (Or.inl rfl) (by decide) (by rfl) (.inl rfl))
  (sss_cons (ss_if (st_bool (sw_or (st_cmp op_lt (vo_cmp pLt) (so_E (se_blt call_len vo_len (by rfl) T.b_len bt_len (sa_cons (so_N 0 (pv 0)) sa_nil))) (so_E se_int) (nomark _)) (sw_or (st_cmp (op_neD (hu64 hr)) vo_ne (so_E (se_ix ix_seq vo_ix (so_N 0 (pv 0)) (so_E se_int) (by intro _ _; rfl))) (so_E se_str) (nomark _)) (sw_or1 (st_cmp op_isN vo_isN (so_N 3 (pv 3)) (so_E se_non) (nomark _)))))) (sss_one (ss_raise rfl bx_tk (sx_mk T.x_BadLine (hr.mono (by omega)) (by rfl) (sv_cons (se_FzN 2 (pv 2)) (sv_cons se_str sv_nil)) (by decide)))) sss_nil)
  (sss_cons (ss_set 4 (se_call bx_tk (fb_numbers_of T) (hr.mono (by omega)) (by rfl) (sa_cons (so_E (se_slBoth (so_N 0 (pv 0)) (so_E se_int) (so_N 3 (pv 3)))) sa_nil)) sc_read_block.nd rfl (Or.inl rfl) (by decide) (by rfl) (.inl rfl))
  (sss_cons (ss_set 5 (se_call bx_tk (fb_numbers_of T) (hr.mono (by omega)) (by rfl) (sa_cons (so_E (se_slLo (so_N 0 (pv 0)) (so_E (se_op2 op_addAll vo_add (so_N 3 (pv 3)) (so_E se_int))))) sa_nil)) sc_read_block.nd rfl (Or.inl rfl) (by decide) (by rfl) (.inl rfl))
  (sss_cons (ss_if (st_bool (sw_or (st_cmp op_isN vo_isN (so_N 4 (pv 4)) (so_E se_non) (nomark _)) (sw_or1 (st_cmp op_isN vo_isN (so_N 5 (pv 5)) (so_E se_non) (nomark _))))) (sss_one (ss_raise rfl bx_tk (sx_mk T.x_BadLine (hr.mono (by omega)) (by rfl) (sv_cons (se_FzN 2 (pv 2)) (sv_cons se_str sv_nil)) (by decide)))) sss_nil)
  (sss_cons (ss_if (st_bool (sw_or (st_not (st_val (se_call bx_tk (fb_is_name T) (hr.mono (by omega)) (by rfl) (sa_cons (so_E (se_ix ix_seq vo_ix (so_N 0 (pv 0)) (so_E se_int) (by intro _ _; rfl))) sa_nil)))) (sw_or1 (st_cmp (op_inAll (hu65 hr)) vo_in (so_E (se_ix ix_seq vo_ix (so_N 0 (pv 0)) (so_E se_int) (by intro _ _; rfl))) (so_N 1 (pv 1)) (by rfl))))) (sss_one (ss_raise rfl bx_tk (sx_mk T.x_BadLine (hr.mono (by omega)) (by rfl) (sv_cons (se_FzN 2 (pv 2)) (sv_cons se_str sv_nil)) (by decide)))) sss_nil)
  (sss_cons (ss_set 6 (se_tup (sv_cons (se_fz (se_ix ix_seq vo_ix (so_N 0 (pv 0)) (so_E se_int) (by intro _ _; rfl))) (sv_cons (se_FzN 4 (pv 4)) (sv_cons (se_FzN 5 (pv 5)) sv_nil)))) sc_read_block.nd rfl (Or.inl rfl) (by decide) (by rfl) (.inl rfl))
  (sss_cons (ss_if (st_not (st_val (se_call bx_tk (fb_is_block T) (hr.mono (by omega)) (by rfl) (sa_cons (so_N 6 (pv 6)) sa_nil)))) (sss_one (ss_raise rfl bx_tk (sx_mk T.x_BadLine (hr.mono (by omega)) (by rfl) (sv_cons (se_FzN 2 (pv 2)) (sv_cons se_str sv_nil)) (by decide)))) sss_nil)
  (sss_cons (ss_if (st_cmp op_ge (vo_cmp pGe) (so_E (se_blt call_len vo_len (by rfl) T.b_len bt_len (sa_cons (so_N 1 (pv 1)) sa_nil))) (so_E (se_Gint (by rfl) T.c_MOST_BLOCKS)) (nomark _)) (sss_one (ss_raise rfl bx_tk (sx_mk T.x_BadLine (hr.mono (by omega)) (by rfl) (sv_cons (se_FzN 2 (pv 2)) (sv_cons se_str sv_nil)) (by decide)))) sss_nil)
  (sss_one (ss_ret (se_N 6 (pv 6)))))))))))))

/-! ### queue_parts -/
abbrev s_queue_parts : Stmt := tS 39
theorem sc_queue_parts : FnScope ["words", "row", "middle", "end", "gives", "takes", "start"] ["words", "row"] (defScope s_queue_parts) := ⟨rfl, rfl, rfl, by decide +kernel, rfl, by decide +kernel, by decide +kernel⟩
noncomputable def m_queue_parts : MS := mSeq (mAsg (mCallN 3 C_place_behind (oCons (oN 0) (oCons (oE (mC (.str "target"))) (oCons (oE (mC (.int 2))) (oNil))))) (t1 2))
  (mSeq (mIf (mOr (mT (mOp (pCmp pLt) (oCons (oE (mOp pLen (oCons (oN 0) (oNil)))) (oCons (oE (mC (.int 2))) oNil)))) (mOr (mT (mOp (pEq true) (oCons (oE (mOp pIx (oCons (oN 0) (oCons (oE (mC (.int 1))) oNil)))) (oCons (oE (mC (.str "gives"))) oNil)))) (mT (mOp (pIsN false) (oCons (oN 2) (oCons (oE (mC .non)) oNil)))))) (mRaise (mMk "BadLine" ["row", "reason"] (vCons (mFzN 1) (vCons (mC (.str "form")) (vNil))))) (mNx))
  (mSeq (mIf (mOr (mT (mOp (pCmp pLt) (oCons (oE (mOp pLen (oCons (oN 0) (oNil)))) (oCons (oE (mOp pAdd (oCons (oN 2) (oCons (oE (mC (.int 3))) oNil)))) oNil)))) (mT (mOp (pEq true) (oCons (oE (mOp pIx (oCons (oN 0) (oCons (oE (mOp pAdd (oCons (oN 2) (oCons (oE (mC (.int 2))) oNil)))) oNil)))) (oCons (oE (mC (.str "takes"))) oNil))))) (mRaise (mMk "BadLine" ["row", "reason"] (vCons (mFzN 1) (vCons (mC (.str "form")) (vNil))))) (mNx))
  (mSeq (mAsg (mCallN 3 C_place_behind (oCons (oN 0) (oCons (oE (mC (.str "start"))) (oCons (oE (mOp pAdd (oCons (oN 2) (oCons (oE (mC (.int 3))) oNil)))) (oNil))))) (t1 3))
  (mSeq (mIf (mT (mOp (pIsN false) (oCons (oN 3) (oCons (oE (mC .non)) oNil)))) (mRaise (mMk "BadLine" ["row", "reason"] (vCons (mFzN 1) (vCons (mC (.str "form")) (vNil))))) (mNx))
  (mSeq (mAsg (mCallN 1 C_numbers_of (oCons (oE (mSl3 (oN 0) (oE (mC (.int 2))) (oN 2))) (oNil))) (t1 4))
  (mSeq (mAsg (mCallN 1 C_numbers_of (oCons (oE (mSl3 (oN 0) (oE (mOp pAdd (oCons (oN 2) (oCons (oE (mC (.int 3))) oNil)))) (oN 3))) (oNil))) (t1 5))
  (mSeq (mAsg (mCallN 1 C_numbers_of (oCons (oE (mOp pSlLo (oCons (oN 0) (oCons (oE (mOp pAdd (oCons (oN 3) (oCons (oE (mC (.int 1))) oNil)))) oNil)))) (oNil))) (t1 6))
  (mSeq (mIf (mOr (mT (mOp (pIsN false) (oCons (oN 4) (oCons (oE (mC .non)) oNil)))) (mOr (mT (mOp (pIsN false) (oCons (oN 5) (oCons (oE (mC .non)) oNil)))) (mT (mOp (pIsN false) (oCons (oN 6) (oCons (oE (mC .non)) oNil)))))) (mRaise (mMk "BadLine" ["row", "reason"] (vCons (mFzN 1) (vCons (mC (.str "number")) (vNil))))) (mNx))
  (mRet (mTup (vCons (mFz (mOp pIx (oCons (oN 0) (oCons (oE (mC (.int 0))) oNil)))) (vCons (mFzN 4) (vCons (mFz (mOp pIx (oCons (oN 0) (oCons (oE (mOp pAdd (oCons (oN 2) (oCons (oE (mC (.int 1))) oNil)))) oNil)))) (vCons (mFzN 5) (vCons (mFzN 6) (vNil))))))))))))))))
noncomputable def C_queue_parts : List PV → CR := runB 7 2 [0, 1] m_queue_parts
theorem fb_queue_parts (T : Tx P w K mg base aBadLine aBadThing aRateError) : FB P w K mg base 3 "queue_parts" 2 C_queue_parts := by
  obtain ⟨f, fd, F, g, b⟩ := T.f_queue_parts
  exact fb_of (N := ["words", "row", "middle", "end", "gives", "takes", "start"]) (ps := ["words", "row"]) (pn := [0, 1]) (m := m_queue_parts) (k := 2) F sc_queue_parts g b fun cdv A outer s H E hr => (sss_cons (ss_set 2 (se_call bx_tk (fb_place_behind T) (hr.mono (by omega)) (by rfl) (sa_cons (so_N 0 (pv 0)) (sa_cons (so_E se_str) (sa_cons (so_E se_int) sa_nil)))) sc_queue_parts.nd rfl (Or.inl rfl) (by decide) (by rfl) (.inl rfl))
  (sss_cons (ss_if (st_bool (sw_or (st_cmp op_lt (vo_cmp pLt) (so_E (se_blt call_len vo_len (by rfl) T.b_len bt_len (sa_cons (so_N 0 (pv 0)) sa_nil))) (so_E se_int) (nomark _)) (sw_or (st_cmp (op_neD (hu64 hr)) vo_ne (so_E (se_ix ix_seq vo_ix (so_N 0 (pv 0)) (so_E se_int) (by intro _ _; rfl))) (so_E se_str) (nomark _)) (sw_or1 (st_cmp op_isN vo_isN (so_N 2 (pv 2)) (so_E se_non) (nomark _)))))) (sss_one (ss_raise rfl bx_tk (sx_mk T.x_BadLine (hr.mono (by omega)) (by rfl) (sv_cons (se_FzN 1 (pv 1)) (sv_cons se_str sv_nil)) (by decide)))) sss_nil)
  (sss_cons (ss_if (st_bool (sw_or (st_cmp op_lt (vo_cmp pLt) (so_E (se_blt call_len vo_len (by rfl) T.b_len bt_len (sa_cons (so_N 0 (pv 0)) sa_nil))) (so_E (se_op2 op_addAll vo_add (so_N 2 (pv 2)) (so_E se_int))) (nomark _)) (sw_or1 (st_cmp (op_neD (hu64 hr)) vo_ne (so_E (se_ix ix_seq vo_ix (so_N 0 (pv 0)) (so_E (se_op2 op_addAll vo_add (so_N 2 (pv 2)) (so_E se_int))) (by intro _ _; rfl))) (so_E se_str) (nomark _))))) (sss_one (ss_raise rfl bx_tk (sx_mk T.x_BadLine (hr.mono (by omega)) (by rfl) (sv_cons (se_FzN 1 (pv 1)) (sv_cons se_str sv_nil)) (by decide)))) sss_nil)
  (sss_cons (ss_set 3 (se_call bx_tk (fb_place_behind T) (hr.mono (by omega)) (by rfl) (sa_cons (so_N 0 (pv 0)) (sa_cons (so_E se_str) (sa_cons (so_E (se_op2 op_addAll vo_add (so_N 2 (pv 2)) (so_E se_int))) sa_nil)))) sc_queue_parts.nd rfl (Or.inl rfl) (by decide) (by rfl) (.inl rfl))
  (sss_cons (ss_if (st_cmp op_isN vo_isN (so_N 3 (pv 3)) (so_E se_non) (nomark _)) (sss_one (ss_raise rfl bx_tk (sx_mk T.x_BadLine (hr.mono (by omega)) (by rfl) (sv_cons (se_FzN 1 (pv 1)) (sv_cons se_str sv_nil)) (by decide)))) sss_nil)
  (sss_cons (ss_set 4 (se_call bx_tk (fb_numbers_of T) (hr.mono (by omega)) (by rfl) (sa_cons (so_E (se_slBoth (so_N 0 (pv 0)) (so_E se_int) (so_N 2 (pv 2)))) sa_nil)) sc_queue_parts.nd rfl (Or.inl rfl) (by decide) (by rfl) (.inl rfl))
  (sss_cons (ss_set 5 (se_call bx_tk (fb_numbers_of T) (hr.mono (by omega)) (by rfl) (sa_cons (so_E (se_slBoth (so_N 0 (pv 0)) (so_E (se_op2 op_addAll vo_add (so_N 2 (pv 2)) (so_E se_int))) (so_N 3 (pv 3)))) sa_nil)) sc_queue_parts.nd rfl (Or.inl rfl) (by decide) (by rfl) (.inl rfl))
  (sss_cons (ss_set 6 (se_call bx_tk (fb_numbers_of T) (hr.mono (by omega)) (by rfl) (sa_cons (so_E (se_slLo (so_N 0 (pv 0)) (so_E (se_op2 op_addAll vo_add (so_N 3 (pv 3)) (so_E se_int))))) sa_nil)) sc_queue_parts.nd rfl (Or.inl rfl) (by decide) (by rfl) (.inl rfl))
  (sss_cons (ss_if (st_bool (sw_or (st_cmp op_isN vo_isN (so_N 4 (pv 4)) (so_E se_non) (nomark _)) (sw_or (st_cmp op_isN vo_isN (so_N 5 (pv 5)) (so_E se_non) (nomark _)) (sw_or1 (st_cmp op_isN vo_isN (so_N 6 (pv 6)) (so_E se_non) (nomark _)))))) (sss_one (ss_raise rfl bx_tk (sx_mk T.x_BadLine (hr.mono (by omega)) (by rfl) (sv_cons (se_FzN 1 (pv 1)) (sv_cons se_str sv_nil)) (by decide)))) sss_nil)
  (sss_one (ss_ret (se_tup (sv_cons (se_fz (se_ix ix_seq vo_ix (so_N 0 (pv 0)) (so_E se_int) (by intro _ _; rfl))) (sv_cons (se_FzN 4 (pv 4)) (sv_cons (se_fz (se_ix ix_seq vo_ix (so_N 0 (pv 0)) (so_E (se_op2 op_addAll vo_add (so_N 2 (pv 2)) (so_E se_int))) (by intro _ _; rfl))) (sv_cons (se_FzN 5 (pv 5)) (sv_cons (se_FzN 6 (pv 6)) sv_nil)))))))))))))))))

/-! ### number_in -/
abbrev s_number_in : Stmt := tS 40
theorem sc_number_in : FnScope ["names", "name", "row"] ["names", "name", "row"] (defScope s_number_in) := ⟨rfl, rfl, rfl, by decide +kernel, rfl, by decide +kernel, by decide +kernel⟩
noncomputable def m_number_in : MS := mSeq (mIf (mT (mOp (pIn true) (oCons (oN 1) (oCons (oN 0) oNil)))) (mRaise (mMk "BadLine" ["row", "reason"] (vCons (mFzN 2) (vCons (mC (.str "name")) (vNil))))) (mNx))
  (mRet (mLst1 pIndex (oN 0) (oN 1)))
noncomputable def C_number_in : List PV → CR := runB 3 3 [0, 1, 2] m_number_in
theorem fb_number_in (T : Tx P w K mg base aBadLine aBadThing aRateError) : FB P w K mg base 3 "number_in" 3 C_number_in := by
  obtain ⟨f, fd, F, g, b⟩ := T.f_number_in
  exact fb_of (N := ["names", "name", "row"]) (ps := ["names", "name", "row"]) (pn := [0, 1, 2]) (m := m_number_in) (k := 2) F sc_number_in g b fun cdv A outer s H E hr => (sss_cons (ss_if (st_cmp (op_notInAll (hu65 hr)) vo_notin (so_N 1 (pv 1)) (so_N 0 (pv 0)) (by rfl)) (sss_one (ss_raise rfl bx_tk (sx_mk T.x_BadLine (hr.mono (by omega)) (by rfl) (sv_cons (se_FzN 2 (pv 2)) (sv_cons se_str sv_nil)) (by decide)))) sss_nil)
  (sss_one (ss_ret (se_index (hu65 hr) (so_N 0 (pv 0)) (so_N 1 (pv 1))))))

/-! ### is_rates -/
abbrev s_is_rates : Stmt := tS 21
theorem sc_is_rates : FnScope ["thing", "size"] ["thing", "size"] (defScope s_is_rates) := ⟨rfl, rfl, rfl, by decide +kernel, rfl, by decide +kernel, by decide +kernel⟩
noncomputable def m_is_rates : MS := mSeq (mIf (mOr (mNot (mT (mCallN 3 C_is_numbers (oCons (oN 0) (oCons (oE (mC (.int 0))) (oCons (oE (mC (.int 12))) (oNil))))))) (mT (mOp (pEq true) (oCons (oE (mOp pLen (oCons (oN 0) (oNil)))) (oCons (oN 1) oNil))))) (mRet (mC (.bl false))) (mNx))
  (mRet (mOp (pCmp pGt) (oCons (oE (mOp pSum (oCons (oN 0) (oNil)))) (oCons (oE (mC (.int 0))) oNil))))
noncomputable def C_is_rates : List PV → CR := runB 2 2 [0, 1] m_is_rates
theorem fb_is_rates (T : Tx P w K mg base aBadLine aBadThing aRateError) : FB P w K mg base 3 "is_rates" 2 C_is_rates := by
  obtain ⟨f, fd, F, g, b⟩ := T.f_is_rates
  exact fb_of (N := ["thing", "size"]) (ps := ["thing", "size"]) (pn := [0, 1]) (m := m_is_rates) (k := 2) F sc_is_rates g b fun cdv A outer s H E hr => (sss_cons (ss_if (st_bool (sw_or (st_not (st_val (se_call bx_tk (fb_is_numbers T) (hr.mono (by omega)) (by rfl) (sa_cons (so_N 0 (pv 0)) (sa_cons (so_E se_int) (sa_cons (so_E (se_Gint (by rfl) T.c_MOST_RATE)) sa_nil)))))) (sw_or1 (st_cmp (op_neD (hu64 hr)) vo_ne (so_E (se_blt call_len vo_len (by rfl) T.b_len bt_len (sa_cons (so_N 0 (pv 0)) sa_nil))) (so_N 1 (pv 1)) (nomark _))))) (sss_one (ss_ret se_bl)) sss_nil)
  (sss_one (ss_ret (se_cmp op_gt (vo_cmp pGt) (so_E (se_blt (call_sum2 rfl) vo_sum (by rfl) T.b_sum bt_sum (sa_cons (so_N 0 (pv 0)) sa_nil))) (so_E se_int) (nomark _)))))

/-! ### is_start -/
abbrev s_is_start : Stmt := tS 22
theorem sc_is_start : FnScope ["thing"] ["thing"] (defScope s_is_start) := ⟨rfl, rfl, rfl, by decide +kernel, rfl, by decide +kernel, by decide +kernel⟩
noncomputable def m_is_start : MS := mRet (mAndV (mCallN 3 C_is_numbers (oCons (oN 0) (oCons (oE (mC (.int 0))) (oCons (oE (mOp pSub (oCons (oE (mC (.int 9973))) (oCons (oE (mC (.int 1))) oNil)))) (oNil))))) (mOp (pCmp pLe) (oCons (oE (mOp pLen (oCons (oN 0) (oNil)))) (oCons (oE (mC (.int 60))) oNil))))
noncomputable def C_is_start : List PV → CR := runB 1 1 [0] m_is_start
theorem fb_is_start (T : Tx P w K mg base aBadLine aBadThing aRateError) : FB P w K mg base 3 "is_start" 1 C_is_start := by
  obtain ⟨f, fd, F, g, b⟩ := T.f_is_start
  exact fb_of (N := ["thing"]) (ps := ["thing"]) (pn := [0]) (m := m_is_start) (k := 2) F sc_is_start g b fun cdv A outer s H E hr => (sss_one (ss_ret (se_and (se_call bx_tk (fb_is_numbers T) (hr.mono (by omega)) (by rfl) (sa_cons (so_N 0 (pv 0)) (sa_cons (so_E se_int) (sa_cons (so_E (se_op2 op_sub vo_sub (so_E (se_Gint (by rfl) T.c_MODULUS)) (so_E se_int))) sa_nil)))) (se_one (se_cmp op_le (vo_cmp pLe) (so_E (se_blt call_len vo_len (by rfl) T.b_len bt_len (sa_cons (so_N 0 (pv 0)) sa_nil))) (so_E (se_Gint (by rfl) T.c_MOST_START)) (nomark _))))))

/-! ### is_queue -/
abbrev s_is_queue : Stmt := tS 23
theorem sc_is_queue : FnScope ["thing", "blocks", "source", "gives", "target", "takes", "start", "last"] ["thing", "blocks"] (defScope s_is_queue) := ⟨rfl, rfl, rfl, by decide +kernel, rfl, by decide +kernel, by decide +kernel⟩
noncomputable def m_is_queue : MS := mSeq (mIf (mOr (mNot (mT (mOp (pIsi "tuple") (oCons (oN 0) oNil)))) (mT (mOp (pEq true) (oCons (oE (mOp pLen (oCons (oN 0) (oNil)))) (oCons (oE (mC (.int 5))) oNil))))) (mRet (mC (.bl false))) (mNx))
  (mSeq (mAsg (mN 0) (tN [2, 3, 4, 5, 6]))
  (mSeq (mAsg (mOp pSub (oCons (oE (mOp pLen (oCons (oN 1) (oNil)))) (oCons (oE (mC (.int 1))) oNil))) (t1 7))
  (mSeq (mIf (mOr (mNot (mT (mCallN 3 C_whole (oCons (oN 2) (oCons (oE (mC (.int 0))) (oCons (oN 7) (oNil))))))) (mNot (mT (mCallN 3 C_whole (oCons (oN 4) (oCons (oE (mC (.int 0))) (oCons (oN 7) (oNil)))))))) (mRet (mC (.bl false))) (mNx))
  (mSeq (mIf (mNot (mT (mCallN 2 C_is_rates (oCons (oN 3) (oCons (oE (mOp pLen (oCons (oE (mOp pIx (oCons (oE (mOp pIx (oCons (oN 1) (oCons (oN 2) oNil)))) (oCons (oE (mC (.int 1))) oNil)))) (oNil)))) (oNil)))))) (mRet (mC (.bl false))) (mNx))
  (mRet (mAndV (mCallN 2 C_is_rates (oCons (oN 5) (oCons (oE (mOp pLen (oCons (oE (mOp pIx (oCons (oE (mOp pIx (oCons (oN 1) (oCons (oN 4) oNil)))) (oCons (oE (mC (.int 1))) oNil)))) (oNil)))) (oNil)))) (mCallN 1 C_is_start (oCons (oN 6) (oNil)))))))))
noncomputable def C_is_queue : List PV → CR := runB 8 2 [0, 1] m_is_queue
theorem fb_is_queue (T : Tx P w K mg base aBadLine aBadThing aRateError) : FB P w K mg base 4 "is_queue" 2 C_is_queue := by
  obtain ⟨f, fd, F, g, b⟩ := T.f_is_queue
  exact fb_of (N := ["thing", "blocks", "source", "gives", "target", "takes", "start", "last"]) (ps := ["thing", "blocks"]) (pn := [0, 1]) (m := m_is_queue) (k := 3) F sc_is_queue g b fun cdv A outer s H E hr => (sss_cons (ss_if (st_bool (sw_or (st_not (st_val (se_isi kit_tuple (by rfl) T.b_isinstance (by rfl) T.b_tuple bt_tuple (so_N 0 (pv 0))))) (sw_or1 (st_cmp (op_neD (hu64 hr)) vo_ne (so_E (se_blt call_len vo_len (by rfl) T.b_len bt_len (sa_cons (so_N 0 (pv 0)) sa_nil))) (so_E se_int) (nomark _))))) (sss_one (ss_ret se_bl)) sss_nil)
  (sss_cons (ss_asg (se_N 0 (pv 0)) (tg_tup rfl (PNs.cons (pg_name (i := 2) sc_is_queue.nd rfl (Or.inl rfl)) (PNs.cons (pg_name (i := 3) sc_is_queue.nd rfl (Or.inl rfl)) (PNs.cons (pg_name (i := 4) sc_is_queue.nd rfl (Or.inl rfl)) (PNs.cons (pg_name (i := 5) sc_is_queue.nd rfl (Or.inl rfl)) (PNs.cons (pg_name (i := 6) sc_is_queue.nd rfl (Or.inl rfl)) PNs.nil rfl) rfl) rfl) rfl) rfl) rfl rfl) (by decide) (by rfl) (by rfl) (by rfl))
  (sss_cons (ss_set 7 (se_op2 op_sub vo_sub (so_E (se_blt call_len vo_len (by rfl) T.b_len bt_len (sa_cons (so_N 1 (pv 1)) sa_nil))) (so_E se_int)) sc_is_queue.nd rfl (Or.inl rfl) (by decide) (by rfl) (.inl rfl))
  (sss_cons (ss_if (st_bool (sw_or (st_not (st_val (se_call bx_tk (fb_whole T) (hr.mono (by omega)) (by rfl) (sa_cons (so_N 2 (pv 2)) (sa_cons (so_E se_int) (sa_cons (so_N 7 (pv 7)) sa_nil)))))) (sw_or1 (st_not (st_val (se_call bx_tk (fb_whole T) (hr.mono (by omega)) (by rfl) (sa_cons (so_N 4 (pv 4)) (sa_cons (so_E se_int) (sa_cons (so_N 7 (pv 7)) sa_nil))))))))) (sss_one (ss_ret se_bl)) sss_nil)
  (sss_cons (ss_if (st_not (st_val (se_call bx_tk (fb_is_rates T) (hr.mono (by omega)) (by rfl) (sa_cons (so_N 3 (pv 3)) (sa_cons (so_E (se_blt call_len vo_len (by rfl) T.b_len bt_len (sa_cons (so_E (se_ix ix_seq vo_ix (so_E (se_ix ix_seq vo_ix (so_N 1 (pv 1)) (so_N 2 (pv 2)) (by intro _ _; rfl))) (so_E se_int) (by intro _ _; rfl))) sa_nil))) sa_nil))))) (sss_one (ss_ret se_bl)) sss_nil)
  (sss_one (ss_ret (se_and (se_call bx_tk (fb_is_rates T) (hr.mono (by omega)) (by rfl) (sa_cons (so_N 5 (pv 5)) (sa_cons (so_E (se_blt call_len vo_len (by rfl) T.b_len bt_len (sa_cons (so_E (se_ix ix_seq vo_ix (so_E (se_ix ix_seq vo_ix (so_N 1 (pv 1)) (so_N 4 (pv 4)) (by intro _ _; rfl))) (so_E se_int) (by intro _ _; rfl))) sa_nil))) sa_nil))) (se_one (se_call bx_tk (fb_is_start T) (hr.mono (by omega)) (by rfl) (sa_cons (so_N 6 (pv 6)) sa_nil)))))))))))

/-! ### read_queue -/
abbrev s_read_queue : Stmt := tS 41
theorem sc_read_queue : FnScope ["words", "blocks", "many", "row", "block", "source", "gives", "target", "takes", "start", "names", "first", "second", "queue"] ["words", "blocks", "many", "row"] (defScope s_read_queue) := ⟨rfl, rfl, rfl, by decide +kernel, rfl, by decide +kernel, by decide +kernel⟩
noncomputable def m_read_queue : MS := mSeq (mIf (mT (mOp (pCmp pLt) (oCons (oE (mOp pLen (oCons (oN 0) (oNil)))) (oCons (oE (mC (.int 2))) oNil)))) (mRaise (mMk "BadLine" ["row", "reason"] (vCons (mFzN 3) (vCons (mC (.str "form")) (vNil))))) (mNx))
  (mSeq (mAsg (mCallN 2 C_queue_parts (oCons (oE (mOp pSlLo (oCons (oN 0) (oCons (oE (mC (.int 1))) oNil)))) (oCons (oN 3) (oNil)))) (tN [5, 6, 7, 8, 9]))
  (mSeq (mAsg (mComp (oCons (oN 1) oNil) itSeq (t1 4) (mYes) (mFz (mOp pIx (oCons (oN 4) (oCons (oE (mC (.int 0))) oNil)))) [4]) (t1 10))
  (mSeq (mAsg (mCallN 3 C_number_in (oCons (oN 10) (oCons (oN 5) (oCons (oN 3) (oNil))))) (t1 11))
  (mSeq (mAsg (mCallN 3 C_number_in (oCons (oN 10) (oCons (oN 7) (oCons (oN 3) (oNil))))) (t1 12))
  (mSeq (mAsg (mTup (vCons (mFzN 11) (vCons (mFzN 6) (vCons (mFzN 12) (vCons (mFzN 8) (vCons (mFzN 9) (vNil))))))) (t1 13))
  (mSeq (mIf (mNot (mT (mCallN 2 C_is_queue (oCons (oN 13) (oCons (oN 1) (oNil)))))) (mRaise (mMk "BadLine" ["row", "reason"] (vCons (mFzN 3) (vCons (mC (.str "value")) (vNil))))) (mNx))
  (mSeq (mIf (mT (mOp (pCmp pGe) (oCons (oN 2) (oCons (oE (mC (.int 160))) oNil)))) (mRaise (mMk "BadLine" ["row", "reason"] (vCons (mFzN 3) (vCons (mC (.str "many")) (vNil))))) (mNx))
  (mRet (mN 13)))))))))
noncomputable def C_read_queue : List PV → CR := runB 14 4 [0, 1, 2, 3] m_read_queue
theorem fb_read_queue (T : Tx P w K mg base aBadLine aBadThing aRateError) : FB P w K mg base 5 "read_queue" 4 C_read_queue := by
  obtain ⟨f, fd, F, g, b⟩ := T.f_read_queue
  exact fb_of (N := ["words", "blocks", "many", "row", "block", "source", "gives", "target", "takes", "start", "names", "first", "second", "queue"]) (ps := ["words", "blocks", "many", "row"]) (pn := [0, 1, 2, 3]) (m := m_read_queue) (k := 4) F sc_read_queue g b fun cdv A outer s H E hr => (sss_cons (ss_if (st_cmp op_lt (vo_cmp pLt) (so_E (se_blt call_len vo_len (by rfl) T.b_len bt_len (sa_cons (so_N 0 (pv 0)) sa_nil))) (so_E se_int) (nomark _)) (sss_one (ss_raise rfl bx_tk (sx_mk T.x_BadLine (hr.mono (by omega)) (by rfl) (sv_cons (se_FzN 3 (pv 3)) (sv_cons se_str sv_nil)) (by decide)))) sss_nil)
  (sss_cons (ss_asg (se_call bx_tk (fb_queue_parts T) (hr.mono (by omega)) (by rfl) (sa_cons (so_E (se_slLo (so_N 0 (pv 0)) (so_E se_int))) (sa_cons (so_N 3 (pv 3)) sa_nil))) (tg_tup rfl (PNs.cons (pg_name (i := 5) sc_read_queue.nd rfl (Or.inl rfl)) (PNs.cons (pg_name (i := 6) sc_read_queue.nd rfl (Or.inl rfl)) (PNs.cons (pg_name (i := 7) sc_read_queue.nd rfl (Or.inl rfl)) (PNs.cons (pg_name (i := 8) sc_read_queue.nd rfl (Or.inl rfl)) (PNs.cons (pg_name (i := 9) sc_read_queue.nd rfl (Or.inl rfl)) PNs.nil rfl) rfl) rfl) rfl) rfl) rfl rfl) (by decide) (by rfl) (by rfl) (by rfl))
  (sss_cons (ss_setLc 10 rfl sc_read_queue.nd rfl rfl (by decide) (sw_true rfl rfl rfl (by decide +kernel)) (si_seq (so_N 1 (pv 1))) vi_seq (own := [("block", 4)]) (blkOk_by (N := ["words", "blocks", "many", "row", "block", "source", "gives", "target", "takes", "start", "names", "first", "second", "queue"]) (sc := defScope s_read_queue) (by decide +kernel)) (tgb_name 4 (fun _ _ _ _ _ => (pg_name (i := 4) sc_read_queue.nd rfl (Or.inl rfl)))) (by decide) (fun _ _ _ _ _ => sif_nil) (fun _ _ _ _ _ => (se_fz (se_ix ix_seq vo_ix (so_N 4 (pv 4)) (so_E se_int) (by intro _ _; rfl)))))
  (sss_cons (ss_set 11 (se_call bx_tk (fb_number_in T) (hr.mono (by omega)) (by rfl) (sa_cons (so_N 10 (pv 10)) (sa_cons (so_N 5 (pv 5)) (sa_cons (so_N 3 (pv 3)) sa_nil)))) sc_read_queue.nd rfl (Or.inl rfl) (by decide) (by rfl) (.inl rfl))
  (sss_cons (ss_set 12 (se_call bx_tk (fb_number_in T) (hr.mono (by omega)) (by rfl) (sa_cons (so_N 10 (pv 10)) (sa_cons (so_N 7 (pv 7)) (sa_cons (so_N 3 (pv 3)) sa_nil)))) sc_read_queue.nd rfl (Or.inl rfl) (by decide) (by rfl) (.inl rfl))
  (sss_cons (ss_set 13 (se_tup (sv_cons (se_FzN 11 (pv 11)) (sv_cons (se_FzN 6 (pv 6)) (sv_cons (se_FzN 12 (pv 12)) (sv_cons (se_FzN 8 (pv 8)) (sv_cons (se_FzN 9 (pv 9)) sv_nil)))))) sc_read_queue.nd rfl (Or.inl rfl) (by decide) (by rfl) (.inl rfl))
  (sss_cons (ss_if (st_not (st_val (se_call bx_tk (fb_is_queue T) (hr.mono (by omega)) (by rfl) (sa_cons (so_N 13 (pv 13)) (sa_cons (so_N 1 (pv 1)) sa_nil))))) (sss_one (ss_raise rfl bx_tk (sx_mk T.x_BadLine (hr.mono (by omega)) (by rfl) (sv_cons (se_FzN 3 (pv 3)) (sv_cons se_str sv_nil)) (by decide)))) sss_nil)
  (sss_cons (ss_if (st_cmp op_ge (vo_cmp pGe) (so_N 2 (pv 2)) (so_E (se_Gint (by rfl) T.c_MOST_QUEUES)) (nomark _)) (sss_one (ss_raise rfl bx_tk (sx_mk T.x_BadLine (hr.mono (by omega)) (by rfl) (sv_cons (se_FzN 3 (pv 3)) (sv_cons se_str sv_nil)) (by decide)))) sss_nil)
  (sss_one (ss_ret (se_N 13 (pv 13))))))))))))

/-! ### read_graph -/
abbrev s_read_graph : Stmt := tS 42
theorem sc_read_graph : FnScope ["text", "block", "blocks", "queues", "place", "line", "row", "words", "names"] ["text"] (defScope s_read_graph) := ⟨rfl, rfl, rfl, by decide +kernel, rfl, by decide +kernel, by decide +kernel⟩
noncomputable def m_read_graph : MS := mSeq (mAsg (mLst (vNil)) (t1 2))
  (mSeq (mAsg (mLst (vNil)) (t1 3))
  (mSeq (mFor [0] (oCons (oE (mCallN 1 C_text_lines (oCons (oN 0) (oNil)))) oNil) itEnum (tN [4, 5]) (mSeq (mAsg (mOp pAdd (oCons (oN 4) (oCons (oE (mC (.int 1))) oNil))) (t1 6))
  (mSeq (mAsg (mCallN 1 C_key_values (oCons (oN 5) (oNil))) (t1 7))
  (mSeq (mIf (mT (mOp (pIsN false) (oCons (oN 7) (oCons (oE (mC .non)) oNil)))) (mRaise (mMk "BadLine" ["row", "reason"] (vCons (mFzN 6) (vCons (mC (.str "words")) (vNil))))) (mNx))
  (mIf (mAnd (mT (mOp (pEq false) (oCons (oE (mOp pIx (oCons (oN 7) (oCons (oE (mC (.int 0))) oNil)))) (oCons (oE (mC (.str "block"))) oNil)))) (mT (mOp (pEq false) (oCons (oE (mOp pLen (oCons (oN 3) (oNil)))) (oCons (oE (mC (.int 0))) oNil))))) (mSeq (mAsg (mComp (oCons (oN 2) oNil) itSeq (t1 1) (mYes) (mFz (mOp pIx (oCons (oN 1) (oCons (oE (mC (.int 0))) oNil)))) [1]) (t1 8))
  (mDrop (mMeth 2 fApp (vCons (mFz (mCallN 3 C_read_block (oCons (oN 7) (oCons (oN 8) (oCons (oN 6) (oNil)))))) (vNil))))) (mIf (mT (mOp (pEq false) (oCons (oE (mOp pIx (oCons (oN 7) (oCons (oE (mC (.int 0))) oNil)))) (oCons (oE (mC (.str "queue"))) oNil)))) (mDrop (mMeth 3 fApp (vCons (mFz (mCallN 4 C_read_queue (oCons (oN 7) (oCons (oN 2) (oCons (oE (mOp pLen (oCons (oN 3) (oNil)))) (oCons (oN 6) (oNil))))))) (vNil)))) (mRaise (mMk "BadLine" ["row", "reason"] (vCons (mFzN 6) (vCons (mC (.str "kind")) (vNil)))))))))))
  (mRet (mTup (vCons (mOp pTuple (oCons (oN 2) (oNil))) (vCons (mOp pTuple (oCons (oN 3) (oNil))) (vNil)))))))
noncomputable def C_read_graph : List PV → CR := runB 9 1 [0] m_read_graph
theorem fb_read_graph (T : Tx P w K mg base aBadLine aBadThing aRateError) : FB P w K mg base 6 "read_graph" 1 C_read_graph := by
  obtain ⟨f, fd, F, g, b⟩ := T.f_read_graph
  exact fb_of (N := ["text", "block", "blocks", "queues", "place", "line", "row", "words", "names"]) (ps := ["text"]) (pn := [0]) (m := m_read_graph) (k := 5) F sc_read_graph g b fun cdv A outer s H E hr => (sss_cons (ss_set 2 (se_lst sv_nil) sc_read_graph.nd rfl (Or.inl rfl) (by decide) (by rfl) (.inl rfl))
  (sss_cons (ss_set 3 (se_lst sv_nil) sc_read_graph.nd rfl (Or.inl rfl) (by decide) (by rfl) (.inl rfl))
  (sss_cons (ss_for bx_po rfl (si_enum (so_E (se_call bx_tk (fb_text_lines T) (hr.mono (by omega)) (by rfl) (sa_cons (so_N 0 (pv 0)) sa_nil))) (by rfl) T.b_enumerate (by rfl) (by rfl)) vi_enum (tg_tup rfl (PNs.cons (pg_name (i := 4) sc_read_graph.nd rfl (Or.inl rfl)) (PNs.cons (pg_name (i := 5) sc_read_graph.nd rfl (Or.inl rfl)) PNs.nil rfl) rfl) rfl rfl) (by decide) (by decide) (sss_cons (ss_set 6 (se_op2 op_addAll vo_add (so_N 4 (pv 4)) (so_E se_int)) sc_read_graph.nd rfl (Or.inl rfl) (by decide) (by rfl) (.inl rfl))
  (sss_cons (ss_set 7 (se_call bx_tk (fb_key_values T) (hr.mono (by omega)) (by rfl) (sa_cons (so_N 5 (pv 5)) sa_nil)) sc_read_graph.nd rfl (Or.inl rfl) (by decide) (by rfl) (.inl rfl))
  (sss_cons (ss_if (st_cmp op_isN vo_isN (so_N 7 (pv 7)) (so_E se_non) (nomark _)) (sss_one (ss_raise rfl bx_tk (sx_mk T.x_BadLine (hr.mono (by omega)) (by rfl) (sv_cons (se_FzN 6 (pv 6)) (sv_cons se_str sv_nil)) (by decide)))) sss_nil)
  (sss_one (ss_if (st_bool (sw_and (st_cmp (op_eqD (hu64 hr)) vo_eq (so_E (se_ix ix_seq vo_ix (so_N 7 (pv 7)) (so_E se_int) (by intro _ _; rfl))) (so_E se_str) (nomark _)) (sw_and1 (st_cmp (op_eqD (hu64 hr)) vo_eq (so_E (se_blt call_len vo_len (by rfl) T.b_len bt_len (sa_cons (so_N 3 (pv 3)) sa_nil))) (so_E se_int) (nomark _))))) (sss_cons (ss_setLc 8 rfl sc_read_graph.nd rfl rfl (by decide) (sw_true rfl rfl rfl (by decide +kernel)) (si_seq (so_N 2 (pv 2))) vi_seq (own := [("block", 1)]) (blkOk_by (N := ["text", "block", "blocks", "queues", "place", "line", "row", "words", "names"]) (sc := defScope s_read_graph) (by decide +kernel)) (tgb_name 1 (fun _ _ _ _ _ => (pg_name (i := 1) sc_read_graph.nd rfl (Or.inl rfl)))) (by decide) (fun _ _ _ _ _ => sif_nil) (fun _ _ _ _ _ => (se_fz (se_ix ix_seq vo_ix (so_N 1 (pv 1)) (so_E se_int) (by intro _ _; rfl)))))
  (sss_one (ss_expr (se_meth 2 PySem.F.slot_list_append PySem.F.type_list_append mt_append vm_app (pv 2) (sv_cons (se_fz (se_call bx_tk (fb_read_block T) (hr.mono (by omega)) (by rfl) (sa_cons (so_N 7 (pv 7)) (sa_cons (so_N 8 (pv 8)) (sa_cons (so_N 6 (pv 6)) sa_nil))))) sv_nil)) (by rfl)))) (sss_one (ss_if (st_cmp (op_eqD (hu64 hr)) vo_eq (so_E (se_ix ix_seq vo_ix (so_N 7 (pv 7)) (so_E se_int) (by intro _ _; rfl))) (so_E se_str) (nomark _)) (sss_one (ss_expr (se_meth 3 PySem.F.slot_list_append PySem.F.type_list_append mt_append vm_app (pv 3) (sv_cons (se_fz (se_call bx_tk (fb_read_queue T) (hr.mono (by omega)) (by rfl) (sa_cons (so_N 7 (pv 7)) (sa_cons (so_N 2 (pv 2)) (sa_cons (so_E (se_blt call_len vo_len (by rfl) T.b_len bt_len (sa_cons (so_N 3 (pv 3)) sa_nil))) (sa_cons (so_N 6 (pv 6)) sa_nil)))))) sv_nil)) (by rfl))) (sss_one (ss_raise rfl bx_tk (sx_mk T.x_BadLine (hr.mono (by omega)) (by rfl) (sv_cons (se_FzN 6 (pv 6)) (sv_cons se_str sv_nil)) (by decide))))))))))))
  (sss_one (ss_ret (se_tup (sv_cons (se_bty call_tuple_of vo_tuple (by rfl) T.b_tuple bt_tuple (sa_cons (so_N 2 (pv 2)) sa_nil)) (sv_cons (se_bty call_tuple_of vo_tuple (by rfl) T.b_tuple bt_tuple (sa_cons (so_N 3 (pv 3)) sa_nil)) sv_nil))))))))

/-! ### _law_is_int -/
abbrev s_L_is_int : Stmt := tS 50
theorem sc_L_is_int : FnScope ["thing"] ["thing"] (defScope s_L_is_int) := ⟨rfl, rfl, rfl, by decide +kernel, rfl, by decide +kernel, by decide +kernel⟩
noncomputable def m_L_is_int : MS := mRet (mAndV (mOp (pIsi "int") (oCons (oN 0) oNil)) (mNotV (mOp (pIsi "bool") (oCons (oN 0) oNil))))
noncomputable def C_L_is_int : List PV → CR := runB 1 1 [0] m_L_is_int
theorem fb_L_is_int (T : Tx P w K mg base aBadLine aBadThing aRateError) : FB P w K mg base 1 "_law_is_int" 1 C_L_is_int := by
  obtain ⟨f, fd, F, g, b⟩ := T.f_L_is_int
  exact fb_of (N := ["thing"]) (ps := ["thing"]) (pn := [0]) (m := m_L_is_int) (k := 0) F sc_L_is_int g b fun cdv A outer s H E hr => (sss_one (ss_ret (se_and (se_isi kit_int (by rfl) T.b_isinstance (by rfl) T.b_int bt_int (so_N 0 (pv 0))) (se_one (se_not (se_isi kit_bool (by rfl) T.b_isinstance (by rfl) T.b_bool bt_bool (so_N 0 (pv 0))))))))

/-! ### _law_alike -/
abbrev s_L_alike : Stmt := tS 67
theorem sc_L_alike : FnScope ["told", "due", "k"] ["told", "due"] (defScope s_L_alike) := ⟨rfl, rfl, rfl, by decide +kernel, rfl, by decide +kernel, by decide +kernel⟩
noncomputable def m_L_alike (R : List PV → CR) : MS := mSeq (mIf (mT (mOp (pIsi "tuple") (oCons (oN 1) oNil))) (mSeq (mIf (mOr (mNot (mT (mOp (pIsi "tuple") (oCons (oN 0) oNil)))) (mT (mOp (pEq true) (oCons (oE (mOp pLen (oCons (oN 0) (oNil)))) (oCons (oE (mOp pLen (oCons (oN 1) (oNil)))) oNil))))) (mRet (mC (.bl false))) (mNx))
  (mRet (mOp pAll (oCons (oE (mComp (oCons (oE (mOp pLen (oCons (oN 1) (oNil)))) oNil) itRng1 (t1 2) (mYes) (mFz (mCallN 2 R (oCons (oE (mOp pIx (oCons (oN 0) (oCons (oN 2) oNil)))) (oCons (oE (mOp pIx (oCons (oN 1) (oCons (oN 2) oNil)))) (oNil))))) [2])) (oNil))))) (mNx))
  (mSeq (mIf (mT (mOp (pIsi "str") (oCons (oN 1) oNil))) (mRet (mAndV (mOp (pIsi "str") (oCons (oN 0) oNil)) (mOp (pEq false) (oCons (oN 0) (oCons (oN 1) oNil))))) (mNx))
  (mRet (mAndV (mCallN 1 C_L_is_int (oCons (oN 0) (oNil))) (mOp (pEq false) (oCons (oN 0) (oCons (oN 1) oNil))))))
noncomputable def C_L_alike : Nat → List PV → CR
  | 0 => fun _ => .bad
  | n + 1 => runB 3 2 [0, 1] (m_L_alike (C_L_alike n))
theorem fb_L_alike (T : Tx P w K mg base aBadLine aBadThing aRateError) : ∀ n : Nat, FB P w K mg base (1 + n) "_law_alike" 2 (C_L_alike n)
  | 0 => by
    obtain ⟨f, fd, F, g, b⟩ := T.f_L_alike
    exact fb_bad F g b
  | n + 1 => by
    obtain ⟨f, fd, F, g, b⟩ := T.f_L_alike
    exact fb_of (N := ["told", "due", "k"]) (ps := ["told", "due"]) (pn := [0, 1]) (m := m_L_alike (C_L_alike n)) (k := 1 + n) F sc_L_alike g b fun cdv A outer s H E hr => (sss_cons (ss_if (st_val (se_isi kit_tuple (by rfl) T.b_isinstance (by rfl) T.b_tuple bt_tuple (so_N 1 (pv 1)))) (sss_cons (ss_if (st_bool (sw_or (st_not (st_val (se_isi kit_tuple (by rfl) T.b_isinstance (by rfl) T.b_tuple bt_tuple (so_N 0 (pv 0))))) (sw_or1 (st_cmp (op_neD (hu64 hr)) vo_ne (so_E (se_blt call_len vo_len (by rfl) T.b_len bt_len (sa_cons (so_N 0 (pv 0)) sa_nil))) (so_E (se_blt call_len vo_len (by rfl) T.b_len bt_len (sa_cons (so_N 1 (pv 1)) sa_nil))) (nomark _))))) (sss_one (ss_ret se_bl)) sss_nil)
  (sss_one (ss_ret (se_blt (cr_all rfl) vo_all (by rfl) T.b_all bt_all (sa_cons (so_E (se_comp rfl sc_L_alike.nd (si_rng1 (so_E (se_blt call_len vo_len (by rfl) T.b_len bt_len (sa_cons (so_N 1 (pv 1)) sa_nil))) (by rfl) T.b_range (by rfl) (by rfl)) vi_rng1 (own := [("k", 2)]) (blkOk_by (N := ["told", "due", "k"]) (sc := defScope s_L_alike) (by decide +kernel)) (tgb_name 2 (fun _ _ _ _ _ => (pg_name (i := 2) sc_L_alike.nd rfl (Or.inl rfl)))) (by decide) (fun _ _ _ _ _ => sif_nil) (fun _ _ _ _ _ => (se_fz (se_call takes0 (fb_L_alike T n) (hr.mono (Nat.le_refl _)) (by rfl) (sa_cons (so_E (se_ix ix_seq vo_ix (so_N 0 (pv 0)) (so_N 2 (pv 2)) (by intro _ _; rfl))) (sa_cons (so_E (se_ix ix_seq vo_ix (so_N 1 (pv 1)) (so_N 2 (pv 2)) (by intro _ _; rfl))) sa_nil))))))) sa_nil))))) sss_nil)
  (sss_cons (ss_if (st_val (se_isi kit_str (by rfl) T.b_isinstance (by rfl) T.b_str bt_str (so_N 1 (pv 1)))) (sss_one (ss_ret (se_and (se_isi kit_str (by rfl) T.b_isinstance (by rfl) T.b_str bt_str (so_N 0 (pv 0))) (se_one (se_cmp (op_eqD (hu64 hr)) vo_eq (so_N 0 (pv 0)) (so_N 1 (pv 1)) (nomark _)))))) sss_nil)
  (sss_one (ss_ret (se_and (se_call bx_tk (fb_L_is_int T) (hr.mono (by omega)) (by rfl) (sa_cons (so_N 0 (pv 0)) sa_nil)) (se_one (se_cmp (op_eqD (hu64 hr)) vo_eq (so_N 0 (pv 0)) (so_N 1 (pv 1)) (nomark _))))))))

/-! ### is_graph -/
abbrev s_is_graph : Stmt := tS 24
theorem sc_is_graph : FnScope ["thing", "block", "queue", "blocks", "queues"] ["thing"] (defScope s_is_graph) := ⟨rfl, rfl, rfl, by decide +kernel, rfl, by decide +kernel, by decide +kernel⟩
noncomputable def m_is_graph : MS := mSeq (mIf (mOr (mNot (mT (mOp (pIsi "tuple") (oCons (oN 0) oNil)))) (mT (mOp (pEq true) (oCons (oE (mOp pLen (oCons (oN 0) (oNil)))) (oCons (oE (mC (.int 2))) oNil))))) (mRet (mC (.bl false))) (mNx))
  (mSeq (mAsg (mN 0) (tN [3, 4]))
  (mSeq (mIf (mOr (mNot (mT (mOp (pIsi "tuple") (oCons (oN 3) oNil)))) (mNot (mT (mChain pLe pLe (oE (mC (.int 1))) (oE (mOp pLen (oCons (oN 3) (oNil)))) (oE (mC (.int 60))))))) (mRet (mC (.bl false))) (mNx))
  (mSeq (mIf (mOr (mNot (mT (mOp (pIsi "tuple") (oCons (oN 4) oNil)))) (mT (mOp (pCmp pGt) (oCons (oE (mOp pLen (oCons (oN 4) (oNil)))) (oCons (oE (mC (.int 160))) oNil))))) (mRet (mC (.bl false))) (mNx))
  (mSeq (mIf (mNot (mT (mOp pAll (oCons (oE (mComp (oCons (oN 3) oNil) itSeq (t1 1) (mYes) (mFz (mCallN 1 C_is_block (oCons (oN 1) (oNil)))) [1])) (oNil))))) (mRet (mC (.bl false))) (mNx))
  (mSeq (mIf (mT (mOp (pEq true) (oCons (oE (mLenSc (oCons (oN 3) oNil) itSeq (t1 1) (mYes) (mFz (mOp pIx (oCons (oN 1) (oCons (oE (mC (.int 0))) oNil)))) [1])) (oCons (oE (mOp pLen (oCons (oN 3) (oNil)))) oNil)))) (mRet (mC (.bl false))) (mNx))
  (mRet (mOp pAll (oCons (oE (mComp (oCons (oN 4) oNil) itSeq (t1 2) (mYes) (mFz (mCallN 2 C_is_queue (oCons (oN 2) (oCons (oN 3) (oNil))))) [2])) (oNil)))))))))
noncomputable def C_is_graph : List PV → CR := runB 5 1 [0] m_is_graph
theorem fb_is_graph (T : Tx P w K mg base aBadLine aBadThing aRateError) : FB P w K mg base 5 "is_graph" 1 C_is_graph := by
  obtain ⟨f, fd, F, g, b⟩ := T.f_is_graph
  exact fb_of (N := ["thing", "block", "queue", "blocks", "queues"]) (ps := ["thing"]) (pn := [0]) (m := m_is_graph) (k := 4) F sc_is_graph g b fun cdv A outer s H E hr => (sss_cons (ss_if (st_bool (sw_or (st_not (st_val (se_isi kit_tuple (by rfl) T.b_isinstance (by rfl) T.b_tuple bt_tuple (so_N 0 (pv 0))))) (sw_or1 (st_cmp (op_neD (hu64 hr)) vo_ne (so_E (se_blt call_len vo_len (by rfl) T.b_len bt_len (sa_cons (so_N 0 (pv 0)) sa_nil))) (so_E se_int) (nomark _))))) (sss_one (ss_ret se_bl)) sss_nil)
  (sss_cons (ss_asg (se_N 0 (pv 0)) (tg_tup rfl (PNs.cons (pg_name (i := 3) sc_is_graph.nd rfl (Or.inr rfl)) (PNs.cons (pg_name (i := 4) sc_is_graph.nd rfl (Or.inl rfl)) PNs.nil rfl) rfl) rfl rfl) (by decide) (by rfl) (by rfl) (by rfl))
  (sss_cons (ss_if (st_bool (sw_or (st_not (st_val (se_isi kit_tuple (by rfl) T.b_isinstance (by rfl) T.b_tuple bt_tuple (so_N 3 (pv 3))))) (sw_or1 (st_not (st_chain (p := pLe) (p' := pLe) op_le op_le (so_E se_int) (so_E (se_blt call_len vo_len (by rfl) T.b_len bt_len (sa_cons (so_N 3 (pv 3)) sa_nil))) (so_E (se_Gint (by rfl) T.c_MOST_BLOCKS))))))) (sss_one (ss_ret se_bl)) sss_nil)
  (sss_cons (ss_if (st_bool (sw_or (st_not (st_val (se_isi kit_tuple (by rfl) T.b_isinstance (by rfl) T.b_tuple bt_tuple (so_N 4 (pv 4))))) (sw_or1 (st_cmp op_gt (vo_cmp pGt) (so_E (se_blt call_len vo_len (by rfl) T.b_len bt_len (sa_cons (so_N 4 (pv 4)) sa_nil))) (so_E (se_Gint (by rfl) T.c_MOST_QUEUES)) (nomark _))))) (sss_one (ss_ret se_bl)) sss_nil)
  (sss_cons (ss_if (st_not (st_val (se_blt (cr_all rfl) vo_all (by rfl) T.b_all bt_all (sa_cons (so_E (se_comp rfl sc_is_graph.nd (si_seq (so_N 3 (pv 3))) vi_seq (own := [("block", 1)]) (blkOk_by (N := ["thing", "block", "queue", "blocks", "queues"]) (sc := defScope s_is_graph) (by decide +kernel)) (tgb_name 1 (fun _ _ _ _ _ => (pg_name (i := 1) sc_is_graph.nd rfl (Or.inl rfl)))) (by decide) (fun _ _ _ _ _ => sif_nil) (fun _ _ _ _ _ => (se_fz (se_call takes0 (fb_is_block T) (hr.mono (by omega)) (by rfl) (sa_cons (so_N 1 (pv 1)) sa_nil)))))) sa_nil)))) (sss_one (ss_ret se_bl)) sss_nil)
  (sss_cons (ss_if (st_cmp (op_neD (hu64 hr)) vo_ne (so_E (se_lenSc (by rfl) T.b_len rfl sc_is_graph.nd (si_seq (so_N 3 (pv 3))) vi_seq (own := [("block", 1)]) (blkOk_by (N := ["thing", "block", "queue", "blocks", "queues"]) (sc := defScope s_is_graph) (by decide +kernel)) (tgb_name 1 (fun _ _ _ _ _ => (pg_name (i := 1) sc_is_graph.nd rfl (Or.inl rfl)))) (by decide) (fun _ _ _ _ _ => sif_nil) (fun _ _ _ _ _ => (se_fz (se_ix ix_seq vo_ix (so_N 1 (pv 1)) (so_E se_int) (by intro _ _; rfl)))))) (so_E (se_blt call_len vo_len (by rfl) T.b_len bt_len (sa_cons (so_N 3 (pv 3)) sa_nil))) (nomark _)) (sss_one (ss_ret se_bl)) sss_nil)
  (sss_one (ss_ret (se_blt (cr_all rfl) vo_all (by rfl) T.b_all bt_all (sa_cons (so_E (se_comp rfl sc_is_graph.nd (si_seq (so_N 4 (pv 4))) vi_seq (own := [("queue", 2)]) (blkOk_by (N := ["thing", "block", "queue", "blocks", "queues"]) (sc := defScope s_is_graph) (by decide +kernel)) (tgb_name 2 (fun _ _ _ _ _ => (pg_name (i := 2) sc_is_graph.nd rfl (Or.inl rfl)))) (by decide) (fun _ _ _ _ _ => sif_nil) (fun _ _ _ _ _ => (se_fz (se_call takes0 (fb_is_queue T) (hr.mono (by omega)) (by rfl) (sa_cons (so_N 2 (pv 2)) (sa_cons (so_N 3 (pv 3)) sa_nil))))))) sa_nil))))))))))

/-! ### check_graph -/
abbrev s_check_graph : Stmt := tS 25
theorem sc_check_graph : FnScope ["graph"] ["graph"] (defScope s_check_graph) := ⟨rfl, rfl, rfl, by decide +kernel, rfl, by decide +kernel, by decide +kernel⟩
noncomputable def m_check_graph : MS := mIf (mNot (mT (mCallN 1 C_is_graph (oCons (oN 0) (oNil))))) (mRaise (mMk "BadThing" ["part"] (vCons (mC (.str "graph")) (vNil)))) (mNx)
noncomputable def C_check_graph : List PV → CR := runB 1 1 [0] m_check_graph
theorem fb_check_graph (T : Tx P w K mg base aBadLine aBadThing aRateError) : FB P w K mg base 6 "check_graph" 1 C_check_graph := by
  obtain ⟨f, fd, F, g, b⟩ := T.f_check_graph
  exact fb_of (N := ["graph"]) (ps := ["graph"]) (pn := [0]) (m := m_check_graph) (k := 5) F sc_check_graph g b fun cdv A outer s H E hr => (sss_one (ss_if (st_not (st_val (se_call bx_tk (fb_is_graph T) (hr.mono (by omega)) (by rfl) (sa_cons (so_N 0 (pv 0)) sa_nil)))) (sss_one (ss_raise rfl bx_tk (sx_mk T.x_BadThing (hr.mono (by omega)) (by rfl) (sv_cons se_str sv_nil) (by decide)))) sss_nil))

/-! ### joined_words -/
abbrev s_joined_words : Stmt := tS 32
theorem sc_joined_words : FnScope ["head", "numbers", "number"] ["head", "numbers"] (defScope s_joined_words) := ⟨rfl, rfl, rfl, by decide +kernel, rfl, by decide +kernel, by decide +kernel⟩
noncomputable def m_joined_words : MS := mRet (mOp pAdd (oCons (oE (mC (.str " "))) (oCons (oE (mStr1 pJoin (mC (.str " ")) (oE (mOp pAdd (oCons (oE (mLst (vCons (mFzN 0) (vNil)))) (oCons (oE (mComp (oCons (oN 1) oNil) itSeq (t1 2) (mYes) (mOp pStr (oCons (oN 2) (oNil))) [2])) oNil)))))) oNil)))
noncomputable def C_joined_words : List PV → CR := runB 3 2 [0, 1] m_joined_words
theorem fb_joined_words (T : Tx P w K mg base aBadLine aBadThing aRateError) : FB P w K mg base 1 "joined_words" 2 C_joined_words := by
  obtain ⟨f, fd, F, g, b⟩ := T.f_joined_words
  exact fb_of (N := ["head", "numbers", "number"]) (ps := ["head", "numbers"]) (pn := [0, 1]) (m := m_joined_words) (k := 0) F sc_joined_words g b fun cdv A outer s H E hr => (sss_one (ss_ret (se_op2 op_addAll vo_add (so_E se_str) (so_E (se_join se_str (so_E (se_op2 op_addAll vo_add (so_E (se_lst (sv_cons (se_FzN 0 (pv 0)) sv_nil))) (so_E (se_comp rfl sc_joined_words.nd (si_seq (so_N 1 (pv 1))) vi_seq (own := [("number", 2)]) (blkOk_by (N := ["head", "numbers", "number"]) (sc := defScope s_joined_words) (by decide +kernel)) (tgb_name 2 (fun _ _ _ _ _ => (pg_name (i := 2) sc_joined_words.nd rfl (Or.inl rfl)))) (by decide) (fun _ _ _ _ _ => sif_nil) (fun _ _ _ _ _ => (se_bty call_str_int vo_str (by rfl) T.b_str bt_str (sa_cons (so_N 2 (pv 2)) sa_nil))))))))))))

/-! ### block_line -/
abbrev s_block_line : Stmt := tS 33
theorem sc_block_line : FnScope ["block", "name", "times", "deed"] ["block"] (defScope s_block_line) := ⟨rfl, rfl, rfl, by decide +kernel, rfl, by decide +kernel, by decide +kernel⟩
noncomputable def m_block_line : MS := mSeq (mAsg (mN 0) (tN [1, 2, 3]))
  (mRet (mOp pAdd (oCons (oE (mOp pAdd (oCons (oE (mOp pAdd (oCons (oE (mC (.str "block "))) (oCons (oN 1) oNil)))) (oCons (oE (mCallN 2 C_joined_words (oCons (oE (mC (.str "times"))) (oCons (oN 2) (oNil))))) oNil)))) (oCons (oE (mCallN 2 C_joined_words (oCons (oE (mC (.str "deed"))) (oCons (oN 3) (oNil))))) oNil))))
noncomputable def C_block_line : List PV → CR := runB 4 1 [0] m_block_line
theorem fb_block_line (T : Tx P w K mg base aBadLine aBadThing aRateError) : FB P w K mg base 2 "block_line" 1 C_block_line := by
  obtain ⟨f, fd, F, g, b⟩ := T.f_block_line
  exact fb_of (N := ["block", "name", "times", "deed"]) (ps := ["block"]) (pn := [0]) (m := m_block_line) (k := 1) F sc_block_line g b fun cdv A outer s H E hr => (sss_cons (ss_asg (se_N 0 (pv 0)) (tg_tup rfl (PNs.cons (pg_name (i := 1) sc_block_line.nd rfl (Or.inl rfl)) (PNs.cons (pg_name (i := 2) sc_block_line.nd rfl (Or.inl rfl)) (PNs.cons (pg_name (i := 3) sc_block_line.nd rfl (Or.inl rfl)) PNs.nil rfl) rfl) rfl) rfl rfl) (by decide) (by rfl) (by rfl) (by rfl))
  (sss_one (ss_ret (se_op2 op_addAll vo_add (so_E (se_op2 op_addAll vo_add (so_E (se_op2 op_addAll vo_add (so_E se_str) (so_N 1 (pv 1)))) (so_E (se_call bx_tk (fb_joined_words T) (hr.mono (by omega)) (by rfl) (sa_cons (so_E se_str) (sa_cons (so_N 2 (pv 2)) sa_nil)))))) (so_E (se_call bx_tk (fb_joined_words T) (hr.mono (by omega)) (by rfl) (sa_cons (so_E se_str) (sa_cons (so_N 3 (pv 3)) sa_nil))))))))

/-! ### queue_line -/
abbrev s_queue_line : Stmt := tS 34
theorem sc_queue_line : FnScope ["source", "gives", "target", "takes", "start", "first"] ["source", "gives", "target", "takes", "start"] (defScope s_queue_line) := ⟨rfl, rfl, rfl, by decide +kernel, rfl, by decide +kernel, by decide +kernel⟩
noncomputable def m_queue_line : MS := mSeq (mAsg (mOp pAdd (oCons (oE (mOp pAdd (oCons (oE (mOp pAdd (oCons (oN 0) (oCons (oE (mCallN 2 C_joined_words (oCons (oE (mC (.str "gives"))) (oCons (oN 1) (oNil))))) oNil)))) (oCons (oE (mC (.str " target "))) oNil)))) (oCons (oN 2) oNil))) (t1 5))
  (mRet (mOp pAdd (oCons (oE (mOp pAdd (oCons (oN 5) (oCons (oE (mCallN 2 C_joined_words (oCons (oE (mC (.str "takes"))) (oCons (oN 3) (oNil))))) oNil)))) (oCons (oE (mCallN 2 C_joined_words (oCons (oE (mC (.str "start"))) (oCons (oN 4) (oNil))))) oNil))))
noncomputable def C_queue_line : List PV → CR := runB 6 5 [0, 1, 2, 3, 4] m_queue_line
theorem fb_queue_line (T : Tx P w K mg base aBadLine aBadThing aRateError) : FB P w K mg base 2 "queue_line" 5 C_queue_line := by
  obtain ⟨f, fd, F, g, b⟩ := T.f_queue_line
  exact fb_of (N := ["source", "gives", "target", "takes", "start", "first"]) (ps := ["source", "gives", "target", "takes", "start"]) (pn := [0, 1, 2, 3, 4]) (m := m_queue_line) (k := 1) F sc_queue_line g b fun cdv A outer s H E hr => (sss_cons (ss_set 5 (se_op2 op_addAll vo_add (so_E (se_op2 op_addAll vo_add (so_E (se_op2 op_addAll vo_add (so_N 0 (pv 0)) (so_E (se_call bx_tk (fb_joined_words T) (hr.mono (by omega)) (by rfl) (sa_cons (so_E se_str) (sa_cons (so_N 1 (pv 1)) sa_nil)))))) (so_E se_str))) (so_N 2 (pv 2))) sc_queue_line.nd rfl (Or.inl rfl) (by decide) (by rfl) (.inl rfl))
  (sss_one (ss_ret (se_op2 op_addAll vo_add (so_E (se_op2 op_addAll vo_add (so_N 5 (pv 5)) (so_E (se_call bx_tk (fb_joined_words T) (hr.mono (by omega)) (by rfl) (sa_cons (so_E se_str) (sa_cons (so_N 3 (pv 3)) sa_nil)))))) (so_E (se_call bx_tk (fb_joined_words T) (hr.mono (by omega)) (by rfl) (sa_cons (so_E se_str) (sa_cons (so_N 4 (pv 4)) sa_nil))))))))

/-! ### graph_text -/
abbrev s_graph_text : Stmt := tS 35
theorem sc_graph_text : FnScope ["graph", "block", "line", "blocks", "queues", "lines", "source", "gives", "target", "takes", "start", "told"] ["graph"] (defScope s_graph_text) := ⟨rfl, rfl, rfl, by decide +kernel, rfl, by decide +kernel, by decide +kernel⟩
noncomputable def m_graph_text : MS := mSeq (mDrop (mCallN 1 C_check_graph (oCons (oN 0) (oNil))))
  (mSeq (mAsg (mN 0) (tN [3, 4]))
  (mSeq (mAsg (mComp (oCons (oN 3) oNil) itSeq (t1 1) (mYes) (mFz (mCallN 1 C_block_line (oCons (oN 1) (oNil)))) [1]) (t1 5))
  (mSeq (mFor [4, 0] (oCons (oN 4) oNil) itSeq (tN [6, 7, 8, 9, 10]) (mSeq (mAsg (mCallN 5 C_queue_line (oCons (oE (mOp pIx (oCons (oE (mOp pIx (oCons (oN 3) (oCons (oN 6) oNil)))) (oCons (oE (mC (.int 0))) oNil)))) (oCons (oN 7) (oCons (oE (mOp pIx (oCons (oE (mOp pIx (oCons (oN 3) (oCons (oN 8) oNil)))) (oCons (oE (mC (.int 0))) oNil)))) (oCons (oN 9) (oCons (oN 10) (oNil))))))) (t1 11))
  (mDrop (mMeth 5 fApp (vCons (mFz (mOp pAdd (oCons (oE (mC (.str "queue "))) (oCons (oN 11) oNil)))) (vNil))))))
  (mRet (mStr1 pJoin (mC (.str "")) (oE (mComp (oCons (oN 5) oNil) itSeq (t1 2) (mYes) (mFz (mOp pAdd (oCons (oN 2) (oCons (oE (mC (.str "\n"))) oNil)))) [2])))))))
noncomputable def C_graph_text : List PV → CR := runB 12 1 [0] m_graph_text
theorem fb_graph_text (T : Tx P w K mg base aBadLine aBadThing aRateError) : FB P w K mg base 7 "graph_text" 1 C_graph_text := by
  obtain ⟨f, fd, F, g, b⟩ := T.f_graph_text
  exact fb_of (N := ["graph", "block", "line", "blocks", "queues", "lines", "source", "gives", "target", "takes", "start", "told"]) (ps := ["graph"]) (pn := [0]) (m := m_graph_text) (k := 6) F sc_graph_text g b fun cdv A outer s H E hr => (sss_cons (ss_expr (se_call bx_tk (fb_check_graph T) (hr.mono (by omega)) (by rfl) (sa_cons (so_N 0 (pv 0)) sa_nil)) (by rfl))
  (sss_cons (ss_asg (se_N 0 (pv 0)) (tg_tup rfl (PNs.cons (pg_name (i := 3) sc_graph_text.nd rfl (Or.inl rfl)) (PNs.cons (pg_name (i := 4) sc_graph_text.nd rfl (Or.inl rfl)) PNs.nil rfl) rfl) rfl rfl) (by decide) (by rfl) (by rfl) (by rfl))
  (sss_cons (ss_setLc 5 rfl sc_graph_text.nd rfl rfl (by decide) (sw_true rfl rfl rfl (by decide +kernel)) (si_seq (so_N 3 (pv 3))) vi_seq (own := [("block", 1)]) (blkOk_by (N := ["graph", "block", "line", "blocks", "queues", "lines", "source", "gives", "target", "takes", "start", "told"]) (sc := defScope s_graph_text) (by decide +kernel)) (tgb_name 1 (fun _ _ _ _ _ => (pg_name (i := 1) sc_graph_text.nd rfl (Or.inl rfl)))) (by decide) (fun _ _ _ _ _ => sif_nil) (fun _ _ _ _ _ => (se_fz (se_call takes0 (fb_block_line T) (hr.mono (by omega)) (by rfl) (sa_cons (so_N 1 (pv 1)) sa_nil)))))
  (sss_cons (ss_for bx_po rfl (si_seq (so_N 4 (pv 4))) vi_seq (tg_tup rfl (PNs.cons (pg_name (i := 6) sc_graph_text.nd rfl (Or.inl rfl)) (PNs.cons (pg_name (i := 7) sc_graph_text.nd rfl (Or.inl rfl)) (PNs.cons (pg_name (i := 8) sc_graph_text.nd rfl (Or.inl rfl)) (PNs.cons (pg_name (i := 9) sc_graph_text.nd rfl (Or.inl rfl)) (PNs.cons (pg_name (i := 10) sc_graph_text.nd rfl (Or.inl rfl)) PNs.nil rfl) rfl) rfl) rfl) rfl) rfl rfl) (by decide) (by decide) (sss_cons (ss_set 11 (se_call bx_tk (fb_queue_line T) (hr.mono (by omega)) (by rfl) (sa_cons (so_E (se_ix ix_seq vo_ix (so_E (se_ix ix_seq vo_ix (so_N 3 (pv 3)) (so_N 6 (pv 6)) (by intro _ _; rfl))) (so_E se_int) (by intro _ _; rfl))) (sa_cons (so_N 7 (pv 7)) (sa_cons (so_E (se_ix ix_seq vo_ix (so_E (se_ix ix_seq vo_ix (so_N 3 (pv 3)) (so_N 8 (pv 8)) (by intro _ _; rfl))) (so_E se_int) (by intro _ _; rfl))) (sa_cons (so_N 9 (pv 9)) (sa_cons (so_N 10 (pv 10)) sa_nil)))))) sc_graph_text.nd rfl (Or.inl rfl) (by decide) (by rfl) (.inl rfl))
  (sss_one (ss_expr (se_meth 5 PySem.F.slot_list_append PySem.F.type_list_append mt_append vm_app (pv 5) (sv_cons (se_fz (se_op2 op_addAll vo_add (so_E se_str) (so_N 11 (pv 11)))) sv_nil)) (by rfl)))))
  (sss_one (ss_ret (se_join se_str (so_E (se_comp rfl sc_graph_text.nd (si_seq (so_N 5 (pv 5))) vi_seq (own := [("line", 2)]) (blkOk_by (N := ["graph", "block", "line", "blocks", "queues", "lines", "source", "gives", "target", "takes", "start", "told"]) (sc := defScope s_graph_text) (by decide +kernel)) (tgb_name 2 (fun _ _ _ _ _ => (pg_name (i := 2) sc_graph_text.nd rfl (Or.inl rfl)))) (by decide) (fun _ _ _ _ _ => sif_nil) (fun _ _ _ _ _ => (se_fz (se_op2 op_addAll vo_add (so_N 2 (pv 2)) (so_E se_str)))))))))))))

/-! ### _law_there_and_back -/
abbrev s_L_there_and_back : Stmt := tS 68
theorem sc_L_there_and_back : FnScope ["graph", "text", "told", "again"] ["graph"] (defScope s_L_there_and_back) := ⟨rfl, rfl, rfl, by decide +kernel, rfl, by decide +kernel, by decide +kernel⟩
noncomputable def m_L_there_and_back : MS := mSeq (mAsg (mCallN 1 C_L_text (oCons (oE (mCallN 1 C_L_graph_lines (oCons (oN 0) (oNil)))) (oNil))) (t1 1))
  (mSeq (mAsg (mCallN 1 C_read_graph (oCons (oN 1) (oNil))) (t1 2))
  (mSeq (mIf (mNot (mT (mCallN 2 (C_L_alike 8) (oCons (oN 2) (oCons (oN 0) (oNil)))))) (mRet (mC (.bl false))) (mNx))
  (mSeq (mAsg (mCallN 1 C_graph_text (oCons (oN 2) (oNil))) (t1 3))
  (mSeq (mIf (mOr (mNot (mT (mOp (pIsi "str") (oCons (oN 3) oNil)))) (mT (mOp (pEq true) (oCons (oN 3) (oCons (oN 1) oNil))))) (mRet (mC (.bl false))) (mNx))
  (mRet (mCallN 2 (C_L_alike 8) (oCons (oE (mCallN 1 C_read_graph (oCons (oE (mCallN 1 C_graph_text (oCons (oN 0) (oNil)))) (oNil)))) (oCons (oN 0) (oNil)))))))))
noncomputable def C_L_there_and_back : List PV → CR := runB 4 1 [0] m_L_there_and_back
theorem fb_L_there_and_back (T : Tx P w K mg base aBadLine aBadThing aRateError) : FB P w K mg base 10 "_law_there_and_back" 1 C_L_there_and_back := by
  obtain ⟨f, fd, F, g, b⟩ := T.f_L_there_and_back
  exact fb_of (N := ["graph", "text", "told", "again"]) (ps := ["graph"]) (pn := [0]) (m := m_L_there_and_back) (k := 9) F sc_L_there_and_back g b fun cdv A outer s H E hr => (sss_cons (ss_set 1 (se_call bx_tk (fb_L_text T) (hr.mono (by omega)) (by rfl) (sa_cons (so_E (se_call bx_tk (fb_L_graph_lines T) (hr.mono (by omega)) (by rfl) (sa_cons (so_N 0 (pv 0)) sa_nil))) sa_nil)) sc_L_there_and_back.nd rfl (Or.inl rfl) (by decide) (by rfl) (.inl rfl))
  (sss_cons (ss_set 2 (se_call bx_tk (fb_read_graph T) (hr.mono (by omega)) (by rfl) (sa_cons (so_N 1 (pv 1)) sa_nil)) sc_L_there_and_back.nd rfl (Or.inl rfl) (by decide) (by rfl) (.inl rfl))
  (sss_cons (ss_if (st_not (st_val (se_call bx_tk (fb_L_alike T 8) (hr.mono (by omega)) (by rfl) (sa_cons (so_N 2 (pv 2)) (sa_cons (so_N 0 (pv 0)) sa_nil))))) (sss_one (ss_ret se_bl)) sss_nil)
  (sss_cons (ss_set 3 (se_call bx_tk (fb_graph_text T) (hr.mono (by omega)) (by rfl) (sa_cons (so_N 2 (pv 2)) sa_nil)) sc_L_there_and_back.nd rfl (Or.inl rfl) (by decide) (by rfl) (.inl rfl))
  (sss_cons (ss_if (st_bool (sw_or (st_not (st_val (se_isi kit_str (by rfl) T.b_isinstance (by rfl) T.b_str bt_str (so_N 3 (pv 3))))) (sw_or1 (st_cmp (op_neD (hu64 hr)) vo_ne (so_N 3 (pv 3)) (so_N 1 (pv 1)) (nomark _))))) (sss_one (ss_ret se_bl)) sss_nil)
  (sss_one (ss_ret (se_call bx_tk (fb_L_alike T 8) (hr.mono (by omega)) (by rfl) (sa_cons (so_E (se_call bx_tk (fb_read_graph T) (hr.mono (by omega)) (by rfl) (sa_cons (so_E (se_call bx_tk (fb_graph_text T) (hr.mono (by omega)) (by rfl) (sa_cons (so_N 0 (pv 0)) sa_nil))) sa_nil))) (sa_cons (so_N 0 (pv 0)) sa_nil))))))))))

/-! ### _law_refused -/
abbrev s_L_refused : Stmt := tS 69
theorem sc_L_refused : FnScope ["thing", "caught"] ["thing"] (defScope s_L_refused) := ⟨rfl, rfl, rfl, by decide +kernel, rfl, by decide +kernel, by decide +kernel⟩
noncomputable def m_L_refused : MS := mSeq (mTry (catOf [("BadLine", false), ("BadThing", true)]) 1 (mDrop (mCallN 1 C_read_graph (oCons (oN 0) (oNil)))) (byCls [("BadThing", fun y => uSeq (uIf (utOr (uT (uC (.bl false))) (utNot (uT (uC (.bl true))))) (uRet (uC (.bl false))) (uNx)) (uRet (uAnd (uC (.bl true)) (uAnd (u1 (pIsi "str") ((fun _ => y.fs.lookup ("part" : Str)))) (u2 (pEq false) ((fun _ => y.fs.lookup ("part" : Str))) (uC (.str "text")))))))]))
  (mRet (mC (.bl false)))
noncomputable def C_L_refused : List PV → CR := runB 2 1 [0] m_L_refused
theorem fb_L_refused (T : Tx P w K mg base aBadLine aBadThing aRateError) : FB P w K mg base 7 "_law_refused" 1 C_L_refused := by
  obtain ⟨f, fd, F, g, b⟩ := T.f_L_refused
  exact fb_of (N := ["thing", "caught"]) (ps := ["thing"]) (pn := [0]) (m := m_L_refused) (k := 6) F sc_L_refused g b fun cdv A outer s H E hr => (sss_cons (ss_try 1 rfl rfl sc_L_refused.nd rfl rfl ⟨by rfl, by decide, Or.inl T.m_BadThing⟩ bx_tk (by decide) (cat_ok (CatC.cons T.m_BadLine T.e_BadLine_BadThing (CatC.cons T.m_BadThing T.e_BadThing_BadThing CatC.nil))) (fun W pn' xe tk' po' => (sss_one (ss_expr (se_call tk' (fb_read_graph T) (hr.mono (by omega)) (by rfl) (sa_cons (so_N 0 (pv 0)) sa_nil)) (by rfl)))) (byCls_ok (by decide) (USsC.cons (fun y a C dd oe pn' hy hC hz hf => by obtain rfl : C = aBadThing := addr_of T.m_BadThing hy hC; exact (uss_cons ze_fs (us_if ze_fs (sut_bool (suw_or ze_fs (su_test (su_isX T.i_BadThing hz hf (pv 1) (by rfl) T.b_isinstance (pe_glob (v := .ref aBadLine) (by rfl) T.m_BadLine rfl) (fun _ r => r) T.k_BadThing_BadLine)) (suw_or1 (sut_not (su_test (su_isX T.i_BadThing hz hf (pv 1) (by rfl) T.b_isinstance (pe_glob (v := .ref aRateError) (by rfl) T.m_RateError rfl) (fun _ r => r) T.k_BadThing_RateError)))))) (uss_one (us_ret (su_C pe_bl fun _ => rep_bl))) uss_nil) (uss_one (us_ret (su_and ze_fs (su_isX T.i_BadThing hz hf (pv 1) (by rfl) T.b_isinstance (pe_bltn (v := .ty "ValueError") (by rfl) T.b_ValueError bt_ve rfl) (fun _ r => r) T.k_BadThing_ValueError) (su_and ze_fs (su_isi kit_str (by rfl) T.b_isinstance (by rfl) T.b_str bt_str (su_xf T.g_BadThing T.n_BadThing_part hz hf (pv 1))) (su_one (su_cmp ze_fs (op_eqD (hu64s hr)) vo_eq (su_xf T.g_BadThing T.n_BadThing_part hz hf (pv 1)) (su_C pe_str fun _ => rep_str) (nomark _))))))))) USsC.nil)))
  (sss_one (ss_ret se_bl)))

/-! ### law -/
abbrev s_law : Stmt := tS 70
theorem sc_law : FnScope ["script", "d", "graph", "other", "lines", "odd"] ["script"] (defScope s_law) := ⟨rfl, rfl, rfl, by decide +kernel, rfl, by decide +kernel, by decide +kernel⟩
noncomputable def m_law : MS := mSeq (mAsg (mCallN 1 C_L_begin (oCons (oN 0) (oNil))) (t1 1))
  (mSeq (mAsg (mCallN 1 C_L_free_graph (oCons (oN 1) (oNil))) (t1 2))
  (mSeq (mAsg (mCallN 2 C_L_near (oCons (oN 1) (oCons (oN 2) (oNil)))) (t1 3))
  (mSeq (mIf (mOr (mNot (mT (mCallN 1 C_L_there_and_back (oCons (oN 2) (oNil))))) (mNot (mT (mCallN 1 C_L_there_and_back (oCons (oN 3) (oNil)))))) (mRet (mC (.bl false))) (mNx))
  (mSeq (mAsg (mCallN 1 C_L_graph_lines (oCons (oN 2) (oNil))) (t1 4))
  (mSeq (mAsg (mOp pIx (oCons (oE (mLst (vCons (mC .non) (vCons (mC (.int 7)) (vCons (mC (.bl false)) (vCons (mTup (vNil)) (vCons (mTup (vCons (mFz (mCallN 1 C_L_text (oCons (oN 4) (oNil)))) (vNil))) (vCons (mFz (mLst (vCons (mFz (mCallN 1 C_L_text (oCons (oE (mOp pSlHi (oCons (oN 4) (oCons (oE (mC (.int 1))) oNil)))) (oNil)))) (vNil)))) (vCons (mFzN 2) (vNil)))))))))) (oCons (oE (mCallN 2 C_L_draw (oCons (oN 1) (oCons (oE (mC (.int 7))) (oNil))))) oNil))) (t1 5))
  (mRet (mAndV (mCallN 1 C_L_refused (oCons (oN 5) (oNil))) (mCallN 1 C_L_there_and_back (oCons (oN 2) (oNil))))))))))
noncomputable def C_law : List PV → CR := runB 6 1 [0] m_law
theorem fb_law (T : Tx P w K mg base aBadLine aBadThing aRateError) : FB P w K mg base 11 "law" 1 C_law := by
  obtain ⟨f, fd, F, g, b⟩ := T.f_law
  exact fb_of (N := ["script", "d", "graph", "other", "lines", "odd"]) (ps := ["script"]) (pn := [0]) (m := m_law) (k := 10) F sc_law g b fun cdv A outer s H E hr => (sss_cons (ss_set 1 (se_call bx_tk (fb_L_begin T) (hr.mono (by omega)) (by rfl) (sa_cons (so_N 0 (pv 0)) sa_nil)) sc_law.nd rfl (Or.inl rfl) (by decide) (by rfl) (.inl rfl))
  (sss_cons (ss_set 2 (se_call bx_tk (fb_L_free_graph T) (hr.mono (by omega)) (by rfl) (sa_cons (so_N 1 (pv 1)) sa_nil)) sc_law.nd rfl (Or.inl rfl) (by decide) (by rfl) (.inl rfl))
  (sss_cons (ss_set 3 (se_call bx_tk (fb_L_near T) (hr.mono (by omega)) (by rfl) (sa_cons (so_N 1 (pv 1)) (sa_cons (so_N 2 (pv 2)) sa_nil))) sc_law.nd rfl (Or.inl rfl) (by decide) (by rfl) (.inl rfl))
  (sss_cons (ss_if (st_bool (sw_or (st_not (st_val (se_call bx_tk (fb_L_there_and_back T) (hr.mono (by omega)) (by rfl) (sa_cons (so_N 2 (pv 2)) sa_nil)))) (sw_or1 (st_not (st_val (se_call bx_tk (fb_L_there_and_back T) (hr.mono (by omega)) (by rfl) (sa_cons (so_N 3 (pv 3)) sa_nil))))))) (sss_one (ss_ret se_bl)) sss_nil)
  (sss_cons (ss_set 4 (se_call bx_tk (fb_L_graph_lines T) (hr.mono (by omega)) (by rfl) (sa_cons (so_N 2 (pv 2)) sa_nil)) sc_law.nd rfl (Or.inl rfl) (by decide) (by rfl) (.inl rfl))
  (sss_cons (ss_set 5 (se_ix ix_seq vo_ix (so_E (se_lst (sv_cons se_non (sv_cons se_int (sv_cons se_bl (sv_cons (se_tup sv_nil) (sv_cons (se_tup (sv_cons (se_fz (se_call bx_tk (fb_L_text T) (hr.mono (by omega)) (by rfl) (sa_cons (so_N 4 (pv 4)) sa_nil))) sv_nil)) (sv_cons (se_fz (se_lst (sv_cons (se_fz (se_call bx_tk (fb_L_text T) (hr.mono (by omega)) (by rfl) (sa_cons (so_E (se_slHi (so_N 4 (pv 4)) (so_E se_int))) sa_nil))) sv_nil))) (sv_cons (se_FzN 2 (pv 2)) sv_nil))))))))) (so_E (se_call bx_tk (fb_L_draw T) (hr.mono (by omega)) (by rfl) (sa_cons (so_N 1 (pv 1)) (sa_cons (so_E se_int) sa_nil)))) (by intro _ _; rfl)) sc_law.nd rfl (Or.inl rfl) (by decide) (by rfl) (.inl rfl))
  (sss_one (ss_ret (se_and (se_call bx_tk (fb_L_refused T) (hr.mono (by omega)) (by rfl) (sa_cons (so_N 5 (pv 5)) sa_nil)) (se_one (se_call bx_tk (fb_L_there_and_back T) (hr.mono (by omega)) (by rfl) (sa_cons (so_N 2 (pv 2)) sa_nil))))))))))))

theorem fn_law (T : Tx P w K mg base aBadLine aBadThing aRateError) {f : Addr} {fd : FuncData} (F : L2.Fun K "law" "law" s_law f fd) : FnOk P w K mg base (L2.CX P w) 11 f fd ["script"] (spB K mg 1 C_law) :=
  fk_of (N := ["script", "d", "graph", "other", "lines", "odd"]) (ps := ["script"]) (pn := [0]) (m := m_law) (k := 10) F sc_law fun cdv A outer s H E hr => (sss_cons (ss_set 1 (se_call bx_tk (fb_L_begin T) (hr.mono (by omega)) (by rfl) (sa_cons (so_N 0 (pv 0)) sa_nil)) sc_law.nd rfl (Or.inl rfl) (by decide) (by rfl) (.inl rfl))
  (sss_cons (ss_set 2 (se_call bx_tk (fb_L_free_graph T) (hr.mono (by omega)) (by rfl) (sa_cons (so_N 1 (pv 1)) sa_nil)) sc_law.nd rfl (Or.inl rfl) (by decide) (by rfl) (.inl rfl))
  (sss_cons (ss_set 3 (se_call bx_tk (fb_L_near T) (hr.mono (by omega)) (by rfl) (sa_cons (so_N 1 (pv 1)) (sa_cons (so_N 2 (pv 2)) sa_nil))) sc_law.nd rfl (Or.inl rfl) (by decide) (by rfl) (.inl rfl))
  (sss_cons (ss_if (st_bool (sw_or (st_not (st_val (se_call bx_tk (fb_L_there_and_back T) (hr.mono (by omega)) (by rfl) (sa_cons (so_N 2 (pv 2)) sa_nil)))) (sw_or1 (st_not (st_val (se_call bx_tk (fb_L_there_and_back T) (hr.mono (by omega)) (by rfl) (sa_cons (so_N 3 (pv 3)) sa_nil))))))) (sss_one (ss_ret se_bl)) sss_nil)
  (sss_cons (ss_set 4 (se_call bx_tk (fb_L_graph_lines T) (hr.mono (by omega)) (by rfl) (sa_cons (so_N 2 (pv 2)) sa_nil)) sc_law.nd rfl (Or.inl rfl) (by decide) (by rfl) (.inl rfl))
  (sss_cons (ss_set 5 (se_ix ix_seq vo_ix (so_E (se_lst (sv_cons se_non (sv_cons se_int (sv_cons se_bl (sv_cons (se_tup sv_nil) (sv_cons (se_tup (sv_cons (se_fz (se_call bx_tk (fb_L_text T) (hr.mono (by omega)) (by rfl) (sa_cons (so_N 4 (pv 4)) sa_nil))) sv_nil)) (sv_cons (se_fz (se_lst (sv_cons (se_fz (se_call bx_tk (fb_L_text T) (hr.mono (by omega)) (by rfl) (sa_cons (so_E (se_slHi (so_N 4 (pv 4)) (so_E se_int))) sa_nil))) sv_nil))) (sv_cons (se_FzN 2 (pv 2)) sv_nil))))))))) (so_E (se_call bx_tk (fb_L_draw T) (hr.mono (by omega)) (by rfl) (sa_cons (so_N 1 (pv 1)) (sa_cons (so_E se_int) sa_nil)))) (by intro _ _; rfl)) sc_law.nd rfl (Or.inl rfl) (by decide) (by rfl) (.inl rfl))
  (sss_one (ss_ret (se_and (se_call bx_tk (fb_L_refused T) (hr.mono (by omega)) (by rfl) (sa_cons (so_N 5 (pv 5)) sa_nil)) (se_one (se_call bx_tk (fb_L_there_and_back T) (hr.mono (by omega)) (by rfl) (sa_cons (so_N 2 (pv 2)) sa_nil))))))))))))

end K02
set_option maxHeartbeats 4000000
namespace K02
open PySem PySem.Spec PyProof.Rows L2 Bv
set_option maxHeartbeats 4000000



/-! ### the plain law: the drawing -/
def encD (ns : List Int) (p q st : Int) : PV := .lst true [.lst false (ns.map PV.int), .int p, .int q, .int st, .int 3]
def DOK (d : PV) : Prop := ∃ ns p q st, d = encD ns p q st ∧ ns.length ≤ 63 ∧ 0 ≤ p ∧ 0 ≤ q ∧ 0 ≤ st ∧ st < 2147483647
theorem DOK.own {d : PV} (h : DOK d) : d.own = true := by
  obtain ⟨ns, p, q, st, rfl, _⟩ := h
  rfl
theorem begin_ok (o : Bool) (ns : List Int) (h : ns.length ≤ 63) : ∃ d y, C_L_begin [.lst o (ns.map PV.int)] = .ok d [y] ∧ DOK d := by
  have hc : ∀ s : Sl, ∀ acc, (∃ y, s = [y, none]) → compL (t1 1) mYes (mOp pInt1 (oCons (oN 1) oNil)) [1] (ns.map PV.int) s acc = .ok (acc ++ (ns.map PV.int).map id) s := fun s acc hs => by
    obtain ⟨y, rfl⟩ := hs
    refine compL_map (fun x hx => ?_) acc
    obtain ⟨i, _, rfl⟩ := List.mem_map.mp hx
    exact ⟨[y, some (.int i)], [y, some (.int i)], rfl, by simp, by simp⟩
  have hl : ns.length ≤ LIM := by unfold LIM; omega
  cases o with
  | true =>
    refine ⟨encD ns 0 0 7, .lst true (ns.map PV.int), ?_, ns, 0, 0, 7, rfl, h, by decide, by decide, by decide, by decide⟩
    simp [C_L_begin, runB, m_L_begin, encD, hl, hc, LIM]
  | false =>
    refine ⟨encD ns 0 0 7, .lst false (ns.map PV.int), ?_, ns, 0, 0, 7, rfl, h, by decide, by decide, by decide, by decide⟩
    simp [C_L_begin, runB, m_L_begin, encD, hl, hc, LIM]
theorem draw_ok {d : PV} {many : Int} (hd : DOK d) (h0 : 0 < many) (h1 : many < 1073741824) : ∃ r d', C_L_draw [d, .int many] = .ok (.int r) [d', .int many] ∧ 0 ≤ r ∧ r < many ∧ DOK d' := by
  obtain ⟨ns, p, q, st, rfl, hl, hp, hq, hs, hs2⟩ := hd
  by_cases hq0 : 0 < q
  · refine ⟨q % many, encD ns p (q / many) st, ?_, Int.emod_nonneg _ (by omega), Int.emod_lt_of_pos _ h0, ⟨ns, p, _, st, rfl, hl, hp, Int.ediv_nonneg hq (by omega), hs, hs2⟩⟩
    simp [C_L_draw, runB, m_L_draw, encD, hq0, h0, h1, ixN]
  · have e0 : q = 0 := by omega
    subst e0
    have fin : ∀ (st' p' : Int), 0 ≤ st' → st' < 2147483647 → 0 ≤ p' → (0 ≤ st' / 16 % many ∧ st' / 16 % many < many ∧ DOK (encD ns p' 0 st')) := fun st' p' a b c => ⟨Int.emod_nonneg _ (by omega), Int.emod_lt_of_pos _ h0, ns, p', 0, st', rfl, hl, c, by omega, a, b⟩
    by_cases hc : p < ns.length
    · obtain ⟨c, hcell⟩ : ∃ c, ns[p.toNat]? = some c := ⟨_, List.getElem?_eq_getElem (by omega)⟩
      have hix : atI (ns.map PV.int) p = some (.int c) := atI_of hp (by rw [List.getElem?_map, hcell]; rfl)
      obtain ⟨size, hsize⟩ : ∃ size : Int, (2 * (if c < 0 then -c else c) + if c < 0 then 1 else 0) = size := ⟨_, rfl⟩
      by_cases hb : (2000000000000000000 : Int) ≤ size
      · simp [C_L_draw, runB, m_L_draw, encD, h0, h1, ixN, hc, hix, hsize, hb, big6000_pos]
        exact ⟨_, _, ⟨rfl, rfl⟩, Int.emod_nonneg _ (by omega), Int.emod_lt_of_pos _ h0, ns, p + 1, _, st, rfl, hl, by omega, Int.ediv_nonneg (Int.emod_nonneg _ (by have := big6000_pos; omega)) (by omega), hs, hs2⟩
      · simp [C_L_draw, runB, m_L_draw, encD, h0, h1, ixN, hc, hix, hsize, hb]
        exact ⟨_, _, ⟨rfl, rfl⟩, fin _ _ (Int.emod_nonneg _ (by decide)) (Int.emod_lt_of_pos _ (by decide)) (by omega)⟩
    · simp [C_L_draw, runB, m_L_draw, encD, h0, h1, ixN, hc]
      exact ⟨_, _, ⟨rfl, rfl⟩, fin _ _ (Int.emod_nonneg _ (by decide)) (Int.emod_lt_of_pos _ (by decide)) (by omega)⟩
theorem rare_ok {d : PV} {many : Int} (hd : DOK d) (h0 : 0 < many) (h1 : many < 1073741824) : ∃ b d', C_L_rare [d, .int many] = .ok (.bl b) [d', .int many] ∧ DOK d' := by
  obtain ⟨r, d', e, _, _, h⟩ := draw_ok hd h0 h1
  refine ⟨decide (r = many / 2), d', ?_, h⟩
  have hz := hd.own
  have hz' := h.own
  simp [C_L_rare, runB, m_L_rare, hz, hz', e]
/-- pick of a list that is shared, or owned, or of a tuple -/
theorem pickT_ok {d : PV} {xs : List PV} (hd : DOK d) (h0 : xs ≠ []) (h1 : xs.length < 1073741824) (hn : PV.owns xs = false) : ∃ x d', C_L_pick [d, .tup xs] = .ok x [d', .tup xs] ∧ x ∈ xs ∧ DOK d' := by
  have hp : 0 < xs.length := List.length_pos_iff.mpr h0
  obtain ⟨r, d', e, r0, r1, h⟩ := draw_ok (many := xs.length) hd (by omega) (by omega)
  have hx : xs[r.toNat]? = some xs[r.toNat] := List.getElem?_eq_getElem (by omega)
  have hxo : (xs[r.toNat]).own = false := owns_mem hn (List.getElem_mem _)
  refine ⟨xs[r.toNat], d', ?_, List.getElem_mem _, h⟩
  have hz := hd.own
  have hz' := h.own
  simp [C_L_pick, runB, m_L_pick, hz, hz', e, hn, atI_of r0 hx, hxo]
theorem pickL_ok {d : PV} {o : Bool} {xs : List PV} (hd : DOK d) (h0 : xs ≠ []) (h1 : xs.length < 1073741824) (hn : PV.owns xs = false) : ∃ x d', C_L_pick [d, .lst o xs] = .ok x [d', .lst o xs] ∧ x ∈ xs ∧ DOK d' := by
  have hp : 0 < xs.length := List.length_pos_iff.mpr h0
  obtain ⟨r, d', e, r0, r1, h⟩ := draw_ok (many := xs.length) hd (by omega) (by omega)
  have hx : xs[r.toNat]? = some xs[r.toNat] := List.getElem?_eq_getElem (by omega)
  have hxo : (xs[r.toNat]).own = false := owns_mem hn (List.getElem_mem _)
  refine ⟨xs[r.toNat], d', ?_, List.getElem_mem _, h⟩
  have hz := hd.own
  have hz' := h.own
  cases o <;> simp [C_L_pick, runB, m_L_pick, hz, hz', e, hn, atI_of r0 hx, hxo]
noncomputable def bodySh : MS := mDrop (mMeth 3 fApp (vCons (mFz (mMeth 2 fPopAt (vCons (mFz (mCallN 2 C_L_draw (oCons (oN 0) (oCons (oE (mOp pLen (oCons (oN 2) (oNil)))) (oNil))))) (vNil)))) (vNil)))
theorem bodySh_ok {left found : List PV} {d d1 : PV} {a1 a4 : Option PV} {r : Int} (z1 : d.own = true) (z2 : d1.own = true) (e : C_L_draw [d, .int left.length] = .ok (.int r) [d1, .int left.length]) (r0 : 0 ≤ r) (r1 : r < left.length) (hl : left.length ≤ 1000) {x : PV} (hx : left[r.toNat]? = some x) (hxo : x.own = false) (hf : found.length ≤ 1000) :
    bodySh [some d, a1, some (.lst true left), some (.lst true found), a4] = .nx [some d1, a1, some (.lst true (left.eraseIdx r.toNat)), some (.lst true (found ++ [x])), a4] := by
  have z3 : -9223372036854775808 ≤ r := by omega
  have z4 : r < 9223372036854775808 := by omega
  have z5 := seqIx r0 r1
  have z6 : found.length < LIM := by unfold LIM; omega
  have hfz : frzP x = some x := frz_id hxo
  simp [bodySh, z1, z2, e, z3, z4, z5, hfz, z6, hxo, hx]
theorem loopSh : ∀ (k : Nat) (left found : List PV) (d : PV) (a1 a4 : Option PV), DOK d → left.length = k → PV.owns left = false → found.length + k ≤ 1000 → ∀ is : List PV, is.length = k →
      ∃ ys d' a4', forL (t1 4) bodySh is [some d, a1, some (.lst true left), some (.lst true found), a4] = .nx [some d', a1, some (.lst true []), some (.lst true (found ++ ys)), a4'] ∧ ys.Perm left ∧ DOK d' := by
  intro k
  induction k with
  | zero =>
    intro left found d a1 a4 hd hl ho hf is his
    have e1 : left = [] := List.eq_nil_of_length_eq_zero hl
    have e2 : is = [] := List.eq_nil_of_length_eq_zero his
    subst e1; subst e2
    exact ⟨[], d, a4, by simp [forL], .nil, hd⟩
  | succ k ih =>
    intro left found d a1 a4 hd hl ho hf is his
    match is, his with
    | i :: is, his =>
      obtain ⟨r, d1, e, r0, r1, hd1⟩ := draw_ok (many := left.length) hd (by omega) (by omega)
      have hr : r.toNat < left.length := by omega
      have hx : left[r.toNat]? = some left[r.toNat] := List.getElem?_eq_getElem hr
      have hxo : (left[r.toNat]).own = false := owns_mem ho (List.getElem_mem _)
      obtain ⟨ys, d', a4', e2, p2, hd2⟩ := ih (left.eraseIdx r.toNat) (found ++ [left[r.toNat]]) d1 a1 (some i) hd1 (by rw [List.length_eraseIdx, if_pos hr]; omega) (owns_of fun x hx => owns_mem ho (List.mem_of_mem_eraseIdx hx)) (by simp; omega) is (by simpa using his)
      refine ⟨left[r.toNat] :: ys, d', a4', ?_, (List.Perm.cons _ p2).trans (perm_erase_cons hr), hd2⟩
      have eb := bodySh_ok (a1 := a1) (a4 := some i) hd.own hd1.own e r0 r1 (by omega) hx hxo (found := found) (by omega)
      show (match bodySh [some d, a1, some (.lst true left), some (.lst true found), some i] with
        | .nx s2 => forL (t1 4) bodySh is s2
        | .ct s2 => forL (t1 4) bodySh is s2
        | .bk s2 => .nx s2
        | .rt y s2 => .rt y s2
        | .exc y s2 => .exc y s2
        | .bad => .bad) = _
      rw [eb]
      show forL (t1 4) bodySh is _ = _
      rw [e2, List.append_assoc]
      rfl
theorem shuffled_ok {d : PV} {o : Bool} {xs : List PV} (hd : DOK d) (h1 : xs.length ≤ 1000) (hn : PV.owns xs = false) : ∃ ys d', C_L_shuffled [d, .lst o xs] = .ok (.lst true ys) [d', .lst o xs] ∧ ys.Perm xs ∧ DOK d' := by
  obtain ⟨ys, d', a4', e, p, hd'⟩ := loopSh xs.length xs [] d (some (.lst o xs)) none hd rfl hn (by simp; omega) (rngP xs.length) (by simp)
  refine ⟨ys, d', ?_, p, hd'⟩
  have z1 := hd.own
  have z2 := hd'.own
  have z3 : itRng1 [.int xs.length] = some (rngP xs.length) := it_nat (by omega) (by omega)
  rw [List.nil_append] at e
  unfold bodySh at e
  cases o <;> simp [C_L_shuffled, runB, m_L_shuffled, z1, z2, hn, z3, e]

abbrev Sg (l : List Nat) : Str := _root_.SX.S l
def poolC : List (List Nat) := [[97], [98, 50], [115, 117, 109], [108, 101, 102, 116], [114], [107, 48], [99, 97, 114, 114, 121], [122, 57, 122], [102, 117, 108, 108], [116, 97, 105, 108], [110], [109, 56], [97, 97], [98, 117, 115, 121], [99, 110, 116], [112], [116, 52], [101, 118, 101, 110, 50], [97, 98, 49], [104, 101, 97, 100], [117], [118, 50], [119], [108, 111, 119, 101, 115, 116], [104, 105, 103, 104], [109, 105, 100], [115], [116], [101], [102], [103], [104], [105], [106], [107], [120], [121], [113, 55], [100, 101, 101, 112], [116, 117, 114, 110], [103, 97, 116, 101], [108, 53], [104, 111, 108, 100], [110, 101, 120, 116, 49], [111], [99, 48], [100], [116, 119, 111], [122, 122, 49], [110, 101, 97, 114], [102, 97, 114, 57], [108, 97, 115, 116], [114, 105, 110, 103, 50], [97, 97, 97, 97, 97, 97, 97, 56], [98], [99, 49], [116, 111, 112, 50], [110, 101, 116, 51], [114, 111, 119], [99, 111, 108, 55], [118]]
def poolS : List Str := poolC.map Sg
def keyC : List (List Nat) := [[98, 108, 111, 99, 107], [113, 117, 101, 117, 101], [116, 105, 109, 101, 115], [100, 101, 101, 100], [103, 105, 118, 101, 115], [116, 97, 114, 103, 101, 116], [116, 97, 107, 101, 115], [115, 116, 97, 114, 116], [112, 97, 114, 116], [106, 111, 105, 110, 116], [119, 105, 114, 101], [98, 97, 99, 107], [115, 101, 108, 102], [114, 105, 103, 104, 116], [108, 101, 102, 116], [115, 111, 117, 114, 99, 101]]
def keyS : List Str := keyC.map Sg
def tA : List Nat := [97, 32, 98, 50, 32, 115, 117, 109, 32, 108, 101, 102, 116, 32, 114, 32, 107, 48, 32, 99, 97, 114, 114, 121, 32, 122, 57, 122, 32, 102, 117, 108, 108, 32, 116, 97, 105, 108, 32, 110, 32, 109, 56, 32, 97, 97, 32, 98, 117, 115, 121, 32, 99, 110, 116, 32, 112, 32, 116, 52, 32, 101, 118, 101, 110, 50, 32, 97, 98, 49, 32, 104, 101, 97, 100, 32, 117, 32, 118, 50, 32, 119, 32, 108, 111, 119, 101, 115, 116, 32, 104, 105, 103, 104, 32, 109, 105, 100, 32]
def tB : List Nat := [115, 32, 116, 32, 101, 32, 102, 32, 103, 32, 104, 32, 105, 32, 106, 32, 107, 32, 120, 32, 121, 32, 113, 55, 32, 100, 101, 101, 112, 32, 116, 117, 114, 110, 32, 103, 97, 116, 101, 32, 108, 53, 32, 104, 111, 108, 100, 32, 110, 101, 120, 116, 49, 32, 111, 32, 99, 48, 32, 100, 32, 116, 119, 111, 32, 122, 122, 49, 32, 110, 101, 97, 114, 32, 102, 97, 114, 57, 32, 108, 97, 115, 116, 32, 114, 105, 110, 103, 50, 32]
def tC : List Nat := [97, 97, 97, 97, 97, 97, 97, 56, 32, 98, 32, 99, 49, 32, 116, 111, 112, 50, 32, 110, 101, 116, 51, 32, 114, 111, 119, 32, 99, 111, 108, 55, 32, 118]
def tK : List Nat := [98, 108, 111, 99, 107, 32, 113, 117, 101, 117, 101, 32, 116, 105, 109, 101, 115, 32, 100, 101, 101, 100, 32, 103, 105, 118, 101, 115, 32, 116, 97, 114, 103, 101, 116, 32, 116, 97, 107, 101, 115, 32, 115, 116, 97, 114, 116, 32, 112, 97, 114, 116, 32, 106, 111, 105, 110, 116, 32, 119, 105, 114, 101, 32, 98, 97, 99, 107, 32, 115, 101, 108, 102, 32, 114, 105, 103, 104, 116, 32, 108, 101, 102, 116, 32, 115, 111, 117, 114, 99, 101]
theorem lit_a : ("a b2 sum left r k0 carry z9z full tail n m8 aa busy cnt p t4 even2 ab1 head u v2 w lowest high mid " : Str) = Sg tA := by decide +kernel
theorem lit_b : ("s t e f g h i j k x y q7 deep turn gate l5 hold next1 o c0 d two zz1 near far9 last ring2 " : Str) = Sg tB := by decide +kernel
theorem lit_c : ("aaaaaaa8 b c1 top2 net3 row col7 v" : Str) = Sg tC := by decide +kernel
theorem lit_k : ("block queue times deed gives target takes start part joint wire back self right left source" : Str) = Sg tK := by decide +kernel
theorem lit_sp : (" " : Str) = Sg [32] := by decide +kernel
theorem spl_pool : TL.spl [32] 0 [] (tA ++ (tB ++ tC)) = poolC := by decide +kernel
theorem spl_key : TL.spl [32] 0 [] tK = keyC := by decide +kernel
theorem pp_addS (a b : List Nat) (h : a.length + b.length ≤ LIM) : pAdd [.str (Sg a), .str (Sg b)] = some (.str (Sg (a ++ b))) := by
  show (if (Sg a).length + (Sg b).length ≤ LIM then some (PV.str (Sg a ++ Sg b)) else none) = _
  rw [_root_.SX.S_len, _root_.SX.S_len, if_pos h, _root_.SX.S_cat]
theorem pp_split32 (a : List Nat) (p : List (List Nat)) (h : a.length + 2 ≤ LIM) (e : TL.spl [32] 0 [] a = p) (h2 : p.length ≤ LIM) : pSplit [.str (Sg a), .str (Sg [32])] = some (.lst true ((p.map Sg).map .str)) := by
  have e1 : Txt.split (Sg a) (Sg [32]) = p.map Sg := by rw [_root_.SX.split_S (by simp) (by decide), e]
  show (if ((Sg [32]).length == 0) = false ∧ (Sg a).length + 2 ≤ LIM ∧ (Txt.split (Sg a) (Sg [32])).length ≤ LIM then some (PV.lst true ((Txt.split (Sg a) (Sg [32])).map .str)) else none) = _
  rw [e1, _root_.SX.S_len, if_pos ⟨rfl, h, by rw [List.length_map]; exact h2⟩]
@[simp] theorem ap_str1 (f : List PV → Option PV) (mo : M PV) (oe : M Pnd) (s : Sl) : mStr1 f mo oe s = (mo s).bind fun x s1 => match x with
  | .str a => (oe s1).bind fun p s2 => (match Pnd.gets s2 [.val (.str a), p] with
    | some xs => (match f xs with | some z => .ok z s2 | none => .bad)
    | none => .bad)
  | _ => .bad := Eq.trans rfl rfl
theorem pool_ok : C_L_pool [] = .ok (.lst true (poolS.map .str)) [] := by
  have l1 := lim_le (n := 190) (by decide)
  simp only [C_L_pool, m_L_pool, lit_a, lit_b, lit_c, lit_sp]
  simp [runB, ap_str1]
  rw [pp_addS _ _ (lim_le (by decide))]
  simp
  rw [pp_addS _ _ (lim_le (by decide)), List.append_assoc]
  simp
  rw [pp_split32 _ poolC (lim_le (by decide)) spl_pool (lim_le (by decide))]
  rfl
theorem keys_ok : C_L_key_words [] = .ok (.lst true (keyS.map .str)) [] := by
  simp only [C_L_key_words, m_L_key_words, lit_k, lit_sp]
  simp [runB, ap_str1]
  rw [pp_split32 _ keyC (lim_le (by decide)) spl_key (lim_le (by decide))]
  rfl

theorem num_ok {d : PV} {high : Int} (hd : DOK d) (h0 : 0 ≤ high) (h1 : high < 1000000) : ∃ i d', C_L_free_number [d, .int high] = .ok (.int i) [d', .int high] ∧ 0 ≤ i ∧ i ≤ high ∧ DOK d' := by
  obtain ⟨r, d1, e, r0, r1, hd1⟩ := draw_ok (many := 5) hd (by omega) (by omega)
  obtain ⟨r2, d2, e2, r20, r21, hd2⟩ := draw_ok (many := high + 1) hd1 (by omega) (by omega)
  have z1 := hd.own
  have z2 := hd1.own
  have z3 := hd2.own
  by_cases c0 : r = 0
  · subst c0
    exact ⟨0, d1, by simp [C_L_free_number, runB, m_L_free_number, z1, z2, e], by omega, by omega, hd1⟩
  · by_cases c1 : r = 1
    · subst c1
      exact ⟨high, d1, by simp [C_L_free_number, runB, m_L_free_number, z1, z2, e], by omega, by omega, hd1⟩
    · by_cases c2 : r = 2
      · subst c2
        exact ⟨r2, d2, by simp [C_L_free_number, runB, m_L_free_number, z1, z2, z3, e, e2], by omega, by omega, hd2⟩
      · by_cases c3 : high ≤ 11
        · have hm : pMin2 [.int high, .int 11] = some (.int high) := by unfold pMin2; simp; omega
          exact ⟨r2, d2, by simp [C_L_free_number, runB, m_L_free_number, z1, z2, z3, e, e2, c0, c1, c2, hm], by omega, by omega, hd2⟩
        · have hm : pMin2 [.int high, .int 11] = some (.int 11) := by unfold pMin2; simp; omega
          obtain ⟨r3, d3, e3, r30, r31, hd3⟩ := draw_ok (many := 12) hd1 (by omega) (by omega)
          have z4 := hd3.own
          exact ⟨r3, d3, by simp [C_L_free_number, runB, m_L_free_number, z1, z2, z3, z4, e, e3, c0, c1, c2, hm], by omega, by omega, hd3⟩
/-- numbers within -/
def NumsP (high : Int) (l : List Int) : Prop := ∀ i ∈ l, 0 ≤ i ∧ i ≤ high
theorem nums_ok {d : PV} {high : Int} {many : Nat} (hd : DOK d) (h0 : 0 ≤ high) (h1 : high < 1000000) (hm : many ≤ 1000) : ∃ l d', C_L_free_numbers [d, .int many, .int high] = .ok (.tup (l.map PV.int)) [d', .int many, .int high] ∧ l.length = many ∧ NumsP high l ∧ DOK d' := by
  have key : ∀ (xs : List PV) (d : PV) (a : PV) (acc : List PV), DOK d → ∃ l d', compL (t1 3) mYes (mFz (mCallN 2 C_L_free_number (oCons (oN 0) (oCons (oN 2) (oNil))))) [3] xs [some d, some a, some (.int high), none] acc = .ok (acc ++ l.map PV.int) [some d', some a, some (.int high), none] ∧ l.length = xs.length ∧ NumsP high l ∧ DOK d' := by
    intro xs
    induction xs with
    | nil => intro d a acc hd; exact ⟨[], d, by simp [compL], rfl, fun i hi => by simp at hi, hd⟩
    | cons x xs ih =>
      intro d a acc hd
      obtain ⟨i, d1, e, i0, i1, hd1⟩ := num_ok hd h0 h1
      obtain ⟨l, d', e2, hl, hn, hd'⟩ := ih d1 a (acc ++ [.int i]) hd1
      have z1 := hd.own
      have z2 := hd1.own
      refine ⟨i :: l, d', ?_, by simp [hl], fun j hj => ?_, hd'⟩
      · simp [compL, z1, z2, e, e2]
      · rcases List.mem_cons.mp hj with rfl | hj
        · exact ⟨i0, i1⟩
        · exact hn j hj
  obtain ⟨l, d', e, hl, hn, hd'⟩ := key (rngP many) d (.int many) [] hd
  have z1 := hd.own
  have z2 := hd'.own
  have z3 : itRng1 [.int many] = some (rngP many) := it_nat (by omega) (by omega)
  have z4 : many ≤ LIM := lim_le (by omega)
  refine ⟨l, d', ?_, by simpa using hl, hn, hd'⟩
  simp [C_L_free_numbers, runB, m_L_free_numbers, z1, z2, z3, e, z4]
theorem sum_ints : ∀ (l : List Int) , (l.map PV.int).length = l.length := fun l => by simp
def RatesP (size : Nat) (l : List Int) : Prop := l.length = size ∧ NumsP 12 l ∧ 0 < l.sum
theorem sum_nonneg : ∀ {l : List Int}, (∀ i ∈ l, 0 ≤ i) → 0 ≤ l.sum
  | [], _ => by simp
  | x :: l, h => by
    have := sum_nonneg (l := l) fun i hi => h i (List.mem_cons_of_mem _ hi)
    have := h x List.mem_cons_self
    rw [List.sum_cons]; omega
theorem sum_set_pos : ∀ {l : List Int} {n : Nat} {v : Int}, (∀ i ∈ l, 0 ≤ i) → n < l.length → 0 < v → 0 < (l.set n v).sum
  | [], _, _, _, h, _ => by simp at h
  | x :: l, 0, v, h, _, hv => by
    have := sum_nonneg (l := l) fun i hi => h i (List.mem_cons_of_mem _ hi)
    rw [List.set_cons_zero, List.sum_cons]; omega
  | x :: l, n + 1, v, h, hn, hv => by
    have := sum_set_pos (l := l) (n := n) (v := v) (fun i hi => h i (List.mem_cons_of_mem _ hi)) (by simpa using hn) hv
    have := h x List.mem_cons_self
    rw [List.set_cons_succ, List.sum_cons]; omega

theorem ints_of : ∀ l : List Int, intsP (l.map PV.int) = some l
  | [] => rfl
  | x :: l => by
    have := ints_of l
    simp [intsP, this]
theorem sum_of (o : Bool) (l : List Int) : pSum [.lst o (l.map PV.int)] = some (.int l.sum) := by
  show (intsP (l.map PV.int)).map _ = _
  rw [ints_of]; rfl
theorem sum_ofT (l : List Int) : pSum [.tup (l.map PV.int)] = some (.int l.sum) := by
  show (intsP (l.map PV.int)).map _ = _
  rw [ints_of]; rfl
theorem ixN_of {n : Nat} {i : Int} (h0 : 0 ≤ i) (h1 : i < n) : ixN n i = some i.toNat := by
  unfold ixN; rw [if_pos h0, if_pos h1]
theorem set_ints (l : List Int) (n : Nat) (v : Int) : (l.map PV.int).set n (.int v) = (l.set n v).map PV.int := by
  rw [List.map_set]
theorem rates_ok {d : PV} {size : Nat} (hd : DOK d) (h0 : 0 < size) (h1 : size ≤ 1000) : ∃ l d', C_L_free_rates [d, .int size] = .ok (.tup (l.map PV.int)) [d', .int size] ∧ RatesP size l ∧ DOK d' := by
  obtain ⟨l, d1, e, hl, hn, hd1⟩ := nums_ok (high := 12) (many := size) hd (by omega) (by omega) h1
  have z1 := hd.own
  have z2 := hd1.own
  have hs := sum_of true l
  have nn : 0 ≤ l.sum := sum_nonneg fun i hi => (hn i hi).1
  by_cases c : l.sum = 0
  · obtain ⟨v, d2, e2, v0, v1, hd2⟩ := draw_ok (many := 12) hd1 (by omega) (by omega)
    obtain ⟨k, d3, e3, k0, k1, hd3⟩ := draw_ok (many := size) hd2 (by omega) (by omega)
    have z3 := hd2.own
    have z4 := hd3.own
    have zi : ixN l.length k = some k.toNat := ixN_of k0 (by omega)
    have zo : PV.owns ((l.map PV.int).set k.toNat (.int (1 + v))) = false := by rw [set_ints]; exact owns_ints _
    rw [c] at hs
    refine ⟨l.set k.toNat (1 + v), d3, ?_, ⟨by simp [hl], fun i hi => ?_, sum_set_pos (fun i hi => (hn i hi).1) (by omega) (by omega)⟩, hd3⟩
    · simp [C_L_free_rates, runB, m_L_free_rates, z1, z2, z3, z4, e, e2, e3, hs, zi, zo]
    · rcases List.mem_or_eq_of_mem_set hi with h | h
      · exact hn i h
      · subst h; omega
  · refine ⟨l, d1, ?_, ⟨hl, hn, by omega⟩, hd1⟩
    simp [C_L_free_rates, runB, m_L_free_rates, z1, z2, e, hs, c]
theorem start_ok {d : PV} (hd : DOK d) : ∃ l d', C_L_free_start [d] = .ok (.tup (l.map PV.int)) [d'] ∧ l.length ≤ 60 ∧ NumsP 9972 l ∧ DOK d' := by
  obtain ⟨a, d1, e1, a0, a1, hd1⟩ := draw_ok (many := 2) hd (by omega) (by omega)
  obtain ⟨b, d2, e2, b0, b1, hd2⟩ := draw_ok (many := 5) hd1 (by omega) (by omega)
  obtain ⟨c, d3, e3, hd3⟩ := rare_ok (many := 9) hd2 (by omega) (by omega)
  obtain ⟨f, d4, e4, f0, f1, hd4⟩ := draw_ok (many := 2) hd3 (by omega) (by omega)
  have z0 := hd.own
  have z1 := hd1.own
  have z2 := hd2.own
  have z3 := hd3.own
  have z4 := hd4.own
  have sm : Bv.small64 a = true := sm_of (by omega) (by omega)
  cases c with
  | true =>
    obtain ⟨l, d5, e5, hl, hn, hd5⟩ := nums_ok (high := 9972) (many := (60 - f).toNat) hd4 (by omega) (by omega) (by omega)
    have z5 := hd5.own
    have ez : (((60 - f).toNat : Nat) : Int) = 60 - f := by omega
    rw [ez] at e5
    refine ⟨l, d5, ?_, by omega, hn, hd5⟩
    simp [C_L_free_start, runB, m_L_free_start, z0, z1, z2, z3, z4, z5, e1, e2, e3, e4, e5, sm]
  | false =>
    have hab : 0 ≤ a * b ∧ a * b ≤ 4 := by
      rcases (by omega : a = 0 ∨ a = 1) with rfl | rfl <;> omega
    obtain ⟨l, d5, e5, hl, hn, hd5⟩ := nums_ok (high := 9972) (many := (a * b).toNat) hd3 (by omega) (by omega) (by omega)
    have z5 := hd5.own
    have ez : (((a * b).toNat : Nat) : Int) = a * b := by omega
    rw [ez] at e5
    refine ⟨l, d5, ?_, by omega, hn, hd5⟩
    simp [C_L_free_start, runB, m_L_free_start, z0, z1, z2, z3, z5, e1, e2, e3, e5, sm]

def LETC : List Nat := [97, 98, 99, 100, 101, 102, 103, 104, 105, 106, 107, 108, 109, 110, 111, 112, 113, 114, 115, 116, 117, 118, 119, 120, 121, 122]
def SIGC : List Nat := [97, 98, 99, 100, 101, 102, 103, 104, 105, 106, 107, 108, 109, 110, 111, 112, 113, 114, 115, 116, 117, 118, 119, 120, 121, 122, 48, 49, 50, 51, 52, 53, 54, 55, 56, 57, 95, 46]
theorem lit_sig : ("abcdefghijklmnopqrstuvwxyz0123456789_." : Str) = Sg SIGC := by decide +kernel
theorem lit_let : ("abcdefghijklmnopqrstuvwxyz" : Str) = Sg LETC := by decide +kernel
/-- a name: its signs -/
def nameB : List Nat → Bool
  | [] => false
  | c :: r => decide (c ∈ LETC) && decide ((c :: r).length ≤ 16) && (c :: r).all fun x => decide (x ∈ SIGC)
def NameOK (y : Str) : Prop := ∃ c, y = Sg c ∧ nameB c = true
theorem sig_small : ∀ c ∈ SIGC, c < 1114112 := by decide
theorem NameOK.strOk {y : Str} (h : NameOK y) : PyData.strOk y = true := by
  obtain ⟨c, rfl, h⟩ := h
  unfold PyData.strOk
  rw [Array.all_eq_true_iff_forall_mem]
  intro x hx
  have hx : x ∈ c := by simpa [_root_.SX.S] using hx
  cases c with
  | nil => simp at hx
  | cons a r =>
    simp only [nameB, Bool.and_eq_true, List.all_eq_true, decide_eq_true_eq] at h
    exact decide_eq_true (sig_small x (h.2 x hx))
theorem pool_names : ∀ y ∈ poolS, NameOK y := by
  have h : poolC.all nameB = true := by decide +kernel
  intro y hy
  obtain ⟨c, hc, rfl⟩ := List.mem_map.mp hy
  exact ⟨c, rfl, List.all_eq_true.mp h c hc⟩
theorem key_names : ∀ y ∈ keyS, NameOK y := by
  have h : keyC.all nameB = true := by decide +kernel
  intro y hy
  obtain ⟨c, hc, rfl⟩ := List.mem_map.mp hy
  exact ⟨c, rfl, List.all_eq_true.mp h c hc⟩
theorem nodup_map {α β : Type} {f : α → β} (hf : ∀ a b, f a = f b → a = b) : ∀ {l : List α}, l.Nodup → (l.map f).Nodup
  | [], _ => List.nodup_nil
  | x :: l, h => by
    rw [List.map_cons, List.nodup_cons]
    refine ⟨fun hm => ?_, nodup_map hf (List.nodup_cons.mp h).2⟩
    obtain ⟨z, hz, e⟩ := List.mem_map.mp hm
    exact (List.nodup_cons.mp h).1 (hf _ _ e ▸ hz)
theorem pool_nodup : poolS.Nodup := nodup_map (fun a b e => _root_.SX.S_inj e) (by decide +kernel : poolC.Nodup)
theorem pool_len : poolS.length = 61 := by decide +kernel
theorem key_len : keyS.length = 16 := by decide +kernel
theorem pigeon {α : Type} [DecidableEq α] : ∀ {l m : List α}, l.Nodup → (∀ x ∈ l, x ∈ m) → l.length ≤ m.length
  | [], _, _, _ => Nat.zero_le _
  | x :: l, m, hn, hs => by
    have hx : x ∈ m := hs x List.mem_cons_self
    have hn2 := List.nodup_cons.mp hn
    have := pigeon (l := l) (m := m.erase x) hn2.2 fun z hz => (List.mem_erase_of_ne (show z ≠ x from fun e => hn2.1 (by rw [← e]; exact hz))).mpr (hs z (List.mem_cons_of_mem _ hz))
    rw [List.length_erase_of_mem hx] at this
    have : 0 < m.length := List.length_pos_of_mem hx
    rw [List.length_cons]; omega
theorem ix_str {c : List Nat} {i : Int} {x : Nat} (h : c.length ≤ 16777216) (h0 : 0 ≤ i) (hx : c[i.toNat]? = some x) : pIx [.str (Sg c), .int i] = some (.str (Sg [x])) := by
  show (if (Sg c).length ≤ LIM then match atI (Sg c).cps.toList i with | some c => some (PV.str ⟨#[c]⟩) | none => none else none) = _
  rw [_root_.SX.S_len, if_pos (lim_le h), show (Sg c).cps.toList = c from rfl, atI_of h0 hx]
noncomputable def bodyN : MS := mAsg (mOp pAdd (oCons (oN 6) (oCons (oE (mOp pIx (oCons (oN 4) (oCons (oE (mCallN 2 C_L_draw (oCons (oN 0) (oCons (oE (mC (.int 38))) (oNil))))) oNil)))) oNil))) (t1 6)
theorem loopN : ∀ (is : List PV) (c : List Nat) (d : PV) (a1 a2 a3 a5 a7 a8 a9 : Option PV), DOK d → c.length + is.length ≤ 1000 →
    ∃ e d' a8', forL (t1 8) bodyN is [some d, a1, a2, a3, some (.str (Sg SIGC)), a5, some (.str (Sg c)), a7, a8, a9] = .nx [some d', a1, a2, a3, some (.str (Sg SIGC)), a5, some (.str (Sg (c ++ e))), a7, a8', a9] ∧ e.length = is.length ∧ (∀ x ∈ e, x ∈ SIGC) ∧ DOK d' := by
  intro is
  induction is with
  | nil =>
    intro c d a1 a2 a3 a5 a7 a8 a9 hd hl
    exact ⟨[], d, a8, by simp [forL], rfl, by simp, hd⟩
  | cons i is ih =>
    intro c d a1 a2 a3 a5 a7 a8 a9 hd hl
    rw [List.length_cons] at hl
    obtain ⟨r, d1, e1, r0, r1, hd1⟩ := draw_ok (many := 38) hd (by omega) (by omega)
    have hr : r.toNat < SIGC.length := by show r.toNat < 38; omega
    have hx : SIGC[r.toNat]? = some SIGC[r.toNat] := List.getElem?_eq_getElem hr
    have e3 := ix_str (c := SIGC) (by decide) r0 hx
    have e4 := pp_addS c [SIGC[r.toNat]] (lim_le (by simp; omega))
    have z1 := hd.own
    have z2 := hd1.own
    obtain ⟨e, d', a8', e5, hl2, hs, hd'⟩ := ih (c ++ [SIGC[r.toNat]]) d1 a1 a2 a3 a5 a7 (some i) a9 hd1 (by simp; omega)
    refine ⟨SIGC[r.toNat] :: e, d', a8', ?_, by simp [hl2], fun x hx => ?_, hd'⟩
    · have eb : bodyN [some d, a1, a2, a3, some (.str (Sg SIGC)), a5, some (.str (Sg c)), a7, some i, a9] = .nx [some d1, a1, a2, a3, some (.str (Sg SIGC)), a5, some (.str (Sg (c ++ [SIGC[r.toNat]]))), a7, some i, a9] := by
        simp [bodyN, z1, z2, e1, e3, e4]
      rw [List.append_cons, ← e5]
      simp only [forL, ap_t1, List.set_cons_succ, List.set_cons_zero, eb]
    · rcases List.mem_cons.mp hx with h | h
      · rw [h]; exact List.getElem_mem _
      · exact hs x h

/-- the end of the naming: a name that is taken is changed for one of the pool -/
noncomputable def tailN : MS := mSeq (mIf (mT (mOp (pIn false) (oCons (oN 6) (oCons (oN 1) oNil)))) (mSeq (mAsg (mComp (oCons (oE (mCallN 0 C_L_pool oNil)) oNil) itSeq (t1 3) (mT (mOp (pIn true) (oCons (oN 3) (oCons (oN 1) oNil)))) (mFzN 3) [3]) (t1 9))
  (mAsg (mOp pIx (oCons (oN 9) (oCons (oE (mC (.int 0))) oNil))) (t1 6))) (mNx))
  (mRet (mN 6))
theorem tailN_ok {y : Str} {tk : List Str} (hy : NameOK y) (ht : ∀ y ∈ tk, NameOK y) (hl : tk.length ≤ 60) (d : PV) (a2 a4 a5 a7 a8 : Option PV) :
    ∃ z a9, tailN [some d, some (.lst true (tk.map .str)), a2, none, a4, a5, some (.str y), a7, a8, none] = .rt (.str z) [some d, some (.lst true (tk.map .str)), a2, none, a4, a5, some (.str z), a7, a8, a9] ∧ NameOK z ∧ z ∉ tk := by
  have e1 := in_strs false true hy.strOk (ys := tk) fun y h => (ht y h).strOk
  by_cases c : y ∈ tk
  · have hf : compL (t1 3) (mT (mOp (pIn true) (oCons (oN 3) (oCons (oN 1) oNil)))) (mFzN 3) [3] (poolS.map PV.str) [some d, some (.lst true (tk.map .str)), a2, none, a4, a5, some (.str y), a7, a8, none] [] = .ok ([] ++ ((poolS.map PV.str).filter fun x => match x with | .str w => !decide (w ∈ tk) | _ => false).map id) [some d, some (.lst true (tk.map .str)), a2, none, a4, a5, some (.str y), a7, a8, none] := by
      refine compL_filter (fun x hx => ?_) []
      obtain ⟨w, hw, rfl⟩ := List.mem_map.mp hx
      have e2 := in_strs true true (pool_names w hw).strOk (ys := tk) fun y h => (ht y h).strOk
      refine ⟨[some d, some (.lst true (tk.map .str)), a2, some (.str w), a4, a5, some (.str y), a7, a8, none], [some d, some (.lst true (tk.map .str)), a2, some (.str w), a4, a5, some (.str y), a7, a8, none], [some d, some (.lst true (tk.map .str)), a2, some (.str w), a4, a5, some (.str y), a7, a8, none], by simp, by simp [e2], fun h => ⟨by simp, by simp⟩, fun _ => by simp⟩
    have hg : ((poolS.map PV.str).filter fun x => match x with | .str w => !decide (w ∈ tk) | _ => false) = (poolS.filter fun w => !decide (w ∈ tk)).map PV.str := by
      rw [List.filter_map]
      rfl
    rw [hg] at hf
    cases hp : poolS.filter fun w => !decide (w ∈ tk) with
    | nil =>
      exfalso
      have := pigeon (l := poolS) (m := tk) pool_nodup fun x hx => by
        have := List.filter_eq_nil_iff.mp hp x hx
        simpa using this
      rw [pool_len] at this
      omega
    | cons z r =>
      rw [hp] at hf
      have hz : z ∈ poolS.filter fun w => !decide (w ∈ tk) := by rw [hp]; exact List.mem_cons_self
      have hz2 := List.mem_filter.mp hz
      refine ⟨z, some (.lst true ((z :: r).map .str)), ?_, pool_names z hz2.1, by simpa using hz2.2⟩
      have hlim : (poolS.map PV.str).length ≤ LIM := by rw [List.length_map, pool_len]; exact lim_le (by decide)
      have hlim2 : poolS.length ≤ LIM := by rw [pool_len]; exact lim_le (by decide)
      simp [tailN, e1, c, pool_ok, hlim2]
      simp at hf
      rw [hf]
      simp
  · refine ⟨y, none, ?_, hy, c⟩
    simp [tailN, e1, c]

theorem strs_owns (l : List Str) : PV.owns (l.map PV.str) = false := owns_strs l
theorem lt_let {k : Nat} (h : k < 26) : ∃ x, SIGC[k]? = some x ∧ x ∈ LETC := by
  have : LETC[k]? = some LETC[k] := List.getElem?_eq_getElem (by show k < 26; exact h)
  refine ⟨LETC[k], ?_, List.getElem_mem _⟩
  rw [← this, show SIGC = LETC ++ [48, 49, 50, 51, 52, 53, 54, 55, 56, 57, 95, 46] from rfl, List.getElem?_append_left (by show k < 26; exact h)]
theorem let_sig {x : Nat} (h : x ∈ LETC) : x ∈ SIGC := by
  rw [show SIGC = LETC ++ [48, 49, 50, 51, 52, 53, 54, 55, 56, 57, 95, 46] from rfl]
  exact List.mem_append_left _ h
theorem name_ok {d : PV} {tk : List Str} (hd : DOK d) (ht : ∀ y ∈ tk, NameOK y) (hl : tk.length ≤ 60) :
    ∃ y d', C_L_free_name [d, .lst true (tk.map .str), .int 16] = .ok (.str y) [d', .lst true (tk.map .str), .int 16] ∧ NameOK y ∧ y ∉ tk ∧ DOK d' := by
  obtain ⟨r, d1, e1, r0, r1, hd1⟩ := draw_ok (many := 4) hd (by omega) (by omega)
  have z0 := hd.own
  have z1 := hd1.own
  have fin : ∀ {y : Str} {d2 : PV} {a5 a7 a8 : Option PV}, NameOK y → DOK d2 → ∃ z a9, tailN [some d2, some (.lst true (tk.map .str)), some (.int 16), none, some (.str (Sg SIGC)), a5, some (.str y), a7, a8, none] = .rt (.str z) [some d2, some (.lst true (tk.map .str)), some (.int 16), none, some (.str (Sg SIGC)), a5, some (.str z), a7, a8, a9] ∧ NameOK z ∧ z ∉ tk :=
    fun hy _ => tailN_ok hy ht hl _ _ _ _ _ _
  have hdef : C_L_free_name = runB 10 3 [0, 1, 2] (mSeq (mAsg (mC (.str (Sg SIGC))) (t1 4))
  (mSeq (mAsg (mCallN 2 C_L_draw (oCons (oN 0) (oCons (oE (mC (.int 4))) (oNil)))) (t1 5))
  (mSeq (mIf (mT (mOp (pEq false) (oCons (oN 5) (oCons (oE (mC (.int 0))) oNil)))) (mAsg (mCallN 2 C_L_pick (oCons (oN 0) (oCons (oE (mCallN 0 C_L_key_words oNil)) (oNil)))) (t1 6)) (mIf (mT (mOp (pEq false) (oCons (oN 5) (oCons (oE (mC (.int 1))) oNil)))) (mSeq (mAsg (mOp pSub (oCons (oN 2) (oCons (oE (mOp pMul2 (oCons (oE (mCallN 2 C_L_draw (oCons (oN 0) (oCons (oE (mC (.int 2))) (oNil))))) (oCons (oE (mCallN 2 C_L_draw (oCons (oN 0) (oCons (oN 2) (oNil))))) oNil)))) oNil))) (t1 7))
  (mSeq (mAsg (mOp pIx (oCons (oN 4) (oCons (oE (mCallN 2 C_L_draw (oCons (oN 0) (oCons (oE (mC (.int 26))) (oNil))))) oNil))) (t1 6))
  (mFor [0, 1, 2] (oCons (oE (mOp pSub (oCons (oN 7) (oCons (oE (mC (.int 1))) oNil)))) oNil) itRng1 (t1 8) bodyN))) (mAsg (mCallN 2 C_L_pick (oCons (oN 0) (oCons (oE (mCallN 0 C_L_pool oNil)) (oNil)))) (t1 6))))
  tailN))) := by
    unfold C_L_free_name m_L_free_name
    rw [lit_sig]
    rfl
  by_cases c0 : r = 0
  · obtain ⟨x, d2, e2, hx, hd2⟩ := pickL_ok (o := true) (xs := keyS.map .str) hd1 (by simp [keyS, keyC]) (by rw [List.length_map, key_len]; omega) (strs_owns _)
    obtain ⟨y, hy, rfl⟩ := List.mem_map.mp hx
    have z2 := hd2.own
    obtain ⟨z, a9, e3, hz, hz2⟩ := fin (a5 := some (.int 0)) (a7 := none) (a8 := none) (key_names y hy) hd2
    subst c0
    refine ⟨z, d2, ?_, hz, hz2, hd2⟩
    rw [hdef]
    simp [runB, z0, z1, z2, e1, e2, keys_ok, e3]
  · by_cases c1 : r = 1
    · subst c1
      obtain ⟨a, d2, e2, a0, a1, hd2⟩ := draw_ok (many := 2) hd1 (by omega) (by omega)
      obtain ⟨b, d3, e3, b0, b1, hd3⟩ := draw_ok (many := 16) hd2 (by omega) (by omega)
      obtain ⟨f, d4, e4, f0, f1, hd4⟩ := draw_ok (many := 26) hd3 (by omega) (by omega)
      have z2 := hd2.own
      have z3 := hd3.own
      have z4 := hd4.own
      have sm : Bv.small64 a = true := sm_of (by omega) (by omega)
      have hab : 0 ≤ a * b ∧ a * b ≤ 15 := by
        rcases (by omega : a = 0 ∨ a = 1) with rfl | rfl <;> omega
      obtain ⟨x, hx, hxl⟩ := lt_let (k := f.toNat) (by omega)
      have e5 := ix_str (c := SIGC) (by decide) f0 hx
      obtain ⟨w, d5, a8, e6, hw, hws, hd5⟩ := loopN (rngP (16 - a * b - 1).toNat) [x] d4 (some (.lst true (tk.map .str))) (some (.int 16)) none (some (.int 1)) (some (.int (16 - a * b))) none none hd4 (by simp; omega)
      have z5 := hd5.own
      have zi : itRng1 [.int (16 - a * b - 1)] = some (rngP (16 - a * b - 1).toNat) := it_nat (by omega) (by omega)
      have hn : NameOK (Sg ([x] ++ w)) := by
        refine ⟨_, rfl, ?_⟩
        rw [rngP_len] at hw
        simp only [List.singleton_append, nameB, Bool.and_eq_true, decide_eq_true_eq, List.all_eq_true, List.length_cons]
        refine ⟨⟨hxl, by omega⟩, fun z hz => ?_⟩
        rcases List.mem_cons.mp hz with h | h
        · rw [h]; exact let_sig hxl
        · exact hws z h
      obtain ⟨z, a9, e7, hz, hz2⟩ := fin (a5 := some (.int 1)) (a7 := some (.int (16 - a * b))) (a8 := a8) hn hd5
      refine ⟨z, d5, ?_, hz, hz2, hd5⟩
      rw [hdef]
      simp at e6 e7
      simp [runB, z0, z1, z2, z3, z4, z5, e1, e2, e3, e4, e5, sm, zi, e6, e7]
    · obtain ⟨x, d2, e2, hx, hd2⟩ := pickL_ok (o := true) (xs := poolS.map .str) hd1 (by simp [poolS, poolC]) (by rw [List.length_map, pool_len]; omega) (strs_owns _)
      obtain ⟨y, hy, rfl⟩ := List.mem_map.mp hx
      have z2 := hd2.own
      obtain ⟨z, a9, e3, hz, hz2⟩ := fin (a5 := some (.int r)) (a7 := none) (a8 := none) (pool_names y hy) hd2
      refine ⟨z, d2, ?_, hz, hz2, hd2⟩
      rw [hdef]
      simp [runB, z0, z1, z2, e1, e2, pool_ok, e3, c0, c1]

structure Blk where
  name : Str
  times : List Int
  deed : List Int
structure Que where
  s : Nat
  t : Nat
  gives : List Int
  takes : List Int
  start : List Int
def eI (l : List Int) : PV := .tup (l.map PV.int)
def eB (b : Blk) : PV := .tup [.str b.name, .tup (b.times.map PV.int), .tup (b.deed.map PV.int)]
def eQ (q : Que) : PV := .tup [.int q.s, .tup (q.gives.map PV.int), .int q.t, .tup (q.takes.map PV.int), .tup (q.start.map PV.int)]
def BlkOK (b : Blk) : Prop := NameOK b.name ∧ 1 ≤ b.times.length ∧ b.times.length ≤ 6 ∧ NumsP 60 b.times ∧ b.deed.length = 2 ∧ NumsP 9972 b.deed
def QueOK (bs : List Blk) (q : Que) : Prop := ∃ b1 b2, bs[q.s]? = some b1 ∧ bs[q.t]? = some b2 ∧ RatesP b1.times.length q.gives ∧ RatesP b2.times.length q.takes ∧ q.start.length ≤ 60 ∧ NumsP 9972 q.start
structure GrOK (bs : List Blk) (qs : List Que) : Prop where
  b1 : 1 ≤ bs.length
  b2 : bs.length ≤ 60
  q2 : qs.length ≤ 160
  bo : ∀ b ∈ bs, BlkOK b
  nd : (bs.map (·.name)).Nodup
  qo : ∀ q ∈ qs, QueOK bs q
def eG (bs : List Blk) (qs : List Que) : PV := .tup [.tup (bs.map eB), .tup (qs.map eQ)]
@[simp] theorem eB_own (b : Blk) : (eB b).own = false := by simp [eB]
@[simp] theorem eQ_own (b : Que) : (eQ b).own = false := by simp [eQ]
@[simp] theorem eBs_own (bs : List Blk) : PV.owns (bs.map eB) = false := owns_of fun x hx => by
  obtain ⟨b, _, rfl⟩ := List.mem_map.mp hx
  exact eB_own b
@[simp] theorem eQs_own (bs : List Que) : PV.owns (bs.map eQ) = false := owns_of fun x hx => by
  obtain ⟨b, _, rfl⟩ := List.mem_map.mp hx
  exact eQ_own b
@[simp] theorem eB_frz (b : Blk) : frzP (eB b) = some (eB b) := frz_id (eB_own b)
@[simp] theorem eQ_frz (b : Que) : frzP (eQ b) = some (eQ b) := frz_id (eQ_own b)
theorem block_ok {d : PV} {tk : List Str} (hd : DOK d) (ht : ∀ y ∈ tk, NameOK y) (hl : tk.length ≤ 60) :
    ∃ b d', C_L_free_block [d, .lst true (tk.map .str), .int 16] = .ok (eB b) [d', .lst true (tk.map .str), .int 16] ∧ BlkOK b ∧ b.name ∉ tk ∧ DOK d' := by
  obtain ⟨y, d1, e1, hy, hy2, hd1⟩ := name_ok hd ht hl
  obtain ⟨p, d2, e2, p0, p1, hd2⟩ := draw_ok (many := 3) hd1 (by omega) (by omega)
  obtain ⟨c, d3, e3, hd3⟩ := rare_ok (many := 5) hd2 (by omega) (by omega)
  have z0 := hd.own
  have z1 := hd1.own
  have z2 := hd2.own
  have z3 := hd3.own
  have fin : ∀ {d : PV} {n : Nat}, DOK d → 1 ≤ n → n ≤ 6 → ∃ l l2 d5 d6, C_L_free_numbers [d, .int n, .int 60] = .ok (.tup (l.map PV.int)) [d5, .int n, .int 60] ∧ C_L_free_numbers [d5, .int 2, .int 9972] = .ok (.tup (l2.map PV.int)) [d6, .int 2, .int 9972] ∧ BlkOK ⟨y, l, l2⟩ ∧ d5.own = true ∧ DOK d6 := by
    intro d n hd h1 h2
    obtain ⟨l, d5, e5, hl, hn, hd5⟩ := nums_ok (high := 60) (many := n) hd (by omega) (by omega) (by omega)
    obtain ⟨l2, d6, e6, hl2, hn2, hd6⟩ := nums_ok (high := 9972) (many := 2) hd5 (by omega) (by omega) (by omega)
    exact ⟨l, l2, d5, d6, e5, e6, ⟨hy, by show 1 ≤ l.length; omega, by show l.length ≤ 6; omega, hn, hl2, hn2⟩, hd5.own, hd6⟩
  cases c with
  | false =>
    obtain ⟨l, l2, d5, d6, e5, e6, hb, z5, hd6⟩ := fin hd3 (n := (1 + p).toNat) (by omega) (by omega)
    have z6 := hd6.own
    rw [show (((1 + p).toNat : Nat) : Int) = 1 + p by omega] at e5
    refine ⟨⟨y, l, l2⟩, d6, ?_, hb, hy2, hd6⟩
    simp [C_L_free_block, runB, m_L_free_block, z0, z1, z2, z3, z5, z6, e1, e2, e3, e5, e6, eB]
  | true =>
    obtain ⟨f, d4, e4, f0, f1, hd4⟩ := draw_ok (many := 3) hd3 (by omega) (by omega)
    have z4 := hd4.own
    obtain ⟨l, l2, d5, d6, e5, e6, hb, z5, hd6⟩ := fin hd4 (n := (4 + f).toNat) (by omega) (by omega)
    have z6 := hd6.own
    rw [show (((4 + f).toNat : Nat) : Int) = 4 + f by omega] at e5
    refine ⟨⟨y, l, l2⟩, d6, ?_, hb, hy2, hd6⟩
    simp [C_L_free_block, runB, m_L_free_block, z0, z1, z2, z3, z4, z5, z6, e1, e2, e3, e4, e5, e6, eB]
theorem queue_ok {d : PV} {bs : List Blk} (hd : DOK d) (h1 : 1 ≤ bs.length) (h2 : bs.length ≤ 60) (hb : ∀ b ∈ bs, BlkOK b) :
    ∃ q d', C_L_free_queue [d, .lst true (bs.map eB)] = .ok (eQ q) [d', .lst true (bs.map eB)] ∧ QueOK bs q ∧ DOK d' := by
  obtain ⟨s, d1, e1, s0, s1, hd1⟩ := draw_ok (many := bs.length) hd (by omega) (by omega)
  obtain ⟨t, d2, e2, t0, t1, hd2⟩ := draw_ok (many := bs.length) hd1 (by omega) (by omega)
  have hs : bs[s.toNat]? = some bs[s.toNat] := List.getElem?_eq_getElem (by omega)
  have ht : bs[t.toNat]? = some bs[t.toNat] := List.getElem?_eq_getElem (by omega)
  obtain ⟨g, d3, e3, hg, hd3⟩ := rates_ok (size := (bs[s.toNat]).times.length) hd2 (by have := (hb _ (List.getElem_mem (l := bs) (n := s.toNat) (by omega))).2.1; omega) (by have := (hb _ (List.getElem_mem (l := bs) (n := s.toNat) (by omega))).2.2.1; omega)
  obtain ⟨k, d4, e4, hk, hd4⟩ := rates_ok (size := (bs[t.toNat]).times.length) hd3 (by have := (hb _ (List.getElem_mem (l := bs) (n := t.toNat) (by omega))).2.1; omega) (by have := (hb _ (List.getElem_mem (l := bs) (n := t.toNat) (by omega))).2.2.1; omega)
  obtain ⟨l, d5, e5, hl, hn, hd5⟩ := start_ok hd4
  have z0 := hd.own
  have z1 := hd1.own
  have z2 := hd2.own
  have z3 := hd3.own
  have z4 := hd4.own
  have z5 := hd5.own
  have i1 : atI (bs.map eB) s = some (eB bs[s.toNat]) := atI_of s0 (by rw [List.getElem?_map, hs]; rfl)
  have i2 : atI (bs.map eB) t = some (eB bs[t.toNat]) := atI_of t0 (by rw [List.getElem?_map, ht]; rfl)
  refine ⟨⟨s.toNat, t.toNat, g, k, l⟩, d5, ?_, ⟨_, _, hs, ht, hg, hk, hl, hn⟩, hd5⟩
  have es : ((s.toNat : Nat) : Int) = s := by omega
  have et : ((t.toNat : Nat) : Int) = t := by omega
  have b1 : ∀ b : Blk, pIx [eB b, .int 1] = some (.tup (b.times.map PV.int)) := fun b => by simp [eB]
  simp [C_L_free_queue, runB, m_L_free_queue, z0, z1, z2, z3, z4, z5, e1, e2, e3, e4, e5, i1, i2, b1, eQ, Int.max_eq_left s0, Int.max_eq_left t0, es, et]

theorem paired_que {bs : List Blk} {xs ys : List PV} (h : Paired (fun _ y => ∃ q, y = eQ q ∧ QueOK bs q) xs ys) : ∃ qs : List Que, ys = qs.map eQ ∧ (∀ q ∈ qs, QueOK bs q) ∧ qs.length = xs.length := by
  induction h with
  | nil => exact ⟨[], rfl, by simp, rfl⟩
  | cons p _ ih =>
    obtain ⟨q, rfl, hq⟩ := p
    obtain ⟨qs, rfl, h1, h2⟩ := ih
    exact ⟨q :: qs, rfl, fun z hz => (List.mem_cons.mp hz).elim (fun h => by rw [h]; exact hq) (fun h => h1 z h), by simp [h2]⟩
theorem paired_blk {xs ys : List PV} (h : Paired (fun _ y => ∃ b, y = eB b ∧ BlkOK b) xs ys) : ∃ qs : List Blk, ys = qs.map eB ∧ (∀ q ∈ qs, BlkOK q) ∧ qs.length = xs.length := by
  induction h with
  | nil => exact ⟨[], rfl, by simp, rfl⟩
  | cons p _ ih =>
    obtain ⟨q, rfl, hq⟩ := p
    obtain ⟨qs, rfl, h1, h2⟩ := ih
    exact ⟨q :: qs, rfl, fun z hz => (List.mem_cons.mp hz).elim (fun h => by rw [h]; exact hq) (fun h => h1 z h), by simp [h2]⟩
@[simp] theorem ix_eB0 (b : Blk) : pIx [eB b, .int 0] = some (.str b.name) := by simp [eB]
@[simp] theorem ix_eB1 (b : Blk) : pIx [eB b, .int 1] = some (.tup (b.times.map PV.int)) := by simp [eB]
@[simp] theorem ix_eB2 (b : Blk) : pIx [eB b, .int 2] = some (.tup (b.deed.map PV.int)) := by simp [eB]
noncomputable def bodyG : MS := mDrop (mMeth 3 fApp (vCons (mFz (mCallN 3 C_L_free_block (oCons (oN 0) (oCons (oE (mComp (oCons (oN 3) oNil) itSeq (t1 1) (mYes) (mFz (mOp pIx (oCons (oN 1) (oCons (oE (mC (.int 0))) oNil)))) [1])) (oCons (oE (mC (.int 16))) (oNil)))))) (vNil)))
theorem bodyG_ok {d : PV} {bs : List Blk} (a2 : Option PV) (hd : DOK d) (hb : ∀ b ∈ bs, BlkOK b) (hl : bs.length < 60) :
    ∃ b d', bodyG [some d, none, a2, some (.lst true (bs.map eB))] = .nx [some d', none, a2, some (.lst true ((bs ++ [b]).map eB))] ∧ BlkOK b ∧ b.name ∉ bs.map (·.name) ∧ DOK d' := by
  obtain ⟨b, d', e, hb2, hn, hd'⟩ := block_ok (tk := bs.map (·.name)) hd (fun y hy => by obtain ⟨b, h, rfl⟩ := List.mem_map.mp hy; exact (hb b h).1) (by rw [List.length_map]; omega)
  have z0 := hd.own
  have z1 := hd'.own
  have hc : compL (t1 1) mYes (mFz (mOp pIx (oCons (oN 1) (oCons (oE (mC (.int 0))) oNil)))) [1] (bs.map eB) [some d, none, a2, none] [] = .ok ([] ++ (bs.map eB).map fun x => match pIx [x, .int 0] with | some y => y | none => .non) [some d, none, a2, none] := by
    refine compL_map (fun x hx => ?_) []
    obtain ⟨b, _, rfl⟩ := List.mem_map.mp hx
    exact ⟨[some d, some (eB b), a2, none], [some d, some (eB b), a2, none], by simp, by simp, by simp⟩
  rw [List.nil_append, List.map_map, show ((fun x => match pIx [x, .int 0] with | some y => y | none => .non) ∘ eB) = fun b : Blk => PV.str b.name from funext fun b => by simp] at hc
  have l1 : bs.length ≤ LIM := lim_le (by omega)
  have l2 : bs.length < LIM := lim_lt (by omega)
  rw [List.map_map] at e
  have e : C_L_free_block [d, .lst true (bs.map fun b => PV.str b.name), .int 16] = .ok (eB b) [d', .lst true (bs.map fun b => PV.str b.name), .int 16] := e
  refine ⟨b, d', ?_, hb2, hn, hd'⟩
  simp [bodyG, z0, z1, hc, e, l1, l2]
theorem loopG : ∀ (is : List PV) (bs : List Blk) (d : PV) (a2 : Option PV), DOK d → (∀ b ∈ bs, BlkOK b) → (bs.map (·.name)).Nodup → bs.length + is.length ≤ 60 →
    ∃ (bs' : List Blk) (d' : PV) (a2' : Option PV), forL (t1 2) bodyG is [some d, none, a2, some (.lst true (bs.map eB))] = .nx [some d', none, a2', some (.lst true (bs'.map eB))] ∧ bs'.length = bs.length + is.length ∧ (∀ b ∈ bs', BlkOK b) ∧ (bs'.map (·.name)).Nodup ∧ DOK d' := by
  intro is
  induction is with
  | nil => intro bs d a2 hd hb hn hl; exact ⟨bs, d, a2, rfl, rfl, hb, hn, hd⟩
  | cons i is ih =>
    intro bs d a2 hd hb hn hl
    rw [List.length_cons] at hl
    obtain ⟨b, d1, e1, hb1, hn1, hd1⟩ := bodyG_ok (some i) hd hb (by omega)
    obtain ⟨bs', d', a2', e2, h1, h2, h3, h4⟩ := ih (bs ++ [b]) d1 (some i) hd1 (fun z hz => by
      rcases List.mem_append.mp hz with h | h
      · exact hb z h
      · rw [List.mem_singleton.mp h]; exact hb1) (by
      rw [List.map_append, List.nodup_append]
      refine ⟨hn, by simp, fun x hx y hy => ?_⟩
      simp at hy
      subst hy
      exact fun e => hn1 (e ▸ hx)) (by simp; omega)
    refine ⟨bs', d', a2', ?_, by rw [h1]; simp; omega, h2, h3, h4⟩
    rw [← e2]
    simp only [forL, ap_t1, List.set_cons_succ, List.set_cons_zero, e1]

theorem mul_small {a b m : Int} (a0 : 0 ≤ a) (a1 : a < 2) (b0 : 0 ≤ b) (b1 : b ≤ m) : 0 ≤ a * b ∧ a * b ≤ m := by
  rcases (by omega : a = 0 ∨ a = 1) with rfl | rfl <;> omega
theorem perm_strs {ys : List PV} {l : List Str} (h : ys.Perm (l.map PV.str)) : ∃ ns : List Str, ys = ns.map PV.str ∧ ns.Perm l := by
  refine ⟨ys.map fun x => match x with | .str y => y | _ => "", ?_, ?_⟩
  · rw [List.map_map]
    have : ∀ x ∈ ys, (PV.str ∘ fun x => match x with | .str y => y | _ => "") x = x := fun x hx => by
      obtain ⟨y, _, rfl⟩ := List.mem_map.mp (h.mem_iff.mp hx)
      rfl
    rw [List.map_congr_left this, List.map_id']
  · have e := h.map fun x : PV => match x with | .str y => y | _ => ("" : Str)
    rw [List.map_map] at e
    have : l.map ((fun x : PV => match x with | .str y => y | _ => ("" : Str)) ∘ PV.str) = l := by
      rw [show ((fun x : PV => match x with | .str y => y | _ => ("" : Str)) ∘ PV.str) = id from rfl, List.map_id]
    rw [this] at e
    exact e
noncomputable def bodyB : MS := mSeq (mAsg (mCallN 2 C_L_pick (oCons (oN 0) (oCons (oN 3) (oNil)))) (t1 5))
  (mDrop (mMeth 4 fApp (vCons (mTup (vCons (mFz (mOp pIx (oCons (oN 2) (oCons (oN 1) oNil)))) (vCons (mFz (mOp pIx (oCons (oN 5) (oCons (oE (mC (.int 1))) oNil)))) (vCons (mFz (mOp pIx (oCons (oN 5) (oCons (oE (mC (.int 2))) oNil)))) (vNil))))) (vNil))))
theorem loopB {ns : List Str} {so : List Blk} (hns : ∀ y ∈ ns, NameOK y) (hl : ns.length ≤ 61) (hso : ∀ b ∈ so, BlkOK b) (hs1 : so ≠ []) (hs2 : so.length ≤ 10) (n : Nat) (hn : n ≤ ns.length) {d : PV} (hd : DOK d) :
    ∃ (bs : List Blk) (d' : PV) (a1 a5 : Option PV), forL (t1 1) bodyB (rngP n) [some d, none, some (.lst true (ns.map .str)), some (.lst true (so.map eB)), some (.lst true []), none, none, none] = .nx [some d', a1, some (.lst true (ns.map .str)), some (.lst true (so.map eB)), some (.lst true (bs.map eB)), a5, none, none] ∧ bs.map (·.name) = ns.take n ∧ (∀ b ∈ bs, BlkOK b) ∧ DOK d' := by
  have key := forL_inv (t := t1 1) (b := bodyB) (xs := rngP n) (Inv := fun k s => ∃ (d : PV) (bs : List Blk) (a1 a5 : Option PV), DOK d ∧ s = [some d, a1, some (.lst true (ns.map .str)), some (.lst true (so.map eB)), some (.lst true (bs.map eB)), a5, none, none] ∧ bs.map (fun b => b.name) = ns.take k ∧ (∀ b ∈ bs, BlkOK b)) 0 (fun i x hx s hs => by
    obtain ⟨d, bs, a1, a5, hd, rfl, h1, h2⟩ := hs
    rw [Nat.zero_add] at h1
    have hi : i < n := by have := (List.getElem?_eq_some_iff.mp hx).1; simpa using this
    have hx2 : x = .int i := by
      unfold rngP at hx
      rw [List.getElem?_map, List.getElem?_range hi] at hx
      exact (Option.some.inj hx).symm
    subst hx2
    obtain ⟨y, d1, e1, hy, hd1⟩ := pickL_ok (o := true) (xs := so.map eB) hd (by simpa using hs1) (by rw [List.length_map]; omega) (eBs_own so)
    obtain ⟨b, hb, rfl⟩ := List.mem_map.mp hy
    have z0 := hd.own
    have z1 := hd1.own
    have hni : ns[i]? = some ns[i] := List.getElem?_eq_getElem (by omega)
    have hat : atI (ns.map PV.str) i = some (.str ns[i]) := atI_of (by omega) (by rw [List.getElem?_map, Int.toNat_natCast, hni]; rfl)
    have hbl : bs.length = i := by
      have := congrArg List.length h1
      rw [List.length_map, List.length_take] at this
      omega
    have l2 : bs.length < LIM := lim_lt (by omega)
    refine ⟨_, [some d1, some (.int i), some (.lst true (ns.map .str)), some (.lst true (so.map eB)), some (.lst true ((bs ++ [Blk.mk ns[i] b.times b.deed]).map eB)), some (eB b), none, none], rfl, .inl ?_, d1, _, _, _, hd1, rfl, ?_, ?_⟩
    · simp [bodyB, z0, z1, e1, hat, l2]
      rfl
    · rw [Nat.zero_add, List.map_append, h1, List.take_succ, hni]
      rfl
    · intro z hz
      rcases List.mem_append.mp hz with h | h
      · exact h2 z h
      · rw [List.mem_singleton.mp h]
        exact ⟨hns _ (List.getElem_mem _), (hso b hb).2⟩) [some d, none, some (.lst true (ns.map .str)), some (.lst true (so.map eB)), some (.lst true []), none, none, none] ⟨d, [], none, none, hd, rfl, by simp, by simp⟩
  obtain ⟨s', e, d', bs, a1, a5, hd', rfl, h1, h2⟩ := key
  rw [Nat.zero_add, rngP_len] at h1
  exact ⟨bs, d', a1, a5, e, h1, h2, hd'⟩
theorem compPick {rows : List PV} (hr : rows ≠ []) (hr2 : rows.length ≤ 1000) (ho : PV.owns rows = false) {a1 a2 a3 a4 a5 a7 : Option PV} : ∀ (is : List PV) (d : PV) (acc : List PV), DOK d →
    ∃ (ys : List PV) (d' : PV), compL (t1 1) mYes (mFz (mCallN 2 C_L_pick (oCons (oN 0) (oCons (oN 6) (oNil))))) [1] is [some d, none, a2, a3, a4, a5, some (.lst true rows), a7] acc = .ok (acc ++ ys) [some d', none, a2, a3, a4, a5, some (.lst true rows), a7] ∧ (∀ y ∈ ys, y ∈ rows) ∧ ys.length = is.length ∧ DOK d' := by
  intro is
  induction is with
  | nil => intro d acc hd; exact ⟨[], d, by simp [compL], by simp, rfl, hd⟩
  | cons i is ih =>
    intro d acc hd
    obtain ⟨y, d1, e1, hy, hd1⟩ := pickL_ok (o := true) hd hr (by omega) ho
    obtain ⟨ys, d', e2, h1, h2, h3⟩ := ih d1 (acc ++ [y]) hd1
    have z0 := hd.own
    have z1 := hd1.own
    have hf : frzP y = some y := frz_id (owns_mem ho hy)
    refine ⟨y :: ys, d', ?_, fun z hz => ?_, by simp [h2], h3⟩
    · simp [compL, z0, z1, e1, hf, ho, e2]
    · rcases List.mem_cons.mp hz with h | h
      · rw [h]; exact hy
      · exact h1 z h

theorem take_nodup {l : List Str} (h : l.Nodup) (n : Nat) : (l.take n).Nodup := h.sublist (List.take_sublist n l)
theorem big_ok {d : PV} (hd : DOK d) : ∃ bs qs d', C_L_big_graph [d] = .ok (eG bs qs) [d'] ∧ GrOK bs qs ∧ DOK d' := by
  obtain ⟨ys, d1, e1, hp, hd1⟩ := shuffled_ok (o := true) (xs := poolS.map .str) hd (by rw [List.length_map, pool_len]; omega) (owns_strs _)
  obtain ⟨ns, rfl, hp2⟩ := perm_strs hp
  have hnl : ns.length = 61 := by rw [hp2.length_eq, pool_len]
  have hnn : ∀ y ∈ ns, NameOK y := fun y hy => pool_names y (hp2.mem_iff.mp hy)
  have hnd : ns.Nodup := hp2.nodup_iff.mpr pool_nodup
  obtain ⟨bs3, s3, e3, p3, d2, hd2, rfl⟩ := compL_inv (t := t1 1) (el := mFz (mCallN 3 C_L_free_block (oCons (oN 0) (oCons (oE (mLst (vNil))) (oCons (oE (mC (.int 16))) (oNil)))))) (own := [1]) (P := fun _ y => ∃ b, y = eB b ∧ BlkOK b) (Inv := fun s => ∃ d, DOK d ∧ s = [some d, none, some (.lst true (ns.map .str)), none, none, none, none, none]) (xs := rngP 3) (fun x _ s hs => by
    obtain ⟨d, hd, rfl⟩ := hs
    obtain ⟨b, d', e, hb, _, hd'⟩ := block_ok (tk := []) hd (by simp) (by simp)
    have z0 := hd.own
    have z1 := hd'.own
    simp at e
    exact ⟨_, eB b, [some d', some x, some (.lst true (ns.map .str)), none, none, none, none, none], rfl, by simp [z0, z1, e], ⟨b, rfl, hb⟩, d', hd', by simp⟩) [] [some d1, none, some (.lst true (ns.map .str)), none, none, none, none, none] ⟨d1, hd1, rfl⟩
  obtain ⟨so, rfl, hso, hsl⟩ := paired_blk p3
  rw [rngP_len] at hsl
  obtain ⟨a, d4, e4, a0, a1, hd4⟩ := draw_ok (many := 2) hd2 (by omega) (by omega)
  obtain ⟨b, d5, e5, b0, b1, hd5⟩ := draw_ok (many := 58) hd4 (by omega) (by omega)
  have sm : Bv.small64 a = true := sm_of (by omega) (by omega)
  have hab := mul_small (m := 57) a0 a1 b0 (by omega)
  obtain ⟨bs, d6, k6, o6, e6, hbn, hbo, hd6⟩ := loopB (so := so) hnn (by omega) hso (fun e => by rw [e] at hsl; simp at hsl) (by omega) (60 - a * b).toNat (by omega) hd5
  have hbl : bs.length = (60 - a * b).toNat := by
    have := congrArg List.length hbn
    rw [List.length_map, List.length_take] at this
    omega
  obtain ⟨rs, s7, e7, p7, d7, hd7, rfl⟩ := compL_inv (t := t1 1) (el := mFz (mCallN 2 C_L_free_queue (oCons (oN 0) (oCons (oN 4) (oNil))))) (own := [1]) (P := fun _ y => ∃ q, y = eQ q ∧ QueOK bs q) (Inv := fun s => ∃ d, DOK d ∧ s = [some d, none, some (.lst true (ns.map .str)), some (.lst true (so.map eB)), some (.lst true (bs.map eB)), o6, none, none]) (xs := rngP 3) (fun x _ s hs => by
    obtain ⟨d, hd, rfl⟩ := hs
    obtain ⟨q, d', e, hq, hd'⟩ := queue_ok (bs := bs) hd (by omega) (by omega) hbo
    have z0 := hd.own
    have z1 := hd'.own
    exact ⟨_, eQ q, [some d', some x, some (.lst true (ns.map .str)), some (.lst true (so.map eB)), some (.lst true (bs.map eB)), o6, none, none], rfl, by simp [z0, z1, e], ⟨q, rfl, hq⟩, d', hd', by simp⟩) [] [some d6, none, some (.lst true (ns.map .str)), some (.lst true (so.map eB)), some (.lst true (bs.map eB)), o6, none, none] ⟨d6, hd6, rfl⟩
  obtain ⟨rows, rfl, hrows, hrl⟩ := paired_que p7
  rw [rngP_len] at hrl
  obtain ⟨f, d8, e8, f0, f1, hd8⟩ := draw_ok (many := 2) hd7 (by omega) (by omega)
  obtain ⟨g, d9, e9, g0, g1, hd9⟩ := draw_ok (many := 161) hd8 (by omega) (by omega)
  have smf : Bv.small64 f = true := sm_of (by omega) (by omega)
  have hfg := mul_small (m := 160) f0 f1 g0 (by omega)
  obtain ⟨qs0, d10, e10, hq10, hl10, hd10⟩ := compPick (rows := rows.map eQ) (fun e => by have := congrArg List.length e; rw [List.length_map, hrl] at this; simp at this) (by rw [List.length_map]; omega) (eQs_own rows) (a1 := none) (a2 := some (.lst true (ns.map .str))) (a3 := some (.lst true (so.map eB))) (a4 := some (.lst true (bs.map eB))) (a5 := o6) (a7 := some (.int (160 - f * g))) (rngP (160 - f * g).toNat) d9 [] hd9
  obtain ⟨qs, rfl, hqs⟩ : ∃ qs : List Que, qs0 = qs.map eQ ∧ ∀ q ∈ qs, q ∈ rows := by
    clear e10 hl10
    induction qs0 with
    | nil => exact ⟨[], rfl, by simp⟩
    | cons y ys ih =>
      obtain ⟨qs, rfl, h⟩ := ih fun z hz => hq10 z (List.mem_cons_of_mem _ hz)
      obtain ⟨q, hq, rfl⟩ := List.mem_map.mp (hq10 _ List.mem_cons_self)
      exact ⟨q :: qs, rfl, fun z hz => (List.mem_cons.mp hz).elim (fun e => by rw [e]; exact hq) (h z)⟩
  rw [List.length_map, rngP_len] at hl10
  refine ⟨bs, qs, d10, ?_, ⟨by omega, by omega, by omega, hbo, ?_, fun q hq => hrows q (hqs q hq)⟩, hd10⟩
  · have z0 := hd.own
    have z1 := hd1.own
    have z2 := hd2.own
    have z4 := hd4.own
    have z5 := hd5.own
    have z6 := hd6.own
    have z7 := hd7.own
    have z8 := hd8.own
    have z9 := hd9.own
    have z10 := hd10.own
    have i1 : itRng1 [.int 3] = some (rngP 3) := it_nat (by omega) (by omega)
    have i2 : itRng1 [.int (60 - a * b)] = some (rngP (60 - a * b).toNat) := it_nat (by omega) (by omega)
    have i3 : itRng1 [.int (160 - f * g)] = some (rngP (160 - f * g).toNat) := it_nat (by omega) (by omega)
    have l3 : (160 - f * g).toNat ≤ LIM := lim_le (by omega)
    unfold bodyB at e6
    simp only [List.nil_append] at e3 e7 e10
    simp [C_L_big_graph, runB, m_L_big_graph, z0, z1, z2, z4, z5, z6, z7, z8, z9, z10, pool_ok, e1, i1, i2, i3, e3, e4, e5, e6, e7, e8, e9, e10, sm, smf, l3, eG]
  · rw [hbn]; exact take_nodup hnd _
theorem graph_ok {d : PV} (hd : DOK d) : ∃ bs qs d', C_L_free_graph [d] = .ok (eG bs qs) [d'] ∧ GrOK bs qs ∧ DOK d' := by
  obtain ⟨c, d1, e1, hd1⟩ := rare_ok (many := 8) hd (by omega) (by omega)
  have z0 := hd.own
  have z1 := hd1.own
  cases c with
  | true =>
    obtain ⟨bs, qs, d2, e2, h, hd2⟩ := big_ok hd1
    have z2 := hd2.own
    refine ⟨bs, qs, d2, ?_, h, hd2⟩
    simp [C_L_free_graph, runB, m_L_free_graph, z0, z1, z2, e1, e2]
  | false =>
    obtain ⟨n, d2, e2, n0, n1, hd2⟩ := draw_ok (many := 4) hd1 (by omega) (by omega)
    obtain ⟨bs, d3, k3, e3, hl, hb, hn, hd3⟩ := loopG (rngP (1 + n).toNat) [] d2 none hd2 (by simp) (by simp) (by simp; omega)
    simp only [List.length_nil, rngP_len, Nat.zero_add] at hl
    obtain ⟨m, d4, e4, m0, m1, hd4⟩ := draw_ok (many := 5) hd3 (by omega) (by omega)
    obtain ⟨rs, s5, e5, p5, d5, hd5, rfl⟩ := compL_inv (t := t1 2) (el := mFz (mCallN 2 C_L_free_queue (oCons (oN 0) (oCons (oN 3) (oNil))))) (own := [2]) (P := fun _ y => ∃ q, y = eQ q ∧ QueOK bs q) (Inv := fun s => ∃ d, DOK d ∧ s = [some d, none, none, some (.lst true (bs.map eB))]) (xs := rngP m.toNat) (fun x _ s hs => by
      obtain ⟨d, hd, rfl⟩ := hs
      obtain ⟨q, d', e, hq, hd'⟩ := queue_ok (bs := bs) hd (by omega) (by omega) hb
      have z0 := hd.own
      have z1 := hd'.own
      exact ⟨_, eQ q, [some d', none, some x, some (.lst true (bs.map eB))], rfl, by simp [z0, z1, e], ⟨q, rfl, hq⟩, d', hd', by simp⟩) [] [some d4, none, none, some (.lst true (bs.map eB))] ⟨d4, hd4, rfl⟩
    obtain ⟨qs, rfl, hqs, hql⟩ := paired_que p5
    rw [rngP_len] at hql
    have z2 := hd2.own
    have z3 := hd3.own
    have z4 := hd4.own
    have z5 := hd5.own
    have i1 : itRng1 [.int (1 + n)] = some (rngP (1 + n).toNat) := it_nat (by omega) (by omega)
    have i2 : itRng1 [.int m] = some (rngP m.toNat) := it_nat (by omega) (by omega)
    have l2 : m.toNat ≤ LIM := lim_le (by omega)
    refine ⟨bs, qs, d5, ?_, ⟨by omega, by omega, by omega, hb, hn, hqs⟩, hd5⟩
    unfold bodyG at e3
    simp only [List.nil_append, List.map_nil] at e3 e5
    simp [C_L_free_graph, runB, m_L_free_graph, z0, z1, z2, z3, z4, z5, e1, e2, e3, e4, e5, i1, i2, l2, eG]

@[simp] theorem isi_tup (xs : List PV) : pIsi "tuple" [.tup xs] = some (.bl true) := rfl
@[simp] theorem isi_tupL (o : Bool) (xs : List PV) : pIsi "tuple" [.lst o xs] = some (.bl false) := rfl
@[simp] theorem isi_ii (i : Int) : pIsi "int" [.int i] = some (.bl true) := rfl
@[simp] theorem isi_ib (i : Bool) : pIsi "int" [.bl i] = some (.bl true) := rfl
@[simp] theorem isi_bi (i : Int) : pIsi "bool" [.int i] = some (.bl false) := rfl
@[simp] theorem isi_bb (i : Bool) : pIsi "bool" [.bl i] = some (.bl true) := rfl
@[simp] theorem isi_ss (i : Str) : pIsi "str" [.str i] = some (.bl true) := rfl
theorem in_sg (n : Bool) (c : Nat) (a : List Nat) : pIn n [.str (Sg [c]), .str (Sg a)] = some (.bl (if n then !decide (c ∈ a) else decide (c ∈ a))) := by
  show some (inStr n (Sg [c]) (Sg a)) = _
  unfold inStr
  rw [_root_.SX.in_one]
theorem all_bools (o : Bool) (bs : List Bool) : pAll [.lst o (bs.map PV.bl)] = some (.bl (bs.all id)) := by
  have e : ∀ bs : List Bool, boolsP (bs.map PV.bl) = some bs := by
    intro bs
    induction bs with
    | nil => rfl
    | cons b bs ih => simp [boolsP, ih]
  show (boolsP (bs.map PV.bl)).map _ = _
  rw [e]; rfl
theorem all_map {α : Type} (o : Bool) (l : List α) (f : α → Bool) : pAll [.lst o (l.map fun x => PV.bl (f x))] = some (.bl (l.all f)) := by
  have := all_bools o (l.map f)
  rw [List.map_map, List.all_map] at this
  exact this
theorem len_str {c : List Nat} (h : c.length ≤ LIM) : pLen1 (.str (Sg c)) = some (.int c.length) := by
  show (if (Sg c).length ≤ LIM then some (PV.int (Sg c).length) else none) = _
  rw [_root_.SX.S_len, if_pos h]
theorem name_val {c : List Nat} (hl : c.length ≤ 1000000) : C_is_name [.str (Sg c)] = .ok (.bl (nameB c)) [.str (Sg c)] := by
  have e0 : (Sg c).length = c.length := _root_.SX.S_len c
  have hll : c.length ≤ LIM := lim_le (by omega)
  have hls := len_str hll
  have hdef : C_is_name = runB 2 1 [0] (mSeq (mIf (mOr (mNot (mT (mOp (pIsi "str") (oCons (oN 0) oNil)))) (mNot (mT (mChain pLe pLe (oE (mC (.int 1))) (oE (mOp pLen (oCons (oN 0) (oNil)))) (oE (mC (.int 16))))))) (mRet (mC (.bl false))) (mNx))
  (mRet (mAndV (mOp (pIn false) (oCons (oE (mOp pIx (oCons (oN 0) (oCons (oE (mC (.int 0))) oNil)))) (oCons (oE (mC (.str (Sg LETC)))) oNil))) (mOp pAll (oCons (oE (mComp (oCons (oN 0) oNil) itSeq (t1 1) (mYes) (mOp (pIn false) (oCons (oN 1) (oCons (oE (mC (.str (Sg SIGC)))) oNil))) [1])) (oNil)))))) := by
    unfold C_is_name m_is_name
    rw [lit_sig, lit_let]
  rw [hdef]
  cases c with
  | nil =>
    simp [runB, hls, e0, pLe, nameB]
  | cons a r =>
    have hx : pIx [.str (Sg (a :: r)), .int 0] = some (.str (Sg [a])) := ix_str (by omega) (by omega) rfl
    have hc : compL (t1 1) mYes (mOp (pIn false) (oCons (oN 1) (oCons (oE (mC (.str (Sg SIGC)))) oNil))) [1] ((a :: r).map fun c => PV.str ⟨#[c]⟩) [some (.str (Sg (a :: r))), none] [] = .ok ([] ++ ((a :: r).map fun c => PV.str ⟨#[c]⟩).map fun x => match x with | .str y => .bl (decide (y.cps.toList.headD 0 ∈ SIGC)) | _ => .non) [some (.str (Sg (a :: r))), none] := by
      refine compL_map (fun x hx => ?_) []
      obtain ⟨y, _, rfl⟩ := List.mem_map.mp hx
      refine ⟨[some (.str (Sg (a :: r))), some (.str ⟨#[y]⟩)], [some (.str (Sg (a :: r))), some (.str ⟨#[y]⟩)], by simp, ?_, by simp⟩
      have := in_sg false y SIGC
      simp only [Bool.false_eq_true, if_false] at this
      simp [this]
    rw [List.nil_append, List.map_map, show ((fun x : PV => match x with | .str y => PV.bl (decide (y.cps.toList.headD 0 ∈ SIGC)) | _ => .non) ∘ fun c : Nat => PV.str ⟨#[c]⟩) = fun c : Nat => PV.bl (decide (c ∈ SIGC)) from rfl] at hc
    have ha := all_map true (a :: r) fun c => decide (c ∈ SIGC)
    have hi := in_sg false a LETC
    simp only [Bool.false_eq_true, if_false] at hi
    by_cases h16 : (a :: r).length ≤ 16
    · by_cases hL : a ∈ LETC
      · simp only [List.map_cons] at hc ha
        have h1 : (1 : Int) ≤ (r.length : Int) + 1 := by omega
        have h2 : (r.length : Int) + 1 ≤ 16 := by simp at h16; omega
        have h3 : r.length ≤ 15 := by simp at h16; omega
        have h4 : r.length + 1 ≤ LIM := by simpa using hll
        simp [runB, hls, e0, pLe, nameB, hx, hi, hL, h1, h2, h3, h4, hc, ha]
      · have h1 : (1 : Int) ≤ (r.length : Int) + 1 := by omega
        have h2 : (r.length : Int) + 1 ≤ 16 := by simp at h16; omega
        simp [runB, hls, e0, pLe, nameB, hx, hi, hL, h1, h2]
    · have h1 : (1 : Int) ≤ (r.length : Int) + 1 := by omega
      have h2 : ¬ (r.length : Int) + 1 ≤ 16 := by simp at h16; omega
      have h3 : ¬ r.length ≤ 15 := by simp at h16; omega
      simp [runB, hls, e0, pLe, nameB, h1, h2, h3]

def NumV : PV → Bool
  | .int _ => true
  | .bl _ => true
  | _ => false
def wholeV (lo hi : Int) : PV → Bool
  | .int i => decide (lo ≤ i) && decide (i ≤ hi)
  | _ => false
theorem whole_val {x : PV} {lo hi : Int} (h : NumV x = true) : C_whole [x, .int lo, .int hi] = .ok (.bl (wholeV lo hi x)) [x, .int lo, .int hi] := by
  cases x with
  | int i =>
    by_cases h1 : lo ≤ i <;> by_cases h2 : i ≤ hi <;> simp [C_whole, runB, m_whole, pLe, wholeV, h1, h2]
  | bl b => simp [C_whole, runB, m_whole, wholeV]
  | _ => simp [NumV] at h
theorem numV_own {x : PV} (h : NumV x = true) : x.own = false := by
  cases x with
  | int i => rfl
  | bl b => rfl
  | _ => simp [NumV] at h
def NumsSh : PV → Prop
  | .tup xs => (∀ y ∈ xs, NumV y = true) ∧ xs.length ≤ 1000000
  | .lst o xs => o = false ∧ (∀ y ∈ xs, NumV y = true) ∧ xs.length ≤ 1000000
  | _ => False
def numsV (lo hi : Int) : PV → Bool
  | .tup xs => xs.all (wholeV lo hi)
  | _ => false
def lenV : PV → Nat
  | .tup xs => xs.length
  | _ => 0
theorem nums_own {xs : List PV} (h : ∀ y ∈ xs, NumV y = true) : PV.owns xs = false := owns_of fun y hy => numV_own (h y hy)
theorem nums_val {x : PV} {lo hi : Int} (h : NumsSh x) : C_is_numbers [x, .int lo, .int hi] = .ok (.bl (numsV lo hi x)) [x, .int lo, .int hi] := by
  cases x with
  | tup xs =>
    obtain ⟨h1, h2⟩ := h
    have ho := nums_own h1
    have hl : xs.length ≤ LIM := lim_le (by omega)
    have hc : compL (t1 3) mYes (mFz (mCallN 3 C_whole (oCons (oN 3) (oCons (oN 1) (oCons (oN 2) (oNil)))))) [3] xs [some (.tup xs), some (.int lo), some (.int hi), none] [] = .ok ([] ++ xs.map fun x => .bl (wholeV lo hi x)) [some (.tup xs), some (.int lo), some (.int hi), none] := by
      refine compL_map (fun x hx => ?_) []
      have e := whole_val (lo := lo) (hi := hi) (h1 x hx)
      have o := numV_own (h1 x hx)
      refine ⟨[some (.tup xs), some (.int lo), some (.int hi), some x], [some (.tup xs), some (.int lo), some (.int hi), some x], by simp, by simp [e, o], by simp⟩
    have ha := all_map true xs (wholeV lo hi)
    simp at hc
    simp [C_is_numbers, runB, m_is_numbers, ho, hl, hc, ha, numsV]
  | lst o xs =>
    obtain ⟨rfl, h1, h2⟩ := h
    have ho := nums_own h1
    simp [C_is_numbers, runB, m_is_numbers, ho, numsV]
  | _ => exact absurd h (by simp [NumsSh])
theorem numsSh_own {x : PV} (h : NumsSh x) : x.own = false := by
  cases x with
  | tup xs => simpa using nums_own h.1
  | lst o xs => obtain ⟨rfl, h1, h2⟩ := h; simpa using nums_own h1
  | _ => exact absurd h (by simp [NumsSh])
def timesV (x : PV) : Bool := numsV 0 60 x && (decide (1 ≤ lenV x) && decide (lenV x ≤ 6))
def deedV (x : PV) : Bool := numsV 0 9972 x && decide (lenV x = 2)
def startV (x : PV) : Bool := numsV 0 9972 x && decide (lenV x ≤ 60)
theorem numsV_tup {lo hi : Int} {x : PV} (h : numsV lo hi x = true) : ∃ xs, x = .tup xs := by
  cases x with
  | tup xs => exact ⟨xs, rfl⟩
  | _ => simp [numsV] at h
theorem times_val {x : PV} (h : NumsSh x) : C_is_times [x] = .ok (.bl (timesV x)) [x] := by
  have e := nums_val (lo := 0) (hi := 60) h
  have o := numsSh_own h
  cases hv : numsV 0 60 x with
  | false => rw [hv] at e; simp [C_is_times, runB, m_is_times, o, e, timesV, hv]
  | true =>
    obtain ⟨xs, rfl⟩ := numsV_tup hv
    rw [hv] at e
    have o2 : PV.owns xs = false := by simpa using o
    by_cases h1 : 1 ≤ xs.length <;> by_cases h2 : xs.length ≤ 6
    · have h3 : (1 : Int) ≤ xs.length := by omega
      have h4 : (xs.length : Int) ≤ 6 := by omega
      simp [C_is_times, runB, m_is_times, o2, e, timesV, hv, pLe, h1, h2, h3, h4, lenV]
    · have h3 : (1 : Int) ≤ xs.length := by omega
      have h4 : ¬ (xs.length : Int) ≤ 6 := by omega
      simp [C_is_times, runB, m_is_times, o2, e, timesV, hv, pLe, h1, h2, h3, h4, lenV]
    · have h3 : ¬ (1 : Int) ≤ xs.length := by omega
      simp [C_is_times, runB, m_is_times, o2, e, timesV, hv, pLe, h1, h2, h3, lenV]
    · omega
theorem deed_val {x : PV} (h : NumsSh x) : C_is_deed [x] = .ok (.bl (deedV x)) [x] := by
  have e := nums_val (lo := 0) (hi := 9972) h
  have o := numsSh_own h
  cases hv : numsV 0 9972 x with
  | false => rw [hv] at e; simp [C_is_deed, runB, m_is_deed, o, e, deedV, hv]
  | true =>
    obtain ⟨xs, rfl⟩ := numsV_tup hv
    rw [hv] at e
    have o2 : PV.owns xs = false := by simpa using o
    by_cases h1 : xs.length = 2
    · simp [C_is_deed, runB, m_is_deed, o2, e, deedV, hv, h1, lenV]
    · have h3 : ¬ (xs.length : Int) = 2 := by omega
      simp [C_is_deed, runB, m_is_deed, o2, e, deedV, hv, h1, h3, lenV]
theorem start_val {x : PV} (h : NumsSh x) : C_is_start [x] = .ok (.bl (startV x)) [x] := by
  have e := nums_val (lo := 0) (hi := 9972) h
  have o := numsSh_own h
  cases hv : numsV 0 9972 x with
  | false => rw [hv] at e; simp [C_is_start, runB, m_is_start, o, e, startV, hv]
  | true =>
    obtain ⟨xs, rfl⟩ := numsV_tup hv
    rw [hv] at e
    have o2 : PV.owns xs = false := by simpa using o
    by_cases h1 : xs.length ≤ 60
    · have h3 : (xs.length : Int) ≤ 60 := by omega
      simp [C_is_start, runB, m_is_start, o2, e, startV, hv, h1, h3, lenV, pLe]
    · have h3 : ¬ (xs.length : Int) ≤ 60 := by omega
      simp [C_is_start, runB, m_is_start, o2, e, startV, hv, h1, h3, lenV, pLe]
def toI : PV → Int
  | .int i => i
  | _ => 0
def sumV : PV → Int
  | .tup xs => (xs.map toI).sum
  | _ => 0
def ratesV (size : Nat) (x : PV) : Bool := numsV 0 12 x && (decide (lenV x = size) && decide (0 < sumV x))
theorem whole_ints {lo hi : Int} : ∀ {xs : List PV}, xs.all (wholeV lo hi) = true → (xs.map toI).map PV.int = xs
  | [], _ => rfl
  | x :: xs, h => by
    rw [List.all_cons, Bool.and_eq_true] at h
    rw [List.map_cons, List.map_cons, whole_ints h.2]
    cases x with
    | int i => rfl
    | _ => simp [wholeV] at h
theorem rates_val {x : PV} {size : Nat} (h : NumsSh x) : C_is_rates [x, .int size] = .ok (.bl (ratesV size x)) [x, .int size] := by
  have e := nums_val (lo := 0) (hi := 12) h
  have o := numsSh_own h
  cases hv : numsV 0 12 x with
  | false => rw [hv] at e; simp [C_is_rates, runB, m_is_rates, o, e, ratesV, hv]
  | true =>
    obtain ⟨xs, rfl⟩ := numsV_tup hv
    rw [hv] at e
    have o2 : PV.owns xs = false := by simpa using o
    have hs : pSum [.tup xs] = some (.int (xs.map toI).sum) := by
      have := sum_ofT (xs.map toI)
      rwa [whole_ints hv] at this
    by_cases h1 : xs.length = size
    · have h3 : (xs.length : Int) = size := by omega
      simp [C_is_rates, runB, m_is_rates, o2, e, ratesV, hv, h1, h3, lenV, hs, pGt, sumV]
      try rfl
    · have h3 : ¬ (xs.length : Int) = size := by omega
      simp [C_is_rates, runB, m_is_rates, o2, e, ratesV, hv, h1, h3, lenV]

structure Bk where
  c : List Nat
  t : PV
  u : PV
def eK (b : Bk) : PV := .tup [.str (Sg b.c), b.t, b.u]
structure BkSh (b : Bk) : Prop where
  c : b.c.length ≤ 1000000
  t : NumsSh b.t
  u : NumsSh b.u
def bkV (b : Bk) : Bool := nameB b.c && (timesV b.t && deedV b.u)
theorem eK_own {b : Bk} (h : BkSh b) : (eK b).own = false := by
  have h1 := numsSh_own h.t
  have h2 := numsSh_own h.u
  simp [eK, h1, h2]
theorem blk_val {b : Bk} (h : BkSh b) : C_is_block [eK b] = .ok (.bl (bkV b)) [eK b] := by
  have e1 := name_val h.c
  have e2 := times_val h.t
  have e3 := deed_val h.u
  have o1 := numsSh_own h.t
  have o2 := numsSh_own h.u
  cases h1 : nameB b.c with
  | false => rw [h1] at e1; simp [C_is_block, runB, m_is_block, eK, o1, o2, e1, bkV, h1]
  | true =>
    rw [h1] at e1
    cases h2 : timesV b.t with
    | false => rw [h2] at e2; simp [C_is_block, runB, m_is_block, eK, o1, o2, e1, e2, bkV, h1, h2]
    | true => rw [h2] at e2; simp [C_is_block, runB, m_is_block, eK, o1, o2, e1, e2, e3, bkV, h1, h2]
/-- a queue as it may be told -/
structure Qk where
  s : PV
  g : PV
  t : PV
  k : PV
  st : PV
def eR (q : Qk) : PV := .tup [q.s, q.g, q.t, q.k, q.st]
structure QkSh (q : Qk) : Prop where
  s : NumV q.s = true
  g : NumsSh q.g
  t : NumV q.t = true
  k : NumsSh q.k
  st : NumsSh q.st
def tlen (bs : List Blk) : PV → Nat
  | .int i => match bs[i.toNat]? with | some b => b.times.length | none => 0
  | _ => 0
def qkV (bs : List Blk) (q : Qk) : Bool := (wholeV 0 ((bs.length : Int) - 1) q.s && wholeV 0 ((bs.length : Int) - 1) q.t) && (ratesV (tlen bs q.s) q.g && (ratesV (tlen bs q.t) q.k && startV q.st))
theorem eR_own {q : Qk} (h : QkSh q) : (eR q).own = false := by
  simp [eR, numV_own h.s, numV_own h.t, numsSh_own h.g, numsSh_own h.k, numsSh_own h.st]
theorem whole_int {lo hi : Int} {x : PV} (h : wholeV lo hi x = true) : ∃ i, x = .int i ∧ lo ≤ i ∧ i ≤ hi := by
  cases x with
  | int i => simp [wholeV] at h; exact ⟨i, rfl, h.1, h.2⟩
  | _ => simp [wholeV] at h
theorem que_val {q : Qk} {bs : List Blk} (h : QkSh q) (hb : bs.length ≤ 1000) : C_is_queue [eR q, .tup (bs.map eB)] = .ok (.bl (qkV bs q)) [eR q, .tup (bs.map eB)] := by
  have os := numV_own h.s
  have ot := numV_own h.t
  have og := numsSh_own h.g
  have ok := numsSh_own h.k
  have ost := numsSh_own h.st
  have e1 := whole_val (lo := 0) (hi := (bs.length : Int) - 1) h.s
  have e2 := whole_val (lo := 0) (hi := (bs.length : Int) - 1) h.t
  cases v1 : wholeV 0 ((bs.length : Int) - 1) q.s with
  | false => rw [v1] at e1; simp [C_is_queue, runB, m_is_queue, eR, os, ot, og, ok, ost, e1, qkV, v1]
  | true =>
    rw [v1] at e1
    cases v2 : wholeV 0 ((bs.length : Int) - 1) q.t with
    | false => rw [v2] at e2; simp [C_is_queue, runB, m_is_queue, eR, os, ot, og, ok, ost, e1, e2, qkV, v1, v2]
    | true =>
      rw [v2] at e2
      obtain ⟨i, ei, i0, i1⟩ := whole_int v1
      obtain ⟨j, ej, j0, j1⟩ := whole_int v2
      have hi : bs[i.toNat]? = some bs[i.toNat] := List.getElem?_eq_getElem (by omega)
      have hj : bs[j.toNat]? = some bs[j.toNat] := List.getElem?_eq_getElem (by omega)
      have a1 : atI (bs.map eB) i = some (eB bs[i.toNat]) := atI_of i0 (by rw [List.getElem?_map, hi]; rfl)
      have a2 : atI (bs.map eB) j = some (eB bs[j.toNat]) := atI_of j0 (by rw [List.getElem?_map, hj]; rfl)
      have t1 : tlen bs q.s = (bs[i.toNat]).times.length := by rw [ei]; simp only [tlen, hi]
      have t2 : tlen bs q.t = (bs[j.toNat]).times.length := by rw [ej]; simp only [tlen, hj]
      have e3 := rates_val (size := (bs[i.toNat]).times.length) h.g
      have e4 := rates_val (size := (bs[j.toNat]).times.length) h.k
      have e5 := start_val h.st
      rw [ei] at e1
      rw [ej] at e2
      cases v3 : ratesV (bs[i.toNat]).times.length q.g with
      | false => rw [v3] at e3; simp [C_is_queue, runB, m_is_queue, eR, ei, ej, og, ok, ost, e1, e2, qkV, a1, a2, e3]; simp [← ei, ← ej, v1, v2, t1, v3]
      | true =>
        rw [v3] at e3
        cases v4 : ratesV (bs[j.toNat]).times.length q.k with
        | false => rw [v4] at e4; simp [C_is_queue, runB, m_is_queue, eR, ei, ej, og, ok, ost, e1, e2, qkV, a1, a2, e3, e4]; simp [← ei, ← ej, v1, v2, t1, v3, t2, v4]
        | true => rw [v4] at e4; simp [C_is_queue, runB, m_is_queue, eR, ei, ej, og, ok, ost, e1, e2, qkV, a1, a2, e3, e4, e5]; simp [← ei, ← ej, v1, v2, t1, v3, t2, v4]

@[simp] theorem ap_LenSc (os : M (List Pnd)) (it : List PV → Option (List PV)) (t : PV → Sl → Option Sl) (cond : M Bool) (el : M PV) (own : List Nat) (s : Sl) : mLenSc os it t cond el own s = (os s).bind fun ps s1 => match takeP ps s1 with
  | none => .bad
  | some (vals, s2) => match it vals with
    | none => .bad
    | some xs => if xs.length ≤ 4000 then (match keysL t cond el own xs (wipeS s2 own) [] with
      | .ok acc s3 => .ok (.int acc.length) (putP ps vals s3)
      | _ => .bad) else .bad := Eq.trans rfl rfl
def keysOf (bks : List Bk) : List Key := bks.map fun b => .inr (Sg b.c)
theorem keys_nodup {bks : List Bk} : (keysOf bks).Nodup ↔ (bks.map (·.c)).Nodup := by
  have e : keysOf bks = (bks.map (·.c)).map fun c => (.inr (Sg c) : Key) := by rw [List.map_map]; rfl
  rw [e]
  constructor
  · intro h
    generalize bks.map (·.c) = l at h
    induction l with
    | nil => exact List.nodup_nil
    | cons x l ih =>
      rw [List.map_cons, List.nodup_cons] at h
      exact List.nodup_cons.mpr ⟨fun hx => h.1 (List.mem_map_of_mem hx), ih h.2⟩
  · exact nodup_map fun a b h => _root_.SX.S_inj (Sum.inr.inj h)
def gOK (bks : List Bk) (xs : List PV) : Prop := (1 ≤ bks.length ∧ bks.length ≤ 60) ∧ xs.length ≤ 160 ∧ (∀ b ∈ bks, bkV b = true) ∧ (bks.map (·.c)).Nodup
def eGk (bks : List Bk) (xs : List PV) : PV := .tup [.tup (bks.map eK), .tup xs]
theorem eKs_own {bks : List Bk} (h : ∀ b ∈ bks, BkSh b) : PV.owns (bks.map eK) = false := owns_of fun x hx => by
  obtain ⟨b, hb, rfl⟩ := List.mem_map.mp hx
  exact eK_own (h b hb)
theorem comp_blk {bks : List Bk} (h : ∀ b ∈ bks, BkSh b) (a0 a2 a3 a4 : Option PV) : compL (t1 1) mYes (mFz (mCallN 1 C_is_block (oCons (oN 1) (oNil)))) [1] (bks.map eK) [a0, none, a2, a3, a4] [] = .ok ((bks.map fun b => PV.bl (bkV b))) [a0, none, a2, a3, a4] := by
  have : compL (t1 1) mYes (mFz (mCallN 1 C_is_block (oCons (oN 1) (oNil)))) [1] (bks.map eK) [a0, none, a2, a3, a4] [] = .ok ([] ++ (bks.map eK).map fun x => match C_is_block [x] with | .ok y _ => y | _ => .non) [a0, none, a2, a3, a4] := by
    refine compL_map (fun x hx => ?_) []
    obtain ⟨b, hb, rfl⟩ := List.mem_map.mp hx
    have e := blk_val (h b hb)
    have o := eK_own (h b hb)
    exact ⟨[a0, some (eK b), a2, a3, a4], [a0, some (eK b), a2, a3, a4], by simp, by simp [e, o], by simp⟩
  rw [this, List.nil_append, List.map_map]
  congr 1
  refine List.map_congr_left fun b hb => ?_
  simp [blk_val (h b hb)]
theorem keys_blk {bks : List Bk} (h : ∀ b ∈ bks, BkSh b) (a0 a2 a3 a4 : Option PV) : keysL (t1 1) mYes (mFz (mOp pIx (oCons (oN 1) (oCons (oE (mC (.int 0))) oNil)))) [1] (bks.map eK) [a0, none, a2, a3, a4] [] = .ok ((keysOf bks).foldl insK []) [a0, none, a2, a3, a4] := by
  have : keysL (t1 1) mYes (mFz (mOp pIx (oCons (oN 1) (oCons (oE (mC (.int 0))) oNil)))) [1] (bks.map eK) [a0, none, a2, a3, a4] [] = .ok (((bks.map eK).map fun x => match pIx [x, .int 0] with | some (.str y) => (.inr y : Key) | _ => .inl 0).foldl insK []) [a0, none, a2, a3, a4] := by
    refine keysL_map (g := fun x => match pIx [x, .int 0] with | some y => y | _ => .non) (fun x hx => ?_) []
    obtain ⟨b, hb, rfl⟩ := List.mem_map.mp hx
    have o := eK_own (h b hb)
    have e : pIx [eK b, .int 0] = some (.str (Sg b.c)) := by simp [eK]
    refine ⟨[a0, some (eK b), a2, a3, a4], [a0, some (eK b), a2, a3, a4], by simp, by simp [o, e], by simp [e, keyP], by simp⟩
  rw [this, List.map_map]
  congr 2
theorem graph_run {bks : List Bk} {xs : List PV} (h : ∀ b ∈ bks, BkSh b) (hl : bks.length ≤ 1000) (hx : PV.owns xs = false) (hxl : xs.length ≤ 1000) :
    (¬ gOK bks xs → C_is_graph [eGk bks xs] = .ok (.bl false) [eGk bks xs]) ∧
    (∀ f : PV → Bool, gOK bks xs → (∀ x ∈ xs, C_is_queue [x, .tup (bks.map eK)] = .ok (.bl (f x)) [x, .tup (bks.map eK)]) → C_is_graph [eGk bks xs] = .ok (.bl (xs.all f)) [eGk bks xs]) := by
  have ho := eKs_own h
  have l1 : bks.length ≤ LIM := lim_le (by omega)
  have l2 : xs.length ≤ LIM := lim_le (by omega)
  have l3 : bks.length ≤ 4000 := by omega
  have ha := all_map true bks bkV
  have hc := comp_blk h (some (eGk bks xs)) none (some (.tup (bks.map eK))) (some (.tup xs))
  have hk := keys_blk h (some (eGk bks xs)) none (some (.tup (bks.map eK))) (some (.tup xs))
  unfold eGk at hc hk
  by_cases c1 : 1 ≤ bks.length
  case neg =>
    have d1 : ¬ (1 : Int) ≤ bks.length := by omega
    exact ⟨fun _ => by simp [C_is_graph, runB, m_is_graph, eGk, ho, hx, pLe, d1], fun f g _ => absurd g.1.1 c1⟩
  have d1 : (1 : Int) ≤ bks.length := by omega
  by_cases c2 : bks.length ≤ 60
  case neg =>
    have d2 : ¬ (bks.length : Int) ≤ 60 := by omega
    exact ⟨fun _ => by simp [C_is_graph, runB, m_is_graph, eGk, ho, hx, pLe, d1, d2], fun f g _ => absurd g.1.2 c2⟩
  have d2 : (bks.length : Int) ≤ 60 := by omega
  by_cases c3 : xs.length ≤ 160
  case neg =>
    have d3 : ((160 : Int) < xs.length) := by omega
    exact ⟨fun _ => by simp [C_is_graph, runB, m_is_graph, eGk, ho, hx, pLe, pGt, d1, d2, d3], fun f g _ => absurd g.2.1 c3⟩
  have d3 : ¬ ((160 : Int) < xs.length) := by omega
  cases c4 : bks.all bkV with
  | false =>
    rw [c4] at ha
    exact ⟨fun _ => by simp [C_is_graph, runB, m_is_graph, eGk, ho, hx, pLe, pGt, d1, d2, d3, l1, hc, ha], fun f g _ => absurd (List.all_eq_true.mpr g.2.2.1) (by rw [c4]; simp)⟩
  | true =>
    rw [c4] at ha
    by_cases c5 : (bks.map (·.c)).Nodup
    · have e1 := insK_fold_nodup (keysOf bks) [] (by simp) (keys_nodup.mpr c5)
      have e2 : ((keysOf bks).foldl insK []).length = bks.length := by rw [e1]; simp [keysOf]
      refine ⟨fun g => absurd ⟨⟨c1, c2⟩, c3, List.all_eq_true.mp c4, c5⟩ g, fun f g hq => ?_⟩
      have hcq : compL (t1 2) mYes (mFz (mCallN 2 C_is_queue (oCons (oN 2) (oCons (oN 3) (oNil))))) [2] xs [some (.tup [.tup (bks.map eK), .tup xs]), none, none, some (.tup (bks.map eK)), some (.tup xs)] [] = .ok ([] ++ xs.map fun x => PV.bl (f x)) [some (.tup [.tup (bks.map eK), .tup xs]), none, none, some (.tup (bks.map eK)), some (.tup xs)] := by
        refine compL_map (fun x hx2 => ?_) []
        have e := hq x hx2
        have o := owns_mem hx hx2
        exact ⟨[some (.tup [.tup (bks.map eK), .tup xs]), none, some x, some (.tup (bks.map eK)), some (.tup xs)], [some (.tup [.tup (bks.map eK), .tup xs]), none, some x, some (.tup (bks.map eK)), some (.tup xs)], by simp, by simp [e, o, ho], by simp⟩
      rw [List.nil_append] at hcq
      have haq := all_map true xs f
      simp [C_is_graph, runB, m_is_graph, eGk, ho, hx, pLe, pGt, d1, d2, d3, l1, l2, l3, hc, ha, hk, e2, hcq, haq]
    · have e1 := insK_fold_lt (keysOf bks) [] (fun z => c5 (keys_nodup.mp z.2))
      have e2 : ¬ ((((keysOf bks).foldl insK []).length : Int) = bks.length) := by
        have : (keysOf bks).length = bks.length := by simp [keysOf]
        simp at e1
        omega
      exact ⟨fun _ => by simp [C_is_graph, runB, m_is_graph, eGk, ho, hx, pLe, pGt, d1, d2, d3, l1, l3, hc, ha, hk, e2], fun f g _ => absurd g.2.2.2 c5⟩

def toK (b : Blk) : Bk := ⟨b.name.cps.toList, eI b.times, eI b.deed⟩
theorem eK_toK (b : Blk) : eK (toK b) = eB b := by
  unfold eK toK eB eI
  rw [show Sg b.name.cps.toList = b.name from _root_.SX.S_tl b.name]
theorem eKs_toK (bs : List Blk) : (bs.map toK).map eK = bs.map eB := by
  rw [List.map_map]
  exact List.map_congr_left fun b _ => eK_toK b
theorem numsSh_ints {l : List Int} (h : l.length ≤ 1000000) : NumsSh (eI l) := ⟨fun y hy => by
  obtain ⟨i, _, rfl⟩ := List.mem_map.mp hy
  rfl, by rw [List.length_map]; exact h⟩
theorem numsV_ints {l : List Int} {hi : Int} (h : NumsP hi l) : numsV 0 hi (eI l) = true := by
  show (l.map PV.int).all (wholeV 0 hi) = true
  rw [List.all_eq_true]
  intro y hy
  obtain ⟨i, hi, rfl⟩ := List.mem_map.mp hy
  simp [wholeV, h i hi]
@[simp] theorem lenV_ints (l : List Int) : lenV (eI l) = l.length := by simp [lenV, eI]
theorem NameOK.val {y : Str} (h : NameOK y) : nameB y.cps.toList = true ∧ y.cps.toList.length ≤ 16 := by
  obtain ⟨c, rfl, h⟩ := h
  refine ⟨h, ?_⟩
  show c.length ≤ 16
  cases c with
  | nil => simp
  | cons a r =>
    simp only [nameB, Bool.and_eq_true, decide_eq_true_eq] at h
    exact h.1.2
theorem toK_sh {b : Blk} (h : BlkOK b) : BkSh (toK b) := by
  obtain ⟨h1, h2, h3, h4, h5, h6⟩ := h
  exact ⟨by have := h1.val.2; show b.name.cps.toList.length ≤ 1000000; omega, numsSh_ints (by omega), numsSh_ints (by omega)⟩
theorem toK_val {b : Blk} (h : BlkOK b) : bkV (toK b) = true := by
  obtain ⟨h1, h2, h3, h4, h5, h6⟩ := h
  simp [bkV, toK, timesV, deedV, h1.val.1, numsV_ints h4, numsV_ints h6, h2, h3, h5]
theorem names_toK {bs : List Blk} (h : (bs.map (·.name)).Nodup) : ((bs.map toK).map (·.c)).Nodup := by
  have e : (bs.map toK).map (·.c) = (bs.map (·.name)).map fun y => y.cps.toList := by rw [List.map_map, List.map_map]; rfl
  rw [e]
  exact nodup_map (fun a b e => by rw [← _root_.SX.S_tl a, ← _root_.SX.S_tl b, e]) h
def toQ (q : Que) : Qk := ⟨.int q.s, eI q.gives, .int q.t, eI q.takes, eI q.start⟩
theorem eR_toQ (q : Que) : eR (toQ q) = eQ q := rfl
theorem toI_ints (l : List Int) : sumV (eI l) = l.sum := by
  show ((l.map PV.int).map toI).sum = _
  rw [List.map_map, show toI ∘ PV.int = id from rfl, List.map_id]
theorem rates_good {n : Nat} {l : List Int} (h : RatesP n l) : ratesV n (eI l) = true := by
  obtain ⟨h1, h2, h3⟩ := h
  simp [ratesV, numsV_ints h2, toI_ints, h1, h3]
theorem toQ_sh {bs : List Blk} {q : Que} (hb : ∀ b ∈ bs, BlkOK b) (h : QueOK bs q) : QkSh (toQ q) := by
  obtain ⟨b1, b2, e1, e2, h1, h2, h3, h4⟩ := h
  have a1 := (hb b1 (List.mem_of_getElem? e1)).2.2.1
  have a2 := (hb b2 (List.mem_of_getElem? e2)).2.2.1
  exact ⟨rfl, numsSh_ints (by rw [h1.1]; omega), rfl, numsSh_ints (by rw [h2.1]; omega), numsSh_ints (by omega)⟩
theorem toQ_val {bs : List Blk} {q : Que} (h : QueOK bs q) : qkV bs (toQ q) = true := by
  obtain ⟨b1, b2, e1, e2, h1, h2, h3, h4⟩ := h
  have a1 := (List.getElem?_eq_some_iff.mp e1).1
  have a2 := (List.getElem?_eq_some_iff.mp e2).1
  have t1 : tlen bs (.int q.s) = b1.times.length := by simp [tlen, e1]
  have t2 : tlen bs (.int q.t) = b2.times.length := by simp [tlen, e2]
  simp [qkV, toQ, wholeV, t1, t2, rates_good h1, rates_good h2, startV, numsV_ints h4, h3]
  omega
theorem graph_good {bs : List Blk} {qs : List Que} (h : GrOK bs qs) : C_is_graph [eG bs qs] = .ok (.bl true) [eG bs qs] := by
  have e : eG bs qs = eGk (bs.map toK) (qs.map eQ) := by unfold eG eGk; rw [eKs_toK]
  have r := (graph_run (bks := bs.map toK) (xs := qs.map eQ) (fun b hb => by
    obtain ⟨c, hc, rfl⟩ := List.mem_map.mp hb
    exact toK_sh (h.bo c hc)) (by rw [List.length_map]; have := h.b2; omega) (eQs_own qs) (by rw [List.length_map]; have := h.q2; omega)).2 (fun _ => true) ⟨by rw [List.length_map]; exact ⟨h.b1, h.b2⟩, by rw [List.length_map]; exact h.q2, fun b hb => by
      obtain ⟨c, hc, rfl⟩ := List.mem_map.mp hb
      exact toK_val (h.bo c hc), names_toK h.nd⟩ (fun x hx => by
      obtain ⟨q, hq, rfl⟩ := List.mem_map.mp hx
      rw [eKs_toK, ← eR_toQ, que_val (toQ_sh h.bo (h.qo q hq)) (by have := h.b2; omega), toQ_val (h.qo q hq)])
  rw [e, r]
  simp
theorem check_good {bs : List Blk} {qs : List Que} (h : GrOK bs qs) : C_check_graph [eG bs qs] = .ok .non [eG bs qs] := by
  have e := graph_good h
  have o : (eG bs qs).own = false := by simp [eG]
  simp [C_check_graph, runB, m_check_graph, o, e]

/-- words as values -/
def eW (ws : List (List Nat)) : List PV := ws.map fun w => .str (Sg w)
theorem eW_owns (ws : List (List Nat)) : PV.owns (eW ws) = false := owns_of fun x hx => by
  obtain ⟨w, _, rfl⟩ := List.mem_map.mp hx
  rfl
theorem eW_len (ws : List (List Nat)) : (eW ws).length = ws.length := by simp [eW]
theorem eW_app (a b : List (List Nat)) : eW a ++ eW b = eW (a ++ b) := by simp [eW]
theorem eW_texts : ∀ ws : List (List Nat), textsP (eW ws) = some (ws.map Sg)
  | [] => rfl
  | w :: ws => by
    have := eW_texts ws
    unfold eW at this ⊢
    simp [textsP, this]
def sizeW (ws : List (List Nat)) : Nat := (ws.map (·.length)).sum
theorem pp_join (a : List Nat) (ws : List (List Nat)) (o : Bool) (h : sizeW ws + ws.length * a.length ≤ 16777216) : pJoin [.str (Sg a), .lst o (eW ws)] = some (.str (Sg (TL.joinL a ws))) := by
  show (match textsP (eW ws) with | some ys => if joinOk (Sg a) ys = true then some (PV.str (Txt.join (Sg a) ys)) else none | none => none) = _
  have e : joinOk (Sg a) (ws.map Sg) = true := by
    unfold joinOk
    rw [_root_.SX.lens, List.length_map, _root_.SX.S_len]
    exact decide_eq_true h
  rw [eW_texts]
  show (if joinOk (Sg a) (ws.map Sg) = true then some (PV.str (Txt.join (Sg a) (ws.map Sg))) else none) = _
  rw [if_pos e, _root_.SX.join_S]
def numC (i : Int) : List Nat := TL.numL i.toNat
theorem str_num {i : Int} (h0 : 0 ≤ i) (h1 : i ≤ 9972) : pStr [.int i] = some (.str (Sg (numC i))) := by
  have hl : i.natAbs.log2 < 1920 := by
    have : i.natAbs < 2 ^ 1920 := Nat.lt_of_le_of_lt (by omega : i.natAbs ≤ 2 ^ 14) (Nat.pow_lt_pow_right (by omega) (by omega))
    by_cases hz : i.natAbs = 0
    · rw [hz]; decide
    · exact (Nat.log2_lt hz).mpr this
  have e : ((toString i : String) : Str) = Sg (numC i) := by
    obtain ⟨n, rfl⟩ := Int.eq_ofNat_of_zero_le h0
    refine TL.ext_tl ?_
    exact TL.tl_num n
  show (if i.natAbs.log2 < 1920 then some (PV.str (toString i)) else none) = _
  rw [if_pos hl, e]
theorem numC_len {i : Int} (h0 : 0 ≤ i) (h1 : i ≤ 9972) : (numC i).length ≤ 4 := TL.numL_len (by omega) (by omega)
def wordsC (l : List Int) : List (List Nat) := l.map numC
theorem words_size : ∀ {l : List Int}, NumsP 9972 l → sizeW (wordsC l) ≤ 4 * l.length
  | [], _ => by simp [sizeW, wordsC]
  | x :: l, h => by
    have := words_size (l := l) fun i hi => h i (List.mem_cons_of_mem _ hi)
    have h2 := numC_len (h x List.mem_cons_self).1 (h x List.mem_cons_self).2
    simp only [sizeW, wordsC, List.map_cons, List.sum_cons, List.length_cons] at this ⊢
    omega
theorem joinL_len (a : List Nat) : ∀ ws : List (List Nat), (TL.joinL a ws).length ≤ sizeW ws + ws.length * a.length
  | [] => by simp [TL.joinL]
  | [p] => by simp [TL.joinL, sizeW]
  | p :: q :: r => by
    have := joinL_len a (q :: r)
    simp only [TL.joinL, sizeW, List.length_append, List.map_cons, List.sum_cons, List.length_cons, Nat.add_mul, Nat.one_mul] at this ⊢
    omega
theorem comp_words {l : List Int} (h : NumsP 9972 l) (n : Nat) (s : Sl) (hs : s.length = n + 1 ∧ s[n]? = some none) : compL (t1 n) mYes (mOp pStr (oCons (oN n) oNil)) [n] (l.map PV.int) s [] = .ok (eW (wordsC l)) s := by
  have : compL (t1 n) mYes (mOp pStr (oCons (oN n) oNil)) [n] (l.map PV.int) s [] = .ok ([] ++ (l.map PV.int).map fun x => .str (Sg (numC (toI x)))) s := by
    refine compL_map (fun x hx => ?_) []
    obtain ⟨i, hi, rfl⟩ := List.mem_map.mp hx
    have e := str_num (h i hi).1 (h i hi).2
    have hn : n < s.length := by omega
    refine ⟨s.set n (some (.int i)), s.set n (some (.int i)), rfl, ?_, ?_⟩
    · simp [hn, e, toI]
    · simp only [wipe_cons, wipe_nil, List.set_set]
      refine List.ext_getElem? fun k => ?_
      rw [List.getElem?_set]
      by_cases hk : n = k
      · subst hk; rw [if_pos rfl, if_pos hn, hs.2]
      · rw [if_neg hk]
  rw [this, List.nil_append, List.map_map]
  show R.ok _ _ = R.ok ((l.map numC).map fun w => PV.str (Sg w)) _
  rw [List.map_map]
  rfl
theorem words_ok {l : List Int} (h : NumsP 9972 l) (hl : l.length ≤ 1000) : C_L_words_of [eI l] = .ok (.lst true (eW (wordsC l))) [eI l] := by
  have e := comp_words h 1 [some (eI l), none] ⟨rfl, rfl⟩
  have l1 : l.length ≤ LIM := lim_le (by omega)
  unfold eI at e
  simp [C_L_words_of, runB, m_L_words_of, eI, e, l1]
theorem joined_ok {c : List Nat} {l : List Int} (hc : c.length ≤ 1000) (h : NumsP 9972 l) (hl : l.length ≤ 1000) : C_joined_words [.str (Sg c), eI l] = .ok (.str (Sg (32 :: TL.joinL [32] (c :: wordsC l)))) [.str (Sg c), eI l] := by
  have e := comp_words h 2 [some (.str (Sg c)), some (eI l), none] ⟨rfl, rfl⟩
  have l1 : l.length ≤ LIM := lim_le (by omega)
  have l2 : 1 + l.length ≤ LIM := lim_le (by omega)
  have sz := words_size h
  have wl : (wordsC l).length = l.length := by simp [wordsC]
  have e2 := pp_join [32] (c :: wordsC l) true (by simp only [sizeW, List.map_cons, List.sum_cons, List.length_cons] at sz ⊢; simp only [List.length_nil]; omega)
  have jl := joinL_len [32] (c :: wordsC l)
  have e3 := pp_addS [32] (TL.joinL [32] (c :: wordsC l)) (lim_le (by simp only [sizeW, List.map_cons, List.sum_cons, List.length_cons, List.length_nil] at sz jl ⊢; omega))
  have e4 : pAdd [.lst true [.str (Sg c)], .lst true (eW (wordsC l))] = some (.lst true (eW (c :: wordsC l))) := by
    show (if PV.owns [PV.str (Sg c)] = false ∧ PV.owns (eW (wordsC l)) = false ∧ [PV.str (Sg c)].length + (eW (wordsC l)).length ≤ LIM then some (PV.lst true ([PV.str (Sg c)] ++ eW (wordsC l))) else none) = _
    rw [if_pos ⟨rfl, eW_owns _, by rw [eW_len, wl]; exact l2⟩]
    rfl
  unfold eI at e
  simp only [C_joined_words, m_joined_words, lit_sp]
  simp [runB, eI, e, l1, e4, e2, e3]

def c_block : List Nat := [98, 108, 111, 99, 107]
theorem lit_block : ("block" : Str) = Sg c_block := by decide +kernel
def c_times : List Nat := [116, 105, 109, 101, 115]
theorem lit_times : ("times" : Str) = Sg c_times := by decide +kernel
def c_deed : List Nat := [100, 101, 101, 100]
theorem lit_deed : ("deed" : Str) = Sg c_deed := by decide +kernel
def c_queue : List Nat := [113, 117, 101, 117, 101]
theorem lit_queue : ("queue" : Str) = Sg c_queue := by decide +kernel
def c_gives : List Nat := [103, 105, 118, 101, 115]
theorem lit_gives : ("gives" : Str) = Sg c_gives := by decide +kernel
def c_target : List Nat := [116, 97, 114, 103, 101, 116]
theorem lit_target : ("target" : Str) = Sg c_target := by decide +kernel
def c_takes : List Nat := [116, 97, 107, 101, 115]
theorem lit_takes : ("takes" : Str) = Sg c_takes := by decide +kernel
def c_start : List Nat := [115, 116, 97, 114, 116]
theorem lit_start : ("start" : Str) = Sg c_start := by decide +kernel
theorem lit_block_ : ("block " : Str) = Sg (c_block ++ [32]) := by decide +kernel
theorem lit_queue_ : ("queue " : Str) = Sg (c_queue ++ [32]) := by decide +kernel
theorem lit_target_ : (" target " : Str) = Sg ([32] ++ (c_target ++ [32])) := by decide +kernel
theorem lit_nl : ("\n" : Str) = Sg [10] := by decide +kernel
theorem lit_e : ("" : Str) = Sg [] := by decide +kernel
theorem joinL_app (S : List Nat) : ∀ {a b : List (List Nat)}, a ≠ [] → b ≠ [] → TL.joinL S (a ++ b) = TL.joinL S a ++ (S ++ TL.joinL S b)
  | [], _, h, _ => absurd rfl h
  | [p], [], _, h => absurd rfl h
  | [p], q :: r, _, _ => rfl
  | p :: q :: r, b, _, hb => by
    have := joinL_app S (a := q :: r) (b := b) (by simp) hb
    show p ++ (S ++ TL.joinL S (q :: r ++ b)) = p ++ (S ++ TL.joinL S (q :: r)) ++ (S ++ TL.joinL S b)
    rw [this]; simp only [List.append_assoc]
def BW (n : List Nat) (b : Blk) : List (List Nat) := [c_block, n, c_times] ++ wordsC b.times ++ [c_deed] ++ wordsC b.deed
theorem nums_up {hi : Int} {l : List Int} (h : NumsP hi l) (hh : hi ≤ 9972) : NumsP 9972 l := fun i hi2 => ⟨(h i hi2).1, by have := (h i hi2).2; omega⟩
theorem jl_bound {c : List Nat} {l : List Int} (h : NumsP 9972 l) : (TL.joinL [32] (c :: wordsC l)).length ≤ c.length + 5 * l.length + 1 := by
  have sz := words_size h
  have wl : (wordsC l).length = l.length := by simp [wordsC]
  have jl := joinL_len [32] (c :: wordsC l)
  simp only [sizeW, List.map_cons, List.sum_cons, List.length_cons, List.length_nil] at sz jl ⊢
  omega
theorem name_sg {y : Str} (h : NameOK y) : ∃ n, y = Sg n ∧ n.length ≤ 16 := ⟨y.cps.toList, (_root_.SX.S_tl y).symm, h.val.2⟩
theorem bline_ok {b : Blk} (h : BlkOK b) {n : List Nat} (hn : b.name = Sg n) (hnl : n.length ≤ 16) : C_block_line [eB b] = .ok (.str (Sg (TL.joinL [32] (BW n b)))) [eB b] := by
  obtain ⟨h1, h2, h3, h4, h5, h6⟩ := h
  have h4 := nums_up h4 (by omega)
  have e1 := joined_ok (c := c_times) (by decide) h4 (by omega)
  have e2 := joined_ok (c := c_deed) (by decide) h6 (by omega)
  have b1 := jl_bound (c := c_times) h4
  have b2 := jl_bound (c := c_deed) h6
  have s1 : c_times.length = 5 := rfl
  have s2 : c_deed.length = 4 := rfl
  have s3 : c_block.length = 5 := rfl
  have p1 := pp_addS (c_block ++ [32]) n (lim_le (by simp [s3]; omega))
  have p2 := pp_addS (c_block ++ [32] ++ n) (32 :: TL.joinL [32] (c_times :: wordsC b.times)) (lim_le (by simp [s3]; omega))
  have p3 := pp_addS (c_block ++ [32] ++ n ++ (32 :: TL.joinL [32] (c_times :: wordsC b.times))) (32 :: TL.joinL [32] (c_deed :: wordsC b.deed)) (lim_le (by simp [s3]; omega))
  have fin : c_block ++ [32] ++ n ++ (32 :: TL.joinL [32] (c_times :: wordsC b.times)) ++ (32 :: TL.joinL [32] (c_deed :: wordsC b.deed)) = TL.joinL [32] (BW n b) := by
    have e : BW n b = c_block :: n :: ((c_times :: wordsC b.times) ++ (c_deed :: wordsC b.deed)) := by simp [BW]
    have ej := joinL_app [32] (a := c_times :: wordsC b.times) (b := c_deed :: wordsC b.deed) (by simp) (by simp)
    rw [e]
    show _ = c_block ++ ([32] ++ (n ++ ([32] ++ TL.joinL [32] ((c_times :: wordsC b.times) ++ (c_deed :: wordsC b.deed)))))
    rw [ej]
    simp
  rw [fin] at p3
  obtain ⟨nm, tm, dd⟩ := b
  simp only at hn e1 e2 p1 p2 p3
  subst hn
  simp only [C_block_line, m_block_line, lit_block_, lit_times, lit_deed]
  unfold eI at e1 e2
  simp only [List.append_assoc, List.cons_append, List.nil_append] at p1 p2 p3
  simp [runB, eB, e1, e2, p1, p2, p3]

structure QW0 (q : Que) : Prop where
  g : NumsP 9972 q.gives
  gl : q.gives.length ≤ 6
  k : NumsP 9972 q.takes
  kl : q.takes.length ≤ 6
  s : NumsP 9972 q.start
  sl : q.start.length ≤ 60
theorem QueOK.w {bs : List Blk} {q : Que} (hb : ∀ b ∈ bs, BlkOK b) (h : QueOK bs q) : QW0 q := by
  obtain ⟨b1, b2, e1, e2, h1, h2, h3, h4⟩ := h
  have a1 := (hb b1 (List.mem_of_getElem? e1)).2.2.1
  have a2 := (hb b2 (List.mem_of_getElem? e2)).2.2.1
  exact ⟨nums_up h1.2.1 (by omega), by rw [h1.1]; exact a1, nums_up h2.2.1 (by omega), by rw [h2.1]; exact a2, h4, h3⟩
def QW (sn tn : List Nat) (q : Que) : List (List Nat) := [sn, c_gives] ++ wordsC q.gives ++ [c_target, tn, c_takes] ++ wordsC q.takes ++ [c_start] ++ wordsC q.start
theorem qline_ok {q : Que} (h : QW0 q) {sn tn : List Nat} (hs : sn.length ≤ 16) (ht : tn.length ≤ 16) :
    C_queue_line [.str (Sg sn), eI q.gives, .str (Sg tn), eI q.takes, eI q.start] = .ok (.str (Sg (TL.joinL [32] (QW sn tn q)))) [.str (Sg sn), eI q.gives, .str (Sg tn), eI q.takes, eI q.start] := by
  obtain ⟨s, t, gives, takes, start⟩ := q
  obtain ⟨h1, h2, h3, h4, h5, h6⟩ := h
  simp only at h1 h2 h3 h4 h5 h6
  have e1 := joined_ok (c := c_gives) (by decide) h1 (by omega)
  have e2 := joined_ok (c := c_takes) (by decide) h3 (by omega)
  have e3 := joined_ok (c := c_start) (by decide) h5 (by omega)
  have b1 := jl_bound (c := c_gives) h1
  have b2 := jl_bound (c := c_takes) h3
  have b3 := jl_bound (c := c_start) h5
  have s1 : c_gives.length = 5 := rfl
  have s2 : c_takes.length = 5 := rfl
  have s3 : c_start.length = 5 := rfl
  have s4 : c_target.length = 6 := rfl
  have ej : TL.joinL [32] (QW sn tn ⟨s, t, gives, takes, start⟩) = sn ++ 32 :: TL.joinL [32] (c_gives :: wordsC gives) ++ ([32] ++ (c_target ++ [32])) ++ tn ++ 32 :: TL.joinL [32] (c_takes :: wordsC takes) ++ 32 :: TL.joinL [32] (c_start :: wordsC start) := by
    have e : QW sn tn ⟨s, t, gives, takes, start⟩ = sn :: ((c_gives :: wordsC gives) ++ (c_target :: tn :: ((c_takes :: wordsC takes) ++ (c_start :: wordsC start)))) := by simp [QW]
    rw [e]
    show sn ++ ([32] ++ TL.joinL [32] ((c_gives :: wordsC gives) ++ (c_target :: tn :: ((c_takes :: wordsC takes) ++ (c_start :: wordsC start))))) = _
    rw [joinL_app [32] (by simp) (by simp)]
    show sn ++ ([32] ++ (TL.joinL [32] (c_gives :: wordsC gives) ++ ([32] ++ (c_target ++ ([32] ++ (tn ++ ([32] ++ TL.joinL [32] ((c_takes :: wordsC takes) ++ (c_start :: wordsC start))))))))) = _
    rw [joinL_app [32] (by simp) (by simp)]
    simp
  generalize TL.joinL [32] (c_gives :: wordsC gives) = j1 at e1 b1 ej
  generalize TL.joinL [32] (c_takes :: wordsC takes) = j2 at e2 b2 ej
  generalize TL.joinL [32] (c_start :: wordsC start) = j3 at e3 b3 ej
  rw [ej]
  have p1 := pp_addS sn (32 :: j1) (lim_le (by simp; omega))
  have p2 := pp_addS (sn ++ 32 :: j1) ([32] ++ (c_target ++ [32])) (lim_le (by simp; omega))
  have p3 := pp_addS (sn ++ 32 :: j1 ++ ([32] ++ (c_target ++ [32]))) tn (lim_le (by simp; omega))
  have p4 := pp_addS (sn ++ 32 :: j1 ++ ([32] ++ (c_target ++ [32])) ++ tn) (32 :: j2) (lim_le (by simp; omega))
  have p5 := pp_addS (sn ++ 32 :: j1 ++ ([32] ++ (c_target ++ [32])) ++ tn ++ 32 :: j2) (32 :: j3) (lim_le (by simp; omega))
  unfold eI at e1 e2 e3
  simp only [C_queue_line, m_queue_line, lit_target_, lit_gives, lit_takes, lit_start]
  simp only [List.append_assoc, List.cons_append, List.nil_append] at p1 p2 p3 p4 p5
  simp [runB, eI, e1, e2, e3, p1, p2, p3, p4, p5]
theorem appW (a b : List (List Nat)) (o o2 : Bool) (h : a.length + b.length ≤ 16777216) : pAdd [.lst o (eW a), .lst o2 (eW b)] = some (.lst true (eW (a ++ b))) := by
  show (if PV.owns (eW a) = false ∧ PV.owns (eW b) = false ∧ (eW a).length + (eW b).length ≤ LIM then some (PV.lst true (eW a ++ eW b)) else none) = _
  rw [if_pos ⟨eW_owns _, eW_owns _, by rw [eW_len, eW_len]; exact h⟩, eW_app]
theorem w1 (a : List Nat) : [PV.str (Sg a)] = eW [a] := rfl
theorem w3 (a b c : List Nat) : [PV.str (Sg a), .str (Sg b), .str (Sg c)] = eW [a, b, c] := rfl
theorem w2 (a b : List Nat) : [PV.str (Sg a), .str (Sg b)] = eW [a, b] := rfl
theorem bwords_ok {b : Blk} (h : BlkOK b) {n : List Nat} (hn : b.name = Sg n) : C_L_block_words [eB b] = .ok (.lst true (eW (BW n b))) [eB b] := by
  obtain ⟨h1, h2, h3, h4, h5, h6⟩ := h
  have h4 := nums_up h4 (by omega)
  have e1 := words_ok h4 (by omega)
  have e2 := words_ok h6 (by omega)
  have l1 : (wordsC b.times).length = b.times.length := by simp [wordsC]
  have l2 : (wordsC b.deed).length = b.deed.length := by simp [wordsC]
  have p1 := appW [c_block, n, c_times] (wordsC b.times) true true (by simp; omega)
  have p2 := appW ([c_block, n, c_times] ++ wordsC b.times) [c_deed] true true (by simp; omega)
  have p3 := appW ([c_block, n, c_times] ++ wordsC b.times ++ [c_deed]) (wordsC b.deed) true true (by simp; omega)
  rw [← w3] at p1
  rw [← w1] at p2
  obtain ⟨nm, tm, dd⟩ := b
  simp only at hn e1 e2 p1 p2 p3
  subst hn
  unfold eI at e1 e2
  simp only [C_L_block_words, m_L_block_words, lit_block, lit_times, lit_deed]
  simp only [BW]
  generalize wordsC tm = x1 at *
  generalize wordsC dd = x2 at *
  simp only [List.append_assoc, List.cons_append, List.nil_append] at p1 p2 p3
  simp [runB, eB, e1, e2, p1, p2, p3, eW_owns]

def nm (b : Blk) : List Nat := b.name.cps.toList
def nmAt (bs : List Blk) (i : Nat) : List Nat := match bs[i]? with | some b => nm b | none => []
theorem nm_name (b : Blk) : b.name = Sg (nm b) := (_root_.SX.S_tl b.name).symm
theorem nm_len {b : Blk} (h : BlkOK b) : (nm b).length ≤ 16 := h.1.val.2
def bLine (b : Blk) : List Nat := TL.joinL [32] (BW (nm b) b)
def qLine (bs : List Blk) (q : Que) : List Nat := TL.joinL [32] (c_queue :: QW (nmAt bs q.s) (nmAt bs q.t) q)
theorem sizeW_app (a b : List (List Nat)) : sizeW (a ++ b) = sizeW a + sizeW b := by simp [sizeW]
theorem bLine_len {b : Blk} (h : BlkOK b) : (bLine b).length ≤ 1000 := by
  have hn := nm_len h
  obtain ⟨h1, h2, h3, h4, h5, h6⟩ := h
  have s1 := words_size (nums_up h4 (by omega))
  have s2 := words_size h6
  have l1 : (wordsC b.times).length = b.times.length := by simp [wordsC]
  have l2 : (wordsC b.deed).length = b.deed.length := by simp [wordsC]
  have j := joinL_len [32] (BW (nm b) b)
  unfold bLine
  simp only [BW, sizeW_app, List.length_append, List.length_cons, List.length_nil] at j
  have a1 : sizeW [c_block, nm b, c_times] = 10 + (nm b).length := by simp [sizeW, c_block, c_times]; omega
  have a2 : sizeW [c_deed] = 4 := rfl
  simp only [BW]
  omega
theorem qLine_eq (bs : List Blk) (q : Que) : qLine bs q = c_queue ++ [32] ++ TL.joinL [32] (QW (nmAt bs q.s) (nmAt bs q.t) q) := by
  unfold qLine
  have e : QW (nmAt bs q.s) (nmAt bs q.t) q = nmAt bs q.s :: ([c_gives] ++ wordsC q.gives ++ [c_target, nmAt bs q.t, c_takes] ++ wordsC q.takes ++ [c_start] ++ wordsC q.start) := by simp [QW]
  rw [e]
  simp only [TL.joinL, List.append_assoc]
theorem qLine_len {bs : List Blk} {q : Que} (h : QW0 q) (hs : (nmAt bs q.s).length ≤ 16) (ht : (nmAt bs q.t).length ≤ 16) : (qLine bs q).length ≤ 1000 := by
  have s1 := words_size h.g
  have s2 := words_size h.k
  have s3 := words_size h.s
  have := h.gl
  have := h.kl
  have := h.sl
  have l1 : (wordsC q.gives).length = q.gives.length := by simp [wordsC]
  have l2 : (wordsC q.takes).length = q.takes.length := by simp [wordsC]
  have l3 : (wordsC q.start).length = q.start.length := by simp [wordsC]
  have j := joinL_len [32] (c_queue :: QW (nmAt bs q.s) (nmAt bs q.t) q)
  have e : c_queue :: QW (nmAt bs q.s) (nmAt bs q.t) q = [c_queue, nmAt bs q.s, c_gives] ++ wordsC q.gives ++ [c_target, nmAt bs q.t, c_takes] ++ wordsC q.takes ++ [c_start] ++ wordsC q.start := by simp [QW]
  unfold qLine
  rw [e] at j ⊢
  simp only [sizeW_app, List.length_append, List.length_cons, List.length_nil] at j
  have a1 : sizeW [c_queue, nmAt bs q.s, c_gives] = 10 + (nmAt bs q.s).length := by simp [sizeW, c_queue, c_gives]; omega
  have a2 : sizeW [c_start] = 5 := rfl
  have a3 : sizeW [c_target, nmAt bs q.t, c_takes] = 11 + (nmAt bs q.t).length := by simp [sizeW, c_target, c_takes]; omega
  omega
theorem nmAt_len {bs : List Blk} (hb : ∀ b ∈ bs, BlkOK b) (i : Nat) : (nmAt bs i).length ≤ 16 := by
  unfold nmAt
  split
  · rename_i b e; exact nm_len (hb b (List.mem_of_getElem? e))
  · simp
noncomputable def bodyT : MS := mSeq (mAsg (mCallN 5 C_queue_line (oCons (oE (mOp pIx (oCons (oE (mOp pIx (oCons (oN 3) (oCons (oN 6) oNil)))) (oCons (oE (mC (.int 0))) oNil)))) (oCons (oN 7) (oCons (oE (mOp pIx (oCons (oE (mOp pIx (oCons (oN 3) (oCons (oN 8) oNil)))) (oCons (oE (mC (.int 0))) oNil)))) (oCons (oN 9) (oCons (oN 10) (oNil))))))) (t1 11))
  (mDrop (mMeth 5 fApp (vCons (mFz (mOp pAdd (oCons (oE (mC (.str (Sg (c_queue ++ [32]))))) (oCons (oN 11) oNil)))) (vNil))))
theorem bodyT_ok {bs : List Blk} {q : Que} (hb : ∀ b ∈ bs, BlkOK b) (hq : QueOK bs q) (a0 a1 a2 a4 a6 a7 a8 a9 a10 a11 : Option PV) (ls : List (List Nat)) (hl : ls.length ≤ 1000) :
    ∃ b6 b7 b8 b9 b10 b11, (tN [6, 7, 8, 9, 10] (eQ q) [a0, a1, a2, some (.tup (bs.map eB)), a4, some (.lst true (eW ls)), a6, a7, a8, a9, a10, a11]).map bodyT = some (.nx [a0, a1, a2, some (.tup (bs.map eB)), a4, some (.lst true (eW (ls ++ [qLine bs q]))), b6, b7, b8, b9, b10, b11]) := by
  have w := hq.w hb
  have e := qline_ok w (nmAt_len hb q.s) (nmAt_len hb q.t)
  have ll := qLine_len (bs := bs) w (nmAt_len hb q.s) (nmAt_len hb q.t)
  obtain ⟨b1, b2, e1, e2, h1, h2, h3, h4⟩ := hq
  have i1 : atI (bs.map eB) q.s = some (eB b1) := atI_of (by omega) (by rw [List.getElem?_map, Int.toNat_natCast, e1]; rfl)
  have i2 : atI (bs.map eB) q.t = some (eB b2) := atI_of (by omega) (by rw [List.getElem?_map, Int.toNat_natCast, e2]; rfl)
  have n1 : b1.name = Sg (nmAt bs q.s) := by unfold nmAt; rw [e1]; exact nm_name b1
  have n2 : b2.name = Sg (nmAt bs q.t) := by unfold nmAt; rw [e2]; exact nm_name b2
  have p := pp_addS (c_queue ++ [32]) (TL.joinL [32] (QW (nmAt bs q.s) (nmAt bs q.t) q)) (lim_le (by rw [qLine_eq] at ll; simp at ll ⊢; omega))
  rw [← qLine_eq] at p
  have l1 : (eW ls).length < LIM := lim_lt (by rw [eW_len]; omega)
  have ea : eW ls ++ [PV.str (Sg (qLine bs q))] = eW (ls ++ [qLine bs q]) := by simp [eW]
  unfold eI at e
  refine ⟨some (.int q.s), some (.tup (q.gives.map PV.int)), some (.int q.t), some (.tup (q.takes.map PV.int)), some (.tup (q.start.map PV.int)), some (.str (Sg (TL.joinL [32] (QW (nmAt bs q.s) (nmAt bs q.t) q)))), ?_⟩
  simp only [eQ]
  simp [bodyT, i1, i2, n1, n2, e, p, l1, eW_owns, ea]

theorem loopT {bs : List Blk} (hb : ∀ b ∈ bs, BlkOK b) (a0 a1 a2 a4 : Option PV) : ∀ (qs : List Que) (ls : List (List Nat)) (a6 a7 a8 a9 a10 a11 : Option PV), (∀ q ∈ qs, QueOK bs q) → ls.length + qs.length ≤ 1000 →
    ∃ b6 b7 b8 b9 b10 b11, forL (tN [6, 7, 8, 9, 10]) bodyT (qs.map eQ) [a0, a1, a2, some (.tup (bs.map eB)), a4, some (.lst true (eW ls)), a6, a7, a8, a9, a10, a11] = .nx [a0, a1, a2, some (.tup (bs.map eB)), a4, some (.lst true (eW (ls ++ qs.map (qLine bs)))), b6, b7, b8, b9, b10, b11] := by
  intro qs
  induction qs with
  | nil => intro ls a6 a7 a8 a9 a10 a11 _ _; exact ⟨a6, a7, a8, a9, a10, a11, by simp [forL]⟩
  | cons q qs ih =>
    intro ls a6 a7 a8 a9 a10 a11 hq hl
    rw [List.length_cons] at hl
    obtain ⟨b6, b7, b8, b9, b10, b11, e⟩ := bodyT_ok hb (hq q List.mem_cons_self) a0 a1 a2 a4 a6 a7 a8 a9 a10 a11 ls (by omega)
    obtain ⟨s1, e1, e2⟩ := Option.map_eq_some_iff.mp e
    obtain ⟨c6, c7, c8, c9, c10, c11, e3⟩ := ih (ls ++ [qLine bs q]) b6 b7 b8 b9 b10 b11 (fun z hz => hq z (List.mem_cons_of_mem _ hz)) (by simp; omega)
    refine ⟨c6, c7, c8, c9, c10, c11, ?_⟩
    rw [List.append_assoc] at e3
    simp only [List.map_cons, forL, e1, e2, e3]
    rfl
def gLines (bs : List Blk) (qs : List Que) : List (List Nat) := bs.map bLine ++ qs.map (qLine bs)
def gText (bs : List Blk) (qs : List Que) : List Nat := TL.joinL [] ((gLines bs qs).map (· ++ [10]))
theorem lines_len {bs : List Blk} {qs : List Que} (h : GrOK bs qs) : ∀ l ∈ gLines bs qs, l.length ≤ 1000 := by
  intro l hl
  rcases List.mem_append.mp hl with z | z
  · obtain ⟨b, hb, rfl⟩ := List.mem_map.mp z
    exact bLine_len (h.bo b hb)
  · obtain ⟨q, hq, rfl⟩ := List.mem_map.mp z
    exact qLine_len ((h.qo q hq).w h.bo) (nmAt_len h.bo _) (nmAt_len h.bo _)
theorem gText_size : ∀ {ls : List (List Nat)}, (∀ l ∈ ls, l.length ≤ 1000) → sizeW (ls.map (· ++ [10])) ≤ 1001 * ls.length
  | [], _ => by simp [sizeW]
  | l :: ls, h => by
    have := gText_size (ls := ls) fun z hz => h z (List.mem_cons_of_mem _ hz)
    have := h l List.mem_cons_self
    simp only [sizeW, List.map_cons, List.sum_cons, List.length_cons, List.length_append, List.length_nil] at *
    omega
theorem comp_nl {ls : List (List Nat)} (hl : ∀ l ∈ ls, l.length ≤ 1000) (s : Sl) (hs : s[2]? = some none) : compL (t1 2) mYes (mFz (mOp pAdd (oCons (oN 2) (oCons (oE (mC (.str (Sg [10])))) oNil)))) [2] (eW ls) s [] = .ok (eW (ls.map (· ++ [10]))) s := by
  have : compL (t1 2) mYes (mFz (mOp pAdd (oCons (oN 2) (oCons (oE (mC (.str (Sg [10])))) oNil)))) [2] (eW ls) s [] = .ok ([] ++ (eW ls).map fun x => match x with | .str y => .str (Sg (y.cps.toList ++ [10])) | _ => .non) s := by
    refine compL_map (fun x hx => ?_) []
    obtain ⟨l, hl2, rfl⟩ := List.mem_map.mp hx
    have e := pp_addS l [10] (lim_le (by have := hl l hl2; simp; omega))
    have hn : 2 < s.length := (List.getElem?_eq_some_iff.mp hs).1
    refine ⟨s.set 2 (some (.str (Sg l))), s.set 2 (some (.str (Sg l))), rfl, ?_, ?_⟩
    · simp [hn, e]
    · simp only [wipe_cons, wipe_nil, List.set_set]
      refine List.ext_getElem? fun k => ?_
      rw [List.getElem?_set]
      by_cases hk : 2 = k
      · subst hk; rw [if_pos rfl, if_pos hn, hs]
      · rw [if_neg hk]
  rw [this, List.nil_append]
  simp only [eW, List.map_map]
  rfl

theorem text_ok {bs : List Blk} {qs : List Que} (h : GrOK bs qs) : C_graph_text [eG bs qs] = .ok (.str (Sg (gText bs qs))) [eG bs qs] := by
  have ec := check_good h
  have hb2 := h.b2
  have hq2 := h.q2
  have l1 : bs.length ≤ LIM := lim_le (by omega)
  have og : (eG bs qs).own = false := by simp [eG]
  have hcb : compL (t1 1) mYes (mFz (mCallN 1 C_block_line (oCons (oN 1) (oNil)))) [1] (bs.map eB) [some (eG bs qs), none, none, some (.tup (bs.map eB)), some (.tup (qs.map eQ)), none, none, none, none, none, none, none] [] = .ok (eW (bs.map bLine)) [some (eG bs qs), none, none, some (.tup (bs.map eB)), some (.tup (qs.map eQ)), none, none, none, none, none, none, none] := by
    have : compL (t1 1) mYes (mFz (mCallN 1 C_block_line (oCons (oN 1) (oNil)))) [1] (bs.map eB) [some (eG bs qs), none, none, some (.tup (bs.map eB)), some (.tup (qs.map eQ)), none, none, none, none, none, none, none] [] = .ok ([] ++ (bs.map eB).map fun x => match C_block_line [x] with | .ok y _ => y | _ => .non) [some (eG bs qs), none, none, some (.tup (bs.map eB)), some (.tup (qs.map eQ)), none, none, none, none, none, none, none] := by
      refine compL_map (fun x hx => ?_) []
      obtain ⟨b, hb, rfl⟩ := List.mem_map.mp hx
      have e := bline_ok (h.bo b hb) (nm_name b) (nm_len (h.bo b hb))
      exact ⟨[some (eG bs qs), some (eB b), none, some (.tup (bs.map eB)), some (.tup (qs.map eQ)), none, none, none, none, none, none, none], [some (eG bs qs), some (eB b), none, some (.tup (bs.map eB)), some (.tup (qs.map eQ)), none, none, none, none, none, none, none], by simp, by simp [e], by simp⟩
    rw [this, List.nil_append, List.map_map, eW, List.map_map]
    congr 1
    refine List.map_congr_left fun b hb => ?_
    have e := bline_ok (h.bo b hb) (nm_name b) (nm_len (h.bo b hb))
    simp [e, bLine]
  obtain ⟨b6, b7, b8, b9, b10, b11, el⟩ := loopT h.bo (some (eG bs qs)) none none (some (.tup (qs.map eQ))) qs (bs.map bLine) none none none none none none h.qo (by rw [List.length_map]; omega)
  have hll := lines_len h
  have hln : (gLines bs qs).length = bs.length + qs.length := by simp [gLines]
  have hcn := comp_nl (ls := gLines bs qs) hll [some (eG bs qs), none, none, some (.tup (bs.map eB)), some (.tup (qs.map eQ)), none, b6, b7, b8, b9, b10, b11] rfl
  have sz := gText_size hll
  have ej := pp_join [] ((gLines bs qs).map (· ++ [10])) true (by simp only [List.length_nil, Nat.mul_zero]; omega)
  have l2 : (eW (gLines bs qs)).length ≤ LIM := lim_le (by rw [eW_len, hln]; omega)
  unfold bodyT at el
  change forL _ _ _ _ = Out.nx [_, _, _, _, _, some (.lst true (eW (gLines bs qs))), _, _, _, _, _, _] at el
  simp only [C_graph_text, m_graph_text, lit_queue_, lit_nl, lit_e]
  have eg : eG bs qs = .tup [.tup (bs.map eB), .tup (qs.map eQ)] := rfl
  rw [eg] at ec hcb el hcn ⊢
  simp [runB, ec, l1, hcb, el, hcn, l2, ej, eW_owns, gText]

theorem qwords_ok {bs : List Blk} {q : Que} (h : QW0 q) {sn tn : List Nat} : C_L_queue_words [.lst true [.str (Sg c_queue)], eQ q, .str (Sg sn), .str (Sg tn)] = .ok (.lst true (eW (c_queue :: QW sn tn q))) [.lst true [.str (Sg c_queue)], eQ q, .str (Sg sn), .str (Sg tn)] := by
  obtain ⟨s, t, gives, takes, start⟩ := q
  obtain ⟨h1, h2, h3, h4, h5, h6⟩ := h
  simp only at h1 h2 h3 h4 h5 h6
  have e1 := words_ok h1 (by omega)
  have e2 := words_ok h3 (by omega)
  have e3 := words_ok h5 (by omega)
  have l1 : (wordsC gives).length = gives.length := by simp [wordsC]
  have l2 : (wordsC takes).length = takes.length := by simp [wordsC]
  have l3 : (wordsC start).length = start.length := by simp [wordsC]
  have e : c_queue :: QW sn tn ⟨s, t, gives, takes, start⟩ = [c_queue] ++ [sn, c_gives] ++ wordsC gives ++ [c_target, tn, c_takes] ++ wordsC takes ++ [c_start] ++ wordsC start := by simp [QW]
  rw [e]
  unfold eI at e1 e2 e3
  generalize wordsC gives = x1 at *
  generalize wordsC takes = x2 at *
  generalize wordsC start = x3 at *
  have p1 := appW [c_queue] [sn, c_gives] true true (by simp)
  have p2 := appW ([c_queue] ++ [sn, c_gives]) x1 true true (by simp; omega)
  have p3 := appW ([c_queue] ++ [sn, c_gives] ++ x1) [c_target, tn, c_takes] true true (by simp; omega)
  have p4 := appW ([c_queue] ++ [sn, c_gives] ++ x1 ++ [c_target, tn, c_takes]) x2 true true (by simp; omega)
  have p5 := appW ([c_queue] ++ [sn, c_gives] ++ x1 ++ [c_target, tn, c_takes] ++ x2) [c_start] true true (by simp; omega)
  have p6 := appW ([c_queue] ++ [sn, c_gives] ++ x1 ++ [c_target, tn, c_takes] ++ x2 ++ [c_start]) x3 true true (by simp; omega)
  rw [← w1, ← w2] at p1
  rw [← w3] at p3
  rw [← w1 c_start] at p5
  simp only [C_L_queue_words, m_L_queue_words, lit_gives, lit_target, lit_takes, lit_start]
  simp only [List.append_assoc, List.cons_append, List.nil_append] at p1 p2 p3 p4 p5 p6
  simp [runB, eQ, e1, e2, e3, p1, p2, p3, p4, p5, p6, eW_owns]

/-- rows of words as values -/
def eWW (o : Bool) (ws : List (List (List Nat))) : List PV := ws.map fun w => .lst o (eW w)
theorem eWW_owns (ws : List (List (List Nat))) : PV.owns (eWW false ws) = false := owns_of fun x hx => by
  obtain ⟨w, _, rfl⟩ := List.mem_map.mp hx
  simp [eW_owns]
noncomputable def bodyL : MS := mDrop (mMeth 3 fApp (vCons (mFz (mCallN 4 C_L_queue_words (oCons (oE (mLst (vCons (mC (.str (Sg c_queue))) (vNil)))) (oCons (oN 4) (oCons (oE (mOp pIx (oCons (oN 2) (oCons (oE (mOp pIx (oCons (oN 4) (oCons (oE (mC (.int 0))) oNil)))) oNil)))) (oCons (oE (mOp pIx (oCons (oN 2) (oCons (oE (mOp pIx (oCons (oN 4) (oCons (oE (mC (.int 2))) oNil)))) oNil)))) (oNil))))))) (vNil)))
def qWords (bs : List Blk) (q : Que) : List (List Nat) := c_queue :: QW (nmAt bs q.s) (nmAt bs q.t) q
theorem bodyL_ok {bs : List Blk} {q : Que} (hb : ∀ b ∈ bs, BlkOK b) (hq : QueOK bs q) (a0 a1 : Option PV) (ls : List (List (List Nat))) (hl : ls.length ≤ 1000) :
    bodyL [a0, a1, some (.lst true (eW (bs.map nm))), some (.lst true (eWW false ls)), some (eQ q)] = .nx [a0, a1, some (.lst true (eW (bs.map nm))), some (.lst true (eWW false (ls ++ [qWords bs q]))), some (eQ q)] := by
  have w := hq.w hb
  have e := qwords_ok (bs := bs) w (sn := nmAt bs q.s) (tn := nmAt bs q.t)
  obtain ⟨b1, b2, e1, e2, h1, h2, h3, h4⟩ := hq
  have i1 : atI (eW (bs.map nm)) q.s = some (.str (Sg (nmAt bs q.s))) := atI_of (by omega) (by simp [eW, e1, nmAt])
  have i2 : atI (eW (bs.map nm)) q.t = some (.str (Sg (nmAt bs q.t))) := atI_of (by omega) (by simp [eW, e2, nmAt])
  have x0 : pIx [eQ q, .int 0] = some (.int q.s) := by simp [eQ]
  have x2 : pIx [eQ q, .int 2] = some (.int q.t) := by simp [eQ]
  have l1 : (eWW false ls).length < LIM := lim_lt (by simp [eWW]; omega)
  have ea : eWW false ls ++ [PV.lst false (eW (qWords bs q))] = eWW false (ls ++ [qWords bs q]) := by simp [eWW]
  have e : C_L_queue_words [.lst true [.str (Sg c_queue)], eQ q, .str (Sg (nmAt bs q.s)), .str (Sg (nmAt bs q.t))] = .ok (.lst true (eW (qWords bs q))) [.lst true [.str (Sg c_queue)], eQ q, .str (Sg (nmAt bs q.s)), .str (Sg (nmAt bs q.t))] := e
  simp [bodyL, i1, i2, x0, x2, e, l1, eW_owns, ea, eWW_owns]

theorem loopL {bs : List Blk} (hb : ∀ b ∈ bs, BlkOK b) (a0 a1 : Option PV) : ∀ (qs : List Que) (ls : List (List (List Nat))) (a4 : Option PV), (∀ q ∈ qs, QueOK bs q) → ls.length + qs.length ≤ 1000 →
    ∃ b4, forL (t1 4) bodyL (qs.map eQ) [a0, a1, some (.lst true (eW (bs.map nm))), some (.lst true (eWW false ls)), a4] = .nx [a0, a1, some (.lst true (eW (bs.map nm))), some (.lst true (eWW false (ls ++ qs.map (qWords bs)))), b4] := by
  intro qs
  induction qs with
  | nil => intro ls a4 _ _; exact ⟨a4, by simp [forL]⟩
  | cons q qs ih =>
    intro ls a4 hq hl
    rw [List.length_cons] at hl
    have e := bodyL_ok hb (hq q List.mem_cons_self) a0 a1 ls (by omega)
    obtain ⟨b4, e3⟩ := ih (ls ++ [qWords bs q]) (some (eQ q)) (fun z hz => hq z (List.mem_cons_of_mem _ hz)) (by simp; omega)
    refine ⟨b4, ?_⟩
    rw [List.append_assoc] at e3
    simp only [List.map_cons, forL, ap_t1, List.set_cons_succ, List.set_cons_zero, e, e3]
    rfl
def gWords (bs : List Blk) (qs : List Que) : List (List (List Nat)) := bs.map (fun b => BW (nm b) b) ++ qs.map (qWords bs)
theorem gWords_join (bs : List Blk) (qs : List Que) : (gWords bs qs).map (TL.joinL [32]) = gLines bs qs := by
  simp only [gWords, gLines, List.map_append, List.map_map]
  rfl

theorem glines_ok {bs : List Blk} {qs : List Que} (h : GrOK bs qs) : C_L_graph_lines [eG bs qs] = .ok (.lst true (eWW false (gWords bs qs))) [eG bs qs] := by
  have hb2 := h.b2
  have hq2 := h.q2
  have l1 : bs.length ≤ LIM := lim_le (by omega)
  have eg : eG bs qs = .tup [.tup (bs.map eB), .tup (qs.map eQ)] := rfl
  have hn : ∀ a0, compL (t1 1) mYes (mFz (mOp pIx (oCons (oN 1) (oCons (oE (mC (.int 0))) oNil)))) [1] (bs.map eB) [a0, none, none, none, none] [] = .ok (eW (bs.map nm)) [a0, none, none, none, none] := fun a0 => by
    have : compL (t1 1) mYes (mFz (mOp pIx (oCons (oN 1) (oCons (oE (mC (.int 0))) oNil)))) [1] (bs.map eB) [a0, none, none, none, none] [] = .ok ([] ++ (bs.map eB).map fun x => match pIx [x, .int 0] with | some y => y | _ => .non) [a0, none, none, none, none] := by
      refine compL_map (fun x hx => ?_) []
      obtain ⟨b, hb, rfl⟩ := List.mem_map.mp hx
      exact ⟨[a0, some (eB b), none, none, none], [a0, some (eB b), none, none, none], by simp, by simp, by simp⟩
    rw [this, List.nil_append, List.map_map, eW, List.map_map]
    congr 1
  have hw : ∀ a0 a2, compL (t1 1) mYes (mFz (mCallN 1 C_L_block_words (oCons (oN 1) (oNil)))) [1] (bs.map eB) [a0, none, a2, none, none] [] = .ok (eWW false (bs.map fun b => BW (nm b) b)) [a0, none, a2, none, none] := fun a0 a2 => by
    have : compL (t1 1) mYes (mFz (mCallN 1 C_L_block_words (oCons (oN 1) (oNil)))) [1] (bs.map eB) [a0, none, a2, none, none] [] = .ok ([] ++ (bs.map eB).map fun x => match C_L_block_words [x] with | .ok y _ => (match frzP y with | some z => z | none => .non) | _ => .non) [a0, none, a2, none, none] := by
      refine compL_map (fun x hx => ?_) []
      obtain ⟨b, hb, rfl⟩ := List.mem_map.mp hx
      have e := bwords_ok (h.bo b hb) (nm_name b)
      exact ⟨[a0, some (eB b), a2, none, none], [a0, some (eB b), a2, none, none], by simp, by simp [e, eW_owns], by simp⟩
    rw [this, List.nil_append, List.map_map, eWW, List.map_map]
    congr 1
    refine List.map_congr_left fun b hb => ?_
    have e := bwords_ok (h.bo b hb) (nm_name b)
    simp [e, eW_owns]
  obtain ⟨b4, el⟩ := loopL h.bo (some (eG bs qs)) none qs (bs.map fun b => BW (nm b) b) none h.qo (by rw [List.length_map]; omega)
  unfold bodyL at el
  change forL _ _ _ _ = Out.nx [_, _, _, some (.lst true (eWW false (gWords bs qs))), _] at el
  simp only [C_L_graph_lines, m_L_graph_lines, lit_queue]
  rw [eg] at el ⊢
  simp [runB, l1, hn, hw, el, eWW_owns, eW_owns]

theorem ltext_ok {ws : List (List (List Nat))} (h1 : ws.length ≤ 1000) (h2 : ∀ w ∈ ws, sizeW w + w.length ≤ 1000) (h3 : ∀ l ∈ ws.map (TL.joinL [32]), l.length ≤ 1000) : C_L_text [.lst true (eWW false ws)] = .ok (.str (Sg (TL.joinL [] ((ws.map (TL.joinL [32])).map (· ++ [10]))))) [.lst true (eWW false ws)] := by
  have hc : ∀ a0, compL (t1 1) mYes (mFz (mOp pAdd (oCons (oE (mStr1 pJoin (mC (.str (Sg [32]))) (oN 1))) (oCons (oE (mC (.str (Sg [10])))) oNil)))) [1] (eWW false ws) [a0, none] [] = .ok (eW ((ws.map (TL.joinL [32])).map (· ++ [10]))) [a0, none] := fun a0 => by
    have : compL (t1 1) mYes (mFz (mOp pAdd (oCons (oE (mStr1 pJoin (mC (.str (Sg [32]))) (oN 1))) (oCons (oE (mC (.str (Sg [10])))) oNil)))) [1] (eWW false ws) [a0, none] [] = .ok ([] ++ (eWW false ws).map fun x => match pJoin [.str (Sg [32]), x] with | some (.str y) => .str (Sg (y.cps.toList ++ [10])) | _ => .non) [a0, none] := by
      refine compL_map (fun x hx => ?_) []
      obtain ⟨w, hw, rfl⟩ := List.mem_map.mp hx
      have e := pp_join [32] w false (by have := h2 w hw; simp; omega)
      have e2 := pp_addS (TL.joinL [32] w) [10] (lim_le (by have := h3 _ (List.mem_map_of_mem hw); simp; omega))
      exact ⟨[a0, some (.lst false (eW w))], [a0, some (.lst false (eW w))], by simp, by simp [e, e2, eW_owns], by simp⟩
    rw [this, List.nil_append, eWW, List.map_map, eW, List.map_map, List.map_map]
    congr 1
    refine List.map_congr_left fun w hw => ?_
    have e := pp_join [32] w false (by have := h2 w hw; simp; omega)
    simp [e]
  have sz := gText_size h3
  rw [List.length_map] at sz
  have ej := pp_join [] ((ws.map (TL.joinL [32])).map (· ++ [10])) true (by simp only [List.length_nil, Nat.mul_zero]; omega)
  have l1 : (eWW false ws).length ≤ LIM := lim_le (by simp [eWW]; omega)
  simp only [C_L_text, m_L_text, lit_sp, lit_nl, lit_e]
  generalize (ws.map (TL.joinL [32])).map (· ++ [10]) = z at *
  simp [runB, hc, ej, l1, eWW_owns, eW_owns]

theorem bw_size {b : Blk} (h : BlkOK b) : sizeW (BW (nm b) b) + (BW (nm b) b).length ≤ 1000 := by
  have hn := nm_len h
  obtain ⟨h1, h2, h3, h4, h5, h6⟩ := h
  have s1 := words_size (nums_up h4 (by omega))
  have s2 := words_size h6
  have l1 : (wordsC b.times).length = b.times.length := by simp [wordsC]
  have l2 : (wordsC b.deed).length = b.deed.length := by simp [wordsC]
  have a1 : sizeW [c_block, nm b, c_times] = 10 + (nm b).length := by simp [sizeW, c_block, c_times]; omega
  have a2 : sizeW [c_deed] = 4 := rfl
  simp only [BW, sizeW_app, List.length_append, List.length_cons, List.length_nil]
  omega
theorem qw_size {bs : List Blk} {q : Que} (h : QW0 q) (hs : (nmAt bs q.s).length ≤ 16) (ht : (nmAt bs q.t).length ≤ 16) : sizeW (qWords bs q) + (qWords bs q).length ≤ 1000 := by
  have s1 := words_size h.g
  have s2 := words_size h.k
  have s3 := words_size h.s
  have := h.gl
  have := h.kl
  have := h.sl
  have l1 : (wordsC q.gives).length = q.gives.length := by simp [wordsC]
  have l2 : (wordsC q.takes).length = q.takes.length := by simp [wordsC]
  have l3 : (wordsC q.start).length = q.start.length := by simp [wordsC]
  have e : qWords bs q = [c_queue, nmAt bs q.s, c_gives] ++ wordsC q.gives ++ [c_target, nmAt bs q.t, c_takes] ++ wordsC q.takes ++ [c_start] ++ wordsC q.start := by simp [QW, qWords]
  have a1 : sizeW [c_queue, nmAt bs q.s, c_gives] = 10 + (nmAt bs q.s).length := by simp [sizeW, c_queue, c_gives]; omega
  have a2 : sizeW [c_start] = 5 := rfl
  have a3 : sizeW [c_target, nmAt bs q.t, c_takes] = 11 + (nmAt bs q.t).length := by simp [sizeW, c_target, c_takes]; omega
  rw [e]
  simp only [sizeW_app, List.length_append, List.length_cons, List.length_nil]
  omega
theorem gw_size {bs : List Blk} {qs : List Que} (h : GrOK bs qs) : ∀ w ∈ gWords bs qs, sizeW w + w.length ≤ 1000 := by
  intro w hw
  rcases List.mem_append.mp hw with z | z
  · obtain ⟨b, hb, rfl⟩ := List.mem_map.mp z
    exact bw_size (h.bo b hb)
  · obtain ⟨q, hq, rfl⟩ := List.mem_map.mp z
    exact qw_size ((h.qo q hq).w h.bo) (nmAt_len h.bo _) (nmAt_len h.bo _)

def Lo (l : List Nat) : Prop := ∀ x ∈ l, x < 1114112
theorem Lo.app {a b : List Nat} (h : Lo a) (g : Lo b) : Lo (a ++ b) := fun x hx => (List.mem_append.mp hx).elim (h x) (g x)
theorem lo_join {S : List Nat} (hS : Lo S) : ∀ {ws : List (List Nat)}, (∀ w ∈ ws, Lo w) → Lo (TL.joinL S ws)
  | [], _ => fun x hx => by simp [TL.joinL] at hx
  | [p], h => h p List.mem_cons_self
  | p :: q :: r, h => by
    show Lo (p ++ (S ++ TL.joinL S (q :: r)))
    exact (h p List.mem_cons_self).app (hS.app (lo_join hS fun w hw => h w (List.mem_cons_of_mem _ hw)))
theorem lo_num (i : Int) : Lo (numC i) := fun x hx => by
  by_cases h : x < 48 ∨ 57 < x
  · exact absurd hx (TL.numL_free h)
  · omega
theorem lo_words (l : List Int) : ∀ w ∈ wordsC l, Lo w := fun w hw => by
  obtain ⟨i, _, rfl⟩ := List.mem_map.mp hw
  exact lo_num i
theorem lo_nm {b : Blk} (h : BlkOK b) : Lo (nm b) := by
  have e := h.1.strOk
  unfold PyData.strOk at e
  rw [Array.all_eq_true_iff_forall_mem] at e
  intro x hx
  have := e x (by simpa [nm] using hx)
  simpa using this
theorem lo_nmAt {bs : List Blk} (hb : ∀ b ∈ bs, BlkOK b) (i : Nat) : Lo (nmAt bs i) := by
  unfold nmAt
  split
  · rename_i b e; exact lo_nm (hb b (List.mem_of_getElem? e))
  · intro x hx; simp at hx
theorem strOk_of {l : List Nat} (h : Lo l) : PyData.strOk (Sg l) = true := by
  unfold PyData.strOk
  rw [Array.all_eq_true_iff_forall_mem]
  intro x hx
  exact decide_eq_true (h x (by simpa [_root_.SX.S] using hx))
theorem lo_gw {bs : List Blk} {qs : List Que} (h : GrOK bs qs) : ∀ w ∈ gWords bs qs, ∀ c ∈ w, Lo c := by
  have k1 : Lo c_block := by unfold Lo; decide
  have k2 : Lo c_times := by unfold Lo; decide
  have k3 : Lo c_deed := by unfold Lo; decide
  have k4 : Lo c_queue := by unfold Lo; decide
  have k5 : Lo c_gives := by unfold Lo; decide
  have k6 : Lo c_target := by unfold Lo; decide
  have k7 : Lo c_takes := by unfold Lo; decide
  have k8 : Lo c_start := by unfold Lo; decide
  intro w hw c hc
  rcases List.mem_append.mp hw with z | z
  · obtain ⟨b, hb, rfl⟩ := List.mem_map.mp z
    have kn := lo_nm (h.bo b hb)
    simp only [BW, List.mem_append, List.mem_cons, List.not_mem_nil, or_false] at hc
    rcases hc with ((((rfl | rfl | rfl) | hc) | rfl) | hc)
    all_goals first | assumption | exact lo_words _ _ hc
  · obtain ⟨q, hq, rfl⟩ := List.mem_map.mp z
    have kn := lo_nmAt h.bo q.s
    have kn2 := lo_nmAt h.bo q.t
    simp only [qWords, QW, List.mem_append, List.mem_cons, List.not_mem_nil, or_false] at hc
    rcases hc with rfl | ((((((rfl | rfl) | hc) | (rfl | rfl | rfl)) | hc) | rfl) | hc)
    all_goals first | assumption | exact lo_words _ _ hc
theorem gText_ok {bs : List Blk} {qs : List Que} (h : GrOK bs qs) : PyData.strOk (Sg (gText bs qs)) = true := by
  refine strOk_of (lo_join (by intro x hx; simp at hx) fun w hw => ?_)
  obtain ⟨l, hl, rfl⟩ := List.mem_map.mp hw
  rw [← gWords_join] at hl
  obtain ⟨ws, hws, rfl⟩ := List.mem_map.mp hl
  exact (lo_join (by intro x hx; simp at hx; omega) (lo_gw h ws hws)).app (by intro x hx; simp at hx; omega)

theorem cut_hi {α : Type} (xs : List α) (k : Nat) : cutP xs none (some (k : Int)) = xs.take k := by
  unfold cutP
  simp only [HT.sIx_nat, HT.sIx_none, List.drop_zero, Nat.sub_zero]
  by_cases h : k ≤ xs.length
  · rw [Nat.min_eq_left h]
  · rw [Nat.min_eq_right (by omega), List.take_of_length_le (Nat.le_refl _), List.take_of_length_le (by omega)]
theorem cut_lo {α : Type} (xs : List α) (k : Nat) : cutP xs (some (k : Int)) none = xs.drop k := by
  unfold cutP
  simp only [HT.sIx_nat, HT.sIx_none]
  by_cases h : k ≤ xs.length
  · rw [Nat.min_eq_left h, List.take_of_length_le (by rw [List.length_drop]; omega)]
  · rw [Nat.min_eq_right (by omega), List.drop_of_length_le (Nat.le_refl _), List.drop_of_length_le (by omega)]; simp
theorem cut_last {α : Type} (xs : List α) : cutP xs none (some (-1)) = xs.take (xs.length - 1) := by
  unfold cutP
  have e : HT.sIx xs.length xs.length (some (-1)) = xs.length - 1 := by
    show (if (-1 : Int) < 0 then ((-1 : Int) + (xs.length : Int)).toNat else min (-1 : Int).toNat xs.length) = _
    rw [if_pos (by omega)]; omega
  simp only [e, HT.sIx_none, List.drop_zero, Nat.sub_zero]
theorem slHi_tup (xs : List PV) (i : Int) (k : Nat) (h : i = k) (ho : PV.owns xs = false) : pSlHi [.tup xs, .int i] = some (.tup (xs.take k)) := by
  subst h
  show (if PV.owns xs = false then some (PV.tup (cutP xs none (some (k : Int)))) else none) = _
  rw [if_pos ho, cut_hi]
theorem slLo_tup (xs : List PV) (i : Int) (k : Nat) (h : i = k) (ho : PV.owns xs = false) : pSlLo [.tup xs, .int i] = some (.tup (xs.drop k)) := by
  subst h
  show (if PV.owns xs = false then some (PV.tup (cutP xs (some (k : Int)) none)) else none) = _
  rw [if_pos ho, cut_lo]
theorem slLast_tup (xs : List PV) (ho : PV.owns xs = false) : pSlHi [.tup xs, .int (-1)] = some (.tup (xs.take (xs.length - 1))) := by
  show (if PV.owns xs = false then some (PV.tup (cutP xs none (some (-1)))) else none) = _
  rw [if_pos ho, cut_last]

theorem quok_congr {bs bs' : List Blk} (h : bs'.map (fun b => b.times.length) = bs.map (fun b => b.times.length)) {q : Que} (hq : QueOK bs q) : QueOK bs' q := by
  obtain ⟨b1, b2, e1, e2, h1, h2, h3, h4⟩ := hq
  have key : ∀ {i : Nat} {b : Blk}, bs[i]? = some b → ∃ b', bs'[i]? = some b' ∧ b'.times.length = b.times.length := by
    intro i b e
    have : (bs'.map (fun b => b.times.length))[i]? = some b.times.length := by rw [h, List.getElem?_map, e]; rfl
    rw [List.getElem?_map, Option.map_eq_some_iff] at this
    obtain ⟨b', e', l⟩ := this
    exact ⟨b', e', l⟩
  obtain ⟨c1, f1, l1⟩ := key e1
  obtain ⟨c2, f2, l2⟩ := key e2
  exact ⟨c1, c2, f1, f2, l1 ▸ h1, l2 ▸ h2, h3, h4⟩
theorem gr_blocks {bs bs' : List Blk} {qs : List Que} (h : GrOK bs qs) (ht : bs'.map (fun b => b.times.length) = bs.map (fun b => b.times.length)) (hb : ∀ b ∈ bs', BlkOK b) (hn : (bs'.map (·.name)).Nodup) : GrOK bs' qs := by
  have hl : bs'.length = bs.length := by have := congrArg List.length ht; simpa using this
  exact ⟨by rw [hl]; exact h.b1, by rw [hl]; exact h.b2, h.q2, hb, hn, fun q hq => quok_congr ht (h.qo q hq)⟩
theorem last_split {α : Type} {l : List α} (h : 1 ≤ l.length) : ∃ b, l = l.take (l.length - 1) ++ [b] ∧ l[l.length - 1]? = some b := by
  have e : l[l.length - 1]? = some (l[l.length - 1]'(by omega)) := List.getElem?_eq_getElem (by omega)
  refine ⟨_, ?_, e⟩
  have := List.take_succ (l := l) (i := l.length - 1)
  rw [e, show l.length - 1 + 1 = l.length by omega, List.take_length] at this
  exact this
theorem deed_two {b : Blk} (h : BlkOK b) : ∃ x y, b.deed = [x, y] ∧ (0 ≤ x ∧ x ≤ 9972) ∧ (0 ≤ y ∧ y ≤ 9972) := by
  obtain ⟨h1, h2, h3, h4, h5, h6⟩ := h
  match e : b.deed, h5, h6 with
  | [x, y], _, h6 => exact ⟨x, y, rfl, h6 x (by simp), h6 y (by simp)⟩
/-- the last block with another deed -/
def lastB (bs : List Blk) (b : Blk) (x y : Int) : List Blk := bs.take (bs.length - 1) ++ [⟨b.name, b.times, [x, 9972 - y]⟩]
theorem lastB_ok {bs : List Blk} {qs : List Que} (h : GrOK bs qs) {b : Blk} {x y : Int} (e : bs = bs.take (bs.length - 1) ++ [b]) (hd : b.deed = [x, y]) (hx : 0 ≤ x ∧ x ≤ 9972) (hy : 0 ≤ y ∧ y ≤ 9972) : GrOK (lastB bs b x y) qs := by
  refine gr_blocks h ?_ ?_ ?_
  · conv => rhs; rw [e]
    simp [lastB]
  · intro z hz
    rcases List.mem_append.mp hz with m | m
    · exact h.bo z (List.mem_of_mem_take m)
    · rw [List.mem_singleton.mp m]
      have hb := h.bo b (by rw [e]; simp)
      obtain ⟨h1, h2, h3, h4, h5, h6⟩ := hb
      refine ⟨h1, h2, h3, h4, rfl, fun i hi => ?_⟩
      simp at hi
      rcases hi with rfl | rfl
      · exact hx
      · omega
  · have := h.nd
    rw [e] at this
    simpa [lastB] using this
def revStart (q : Que) : Que := { q with start := q.start.reverse }
theorem revStart_ok {bs : List Blk} {q : Que} (h : QueOK bs q) : QueOK bs (revStart q) := by
  obtain ⟨b1, b2, e1, e2, h1, h2, h3, h4⟩ := h
  exact ⟨b1, b2, e1, e2, h1, h2, by simpa [revStart] using h3, fun i hi => h4 i (by simpa [revStart] using hi)⟩

/-! ### the graph that is near -/
theorem compE {α : Type} {t : PV → Sl → Option Sl} {el : M PV} {own : List Nat} {enc f : α → PV} {s : Sl} : ∀ {l : List α},
    (∀ a ∈ l, ∃ s1 s3, t (enc a) s = some s1 ∧ el s1 = .ok (f a) s3 ∧ wipeS s3 own = s) → ∀ acc, compL t mYes el own (l.map enc) s acc = .ok (acc ++ l.map f) s
  | [], _, acc => by simp [compL]
  | x :: xs, h, acc => by
    obtain ⟨s1, s3, e1, e2, e3⟩ := h x List.mem_cons_self
    have ih := compE (l := xs) (enc := enc) (f := f) (fun z hz => h z (List.mem_cons_of_mem _ hz)) (acc ++ [f x])
    simp [compL, e1, e2, mYes, e3, ih]
@[simp] theorem pp_neg (a : Int) : pNeg [.int a] = some (.int (-a)) := Eq.trans rfl rfl
theorem addT (xs ys : List PV) (h1 : PV.owns xs = false) (h2 : PV.owns ys = false) (h3 : xs.length + ys.length ≤ 16777216) : pAdd [.tup xs, .tup ys] = some (.tup (xs ++ ys)) := by
  show (if PV.owns xs = false ∧ PV.owns ys = false ∧ xs.length + ys.length ≤ LIM then some (PV.tup (xs ++ ys)) else none) = _
  rw [if_pos ⟨h1, h2, lim_le h3⟩]
theorem addL (o o' : Bool) (xs ys : List PV) (h1 : PV.owns xs = false) (h2 : PV.owns ys = false) (h3 : xs.length + ys.length ≤ 16777216) : pAdd [.lst o xs, .lst o' ys] = some (.lst true (xs ++ ys)) := by
  show (if PV.owns xs = false ∧ PV.owns ys = false ∧ xs.length + ys.length ≤ LIM then some (PV.lst true (xs ++ ys)) else none) = _
  rw [if_pos ⟨h1, h2, lim_le h3⟩]
theorem revT (xs : List PV) (h1 : PV.owns xs = false) : pRev [.tup xs] = some (.tup xs.reverse) := by
  show (if PV.owns xs = false then some (PV.tup xs.reverse) else none) = _
  rw [if_pos h1]
theorem slLoL (o : Bool) (xs : List PV) (k : Nat) (i : Int) (h : i = k) (ho : PV.owns xs = false) : pSlLo [.lst o xs, .int i] = some (.lst true (xs.drop k)) := by
  subst h
  show (if PV.owns xs = false then some (PV.lst true (cutP xs (some (k : Int)) none)) else none) = _
  rw [if_pos ho, cut_lo]
theorem slHiL (o : Bool) (xs : List PV) (k : Nat) (i : Int) (h : i = k) (ho : PV.owns xs = false) : pSlHi [.lst o xs, .int i] = some (.lst true (xs.take k)) := by
  subst h
  show (if PV.owns xs = false then some (PV.lst true (cutP xs none (some (k : Int)))) else none) = _
  rw [if_pos ho, cut_hi]
theorem atI_last {α : Type} {xs : List α} {x : α} (h : xs[xs.length - 1]? = some x) : atI xs (-1) = some x := by
  have hl := (List.getElem?_eq_some_iff.mp h).1
  unfold atI ixN
  rw [if_neg (by omega), if_pos (by omega)]
  show xs[((-1 : Int) + xs.length).toNat]? = _
  rw [show ((-1 : Int) + xs.length).toNat = xs.length - 1 by omega, h]
@[simp] theorem tN_eB (i j k : Nat) (b : Blk) (s : Sl) : tN [i, j, k] (eB b) s = some (((s.set i (some (.str b.name))).set j (some (.tup (b.times.map PV.int)))).set k (some (.tup (b.deed.map PV.int)))) := by
  simp [eB]
@[simp] theorem tN_eQ (i j k l m : Nat) (q : Que) (s : Sl) : tN [i, j, k, l, m] (eQ q) s = some (((((s.set i (some (.int q.s))).set j (some (.tup (q.gives.map PV.int)))).set k (some (.int q.t))).set l (some (.tup (q.takes.map PV.int)))).set m (some (.tup (q.start.map PV.int)))) := by
  simp [eQ]
def rotN (bs : List Blk) : List Blk := ((bs.map (·.name)).drop 1 ++ (bs.map (·.name)).take 1).zipWith (fun n b => ⟨n, b.times, b.deed⟩) bs
theorem rotN_len (bs : List Blk) : (rotN bs).length = bs.length := by
  unfold rotN
  rw [List.length_zipWith]
  simp
  omega
theorem rotN_names (bs : List Blk) : (rotN bs).map (·.name) = (bs.map (·.name)).drop 1 ++ (bs.map (·.name)).take 1 := by
  unfold rotN
  rw [List.map_zipWith]
  have : ∀ (ns : List Str) (bs : List Blk), ns.length = bs.length → List.zipWith (fun (n : Str) (_ : Blk) => n) ns bs = ns := by
    intro ns
    induction ns with
    | nil => intro bs _; simp
    | cons n ns ih =>
      intro bs h
      match bs, h with
      | b :: bs, h => rw [List.zipWith_cons_cons, ih bs (by simpa using h)]
  exact this _ _ (by simp; omega)
theorem rotN_ok {bs : List Blk} {qs : List Que} (h : GrOK bs qs) : GrOK (rotN bs) qs := by
  refine gr_blocks h ?_ ?_ ?_
  · unfold rotN
    rw [List.map_zipWith]
    have : ∀ (ns : List Str) (bs : List Blk), ns.length = bs.length → List.zipWith (fun (_ : Str) (b : Blk) => b.times.length) ns bs = bs.map fun b => b.times.length := by
      intro ns
      induction ns with
      | nil => intro bs h; have : bs = [] := List.eq_nil_of_length_eq_zero h.symm; subst this; rfl
      | cons n ns ih =>
        intro bs h
        match bs, h with
        | b :: bs, h => rw [List.zipWith_cons_cons, ih bs (by simpa using h)]; rfl
    exact this _ _ (by simp; have := h.b1; omega)
  · intro b hb
    have hn : b.name ∈ bs.map (·.name) := by
      have : b.name ∈ (rotN bs).map (·.name) := List.mem_map_of_mem hb
      rw [rotN_names] at this
      rcases List.mem_append.mp this with z | z
      · exact List.mem_of_mem_drop z
      · exact List.mem_of_mem_take z
    obtain ⟨c, hc, e⟩ := List.mem_map.mp hn
    have h1 := (h.bo c hc).1
    unfold rotN at hb
    obtain ⟨i, hi, e2⟩ := List.getElem_of_mem hb
    rw [List.getElem_zipWith] at e2
    have hi2 : i < bs.length := by rw [List.length_zipWith] at hi; omega
    have h2 := (h.bo bs[i] (List.getElem_mem hi2)).2
    rw [← e2]
    refine ⟨?_, h2⟩
    have : b.name = ((bs.map (·.name)).drop 1 ++ (bs.map (·.name)).take 1)[i]'(by rw [List.length_zipWith] at hi; omega) := by rw [← e2]
    rw [← this, ← e]
    exact h1
  · rw [rotN_names]
    have := h.nd
    have e : bs.map (·.name) = (bs.map (·.name)).take 1 ++ (bs.map (·.name)).drop 1 := (List.take_append_drop 1 _).symm
    rw [e] at this
    exact (List.perm_append_comm.nodup_iff).mp this

theorem near_ok {d : PV} {bs : List Blk} {qs : List Que} (hd : DOK d) (h : GrOK bs qs) :
    ∃ bs' qs' d', C_L_near [d, eG bs qs] = .ok (eG bs' qs') [d', eG bs qs] ∧ GrOK bs' qs' ∧ DOK d' := by
  obtain ⟨w, d1, e1, w0, w1, hd1⟩ := draw_ok (many := 5) hd (by omega) (by omega)
  have z0 := hd.own
  have z1 := hd1.own
  have hb2 := h.b2
  have hq2 := h.q2
  by_cases c0 : w = 0
  · subst c0
    obtain ⟨b, e, hix⟩ := last_split h.b1
    obtain ⟨x, y, hde, hx, hy⟩ := deed_two (h.bo b (List.mem_of_getElem? hix))
    have ok := lastB_ok h e hde hx hy
    have i1 : atI (bs.map eB) (-1) = some (eB b) := atI_last (by rw [List.length_map, List.getElem?_map, hix]; rfl)
    have s1 : pSlHi [.tup (bs.map eB), .int (-1)] = some (.tup ((bs.take (bs.length - 1)).map eB)) := by
      rw [slLast_tup _ (eBs_own bs), List.length_map, List.map_take]
    have a1 := addT ((bs.take (bs.length - 1)).map eB) [eB ⟨b.name, b.times, [x, 9972 - y]⟩] (eBs_own _) (by simp) (by simp; omega)
    rw [show [eB ⟨b.name, b.times, [x, 9972 - y]⟩] = [b, b].tail.map (fun b => eB ⟨b.name, b.times, [x, 9972 - y]⟩) from rfl] at a1
    have a2 : pAdd [.tup ((bs.take (bs.length - 1)).map eB), .tup [.tup [.str b.name, .tup (b.times.map PV.int), .tup [.int x, .int (9972 - y)]]]] = some (.tup ((lastB bs b x y).map eB)) := by
      rw [show (lastB bs b x y).map eB = (bs.take (bs.length - 1)).map eB ++ [eB ⟨b.name, b.times, [x, 9972 - y]⟩] by simp [lastB]]
      exact a1
    refine ⟨lastB bs b x y, qs, d1, ?_, ok, hd1⟩
    simp [C_L_near, runB, m_L_near, eG, z0, z1, e1, i1, s1, a2, hde, -List.map_take, -List.map_drop, -List.map_reverse, -List.map_append]
  by_cases c1 : w = 1
  · subst c1
    have a1 := revT (qs.map eQ) (eQs_own qs)
    rw [← List.map_reverse] at a1
    refine ⟨bs, qs.reverse, d1, ?_, ⟨h.b1, h.b2, by rw [List.length_reverse]; exact h.q2, h.bo, h.nd, fun q hq => h.qo q (List.mem_reverse.mp hq)⟩, hd1⟩
    simp [C_L_near, runB, m_L_near, eG, z0, z1, e1, a1, -List.map_reverse]
  by_cases c2 : w = 2
  · subst c2
    have hc : compL (t1 2) mYes (mFz (mOp pAdd (oCons (oE (mOp pSlHi (oCons (oN 2) (oCons (oE (mC (.int 4))) oNil)))) (oCons (oE (mTup (vCons (mFz (mOp pRev (oCons (oE (mOp pIx (oCons (oN 2) (oCons (oE (mC (.int 4))) oNil)))) oNil))) (vNil)))) oNil)))) [2] (qs.map eQ) [some d1, some (eG bs qs), none, none, none, some (.tup (bs.map eB)), some (.tup (qs.map eQ)), some (.int 2), none, none, none, none] [] = .ok ([] ++ qs.map fun q => eQ (revStart q)) [some d1, some (eG bs qs), none, none, none, some (.tup (bs.map eB)), some (.tup (qs.map eQ)), some (.int 2), none, none, none, none] := by
      refine compE (fun q hq => ?_) []
      have r1 := revT (q.start.map PV.int) (owns_ints _)
      rw [← List.map_reverse] at r1
      have s1 : pSlHi [eQ q, .int 4] = some (.tup [.int q.s, .tup (q.gives.map PV.int), .int q.t, .tup (q.takes.map PV.int)]) := slHi_tup _ 4 4 rfl (by simp)
      have i1 : pIx [eQ q, .int 4] = some (.tup (q.start.map PV.int)) := by simp [eQ]
      have a1 : pAdd [.tup [.int q.s, .tup (q.gives.map PV.int), .int q.t, .tup (q.takes.map PV.int)], .tup [.tup (q.start.reverse.map PV.int)]] = some (eQ (revStart q)) := addT _ _ (by simp) (by simp [-List.map_reverse]) (by simp)
      refine ⟨_, [some d1, some (eG bs qs), some (eQ q), none, none, some (.tup (bs.map eB)), some (.tup (qs.map eQ)), some (.int 2), none, none, none, none], rfl, ?_, by simp⟩
      simp [r1, s1, i1, a1, -List.map_reverse]
    have hm : (qs.map fun q => eQ (revStart q)) = (qs.map revStart).map eQ := by rw [List.map_map]; rfl
    rw [hm, List.nil_append] at hc
    have l1 : qs.length ≤ LIM := lim_le (by omega)
    refine ⟨bs, qs.map revStart, d1, ?_, ⟨h.b1, h.b2, by rw [List.length_map]; exact h.q2, h.bo, h.nd, fun q hq => ?_⟩, hd1⟩
    · unfold eG at hc
      unfold eG
      have l2 : (qs.map revStart).length ≤ LIM := by rw [List.length_map]; exact l1
      have o2 := eQs_own (qs.map revStart)
      generalize qs.map revStart = qs2 at hc l2 o2
      simp [C_L_near, runB, m_L_near, z0, z1, e1, l1, hc]
    · obtain ⟨p, hp, rfl⟩ := List.mem_map.mp hq
      exact revStart_ok (h.qo p hp)
  by_cases c3 : w = 3
  · subst c3
    have l1 : bs.length ≤ LIM := lim_le (by omega)
    have hc : compL (t1 3) mYes (mFz (mOp pIx (oCons (oN 3) (oCons (oE (mC (.int 0))) oNil)))) [3] (bs.map eB) [some d1, some (eG bs qs), none, none, none, some (.tup (bs.map eB)), some (.tup (qs.map eQ)), some (.int 3), none, none, none, none] [] = .ok ([] ++ bs.map fun b => PV.str b.name) [some d1, some (eG bs qs), none, none, none, some (.tup (bs.map eB)), some (.tup (qs.map eQ)), some (.int 3), none, none, none, none] :=
      compE (fun b hb => ⟨_, [some d1, some (eG bs qs), none, some (eB b), none, some (.tup (bs.map eB)), some (.tup (qs.map eQ)), some (.int 3), none, none, none, none], rfl, by simp, by simp⟩) []
    rw [show (bs.map fun b => PV.str b.name) = (bs.map (·.name)).map PV.str by rw [List.map_map]; rfl, List.nil_append] at hc
    have s1 := slLoL true ((bs.map (·.name)).map PV.str) 1 1 rfl (owns_strs _)
    have s2 := slHiL true ((bs.map (·.name)).map PV.str) 1 1 rfl (owns_strs _)
    rw [← List.map_drop] at s1
    rw [← List.map_take] at s2
    have hR : ((bs.map (·.name)).drop 1 ++ (bs.map (·.name)).take 1).length = bs.length := by have := h.b1; simp; omega
    have s3 := addL true true (((bs.map (·.name)).drop 1).map PV.str) (((bs.map (·.name)).take 1).map PV.str) (owns_strs _) (owns_strs _) (by simp; omega)
    rw [← List.map_append, ← rotN_names] at s3
    generalize hr : (rotN bs).map (·.name) = rn at s3
    have hrl : rn.length = bs.length := by rw [← hr, List.length_map, rotN_len]
    have hk : compL (t1 4) mYes (mFz (mOp pAdd (oCons (oE (mTup (vCons (mFz (mOp pIx (oCons (oN 11) (oCons (oN 4) oNil)))) (vNil)))) (oCons (oE (mOp pSlLo (oCons (oE (mOp pIx (oCons (oN 5) (oCons (oN 4) oNil)))) (oCons (oE (mC (.int 1))) oNil)))) oNil)))) [4] ((List.range bs.length).map fun (k : Nat) => PV.int (k : Int)) [some d1, some (eG bs qs), none, none, none, some (.tup (bs.map eB)), some (.tup (qs.map eQ)), some (.int 3), none, none, none, some (.lst true (rn.map PV.str))] [] = .ok ([] ++ (List.range bs.length).map fun k => match (rotN bs)[k]? with | some b => eB b | none => .non) [some d1, some (eG bs qs), none, none, none, some (.tup (bs.map eB)), some (.tup (qs.map eQ)), some (.int 3), none, none, none, some (.lst true (rn.map PV.str))] := by
      refine compE (fun k hk => ?_) []
      have hk : k < bs.length := List.mem_range.mp hk
      have hk2 : k < (rotN bs).length := by rw [rotN_len]; exact hk
      have g1 : bs[k]? = some bs[k] := List.getElem?_eq_getElem hk
      have g2 : (rotN bs)[k]? = some (rotN bs)[k] := List.getElem?_eq_getElem hk2
      have g3 : rn[k]? = some ((rotN bs)[k]).name := by rw [← hr, List.getElem?_map, g2]; rfl
      have g4 : (rotN bs)[k] = ⟨((rotN bs)[k]).name, (bs[k]).times, (bs[k]).deed⟩ := by simp [rotN]
      have i1 : atI (bs.map eB) k = some (eB bs[k]) := atI_of (by omega) (by rw [List.getElem?_map, Int.toNat_natCast, g1]; rfl)
      have i2 : atI (rn.map PV.str) k = some (.str ((rotN bs)[k]).name) := atI_of (by omega) (by rw [List.getElem?_map, Int.toNat_natCast, g3]; rfl)
      have s4 : pSlLo [eB bs[k], .int 1] = some (.tup [.tup ((bs[k]).times.map PV.int), .tup ((bs[k]).deed.map PV.int)]) := slLo_tup _ 1 1 rfl (by simp)
      have a1 : pAdd [.tup [.str ((rotN bs)[k]).name], .tup [.tup ((bs[k]).times.map PV.int), .tup ((bs[k]).deed.map PV.int)]] = some (eB (rotN bs)[k]) := by
        rw [addT _ _ (by simp) (by simp) (by simp)]
        conv => rhs; rw [g4]
        rfl
      refine ⟨_, [some d1, some (eG bs qs), none, none, some (.int (k : Int)), some (.tup (bs.map eB)), some (.tup (qs.map eQ)), some (.int 3), none, none, none, some (.lst true (rn.map PV.str))], rfl, ?_, by simp⟩
      simp [i1, i2, s4, a1, g2]
    have hm : ((List.range bs.length).map fun k => match (rotN bs)[k]? with | some b => eB b | none => .non) = (rotN bs).map eB := by
      refine List.ext_getElem (by simp [rotN_len]) fun i h1 h2 => ?_
      have h3 : i < (rotN bs).length := by simpa using h2
      simp [List.getElem?_eq_getElem h3]
    rw [hm, List.nil_append] at hk
    have it : itRng1 [.int bs.length] = some ((List.range bs.length).map fun (k : Nat) => PV.int (k : Int)) := it_nat (by omega) (by omega)
    have l2 : (rotN bs).length ≤ LIM := by rw [rotN_len]; exact l1
    refine ⟨rotN bs, qs, d1, ?_, rotN_ok h, hd1⟩
    unfold eG at hc hk
    clear hR hm
    generalize List.drop 1 (bs.map (·.name)) = nD at s1 s3
    generalize List.take 1 (bs.map (·.name)) = nT at s2 s3
    generalize bs.map (·.name) = nA at hc s1 s2
    simp [C_L_near, runB, m_L_near, eG, z0, z1, e1, l1, l2, hc, s1, s2, s3, hrl, it, hk, -List.map_take, -List.map_drop, -List.map_append]
  · obtain ⟨bs', qs', d2, e2, h2, hd2⟩ := graph_ok hd1
    have z2 := hd2.own
    refine ⟨bs', qs', d2, ?_, h2, hd2⟩
    have og : PV.owns [PV.tup (bs.map eB), PV.tup (qs.map eQ)] = false := by simp
    unfold eG at e2
    simp [C_L_near, runB, m_L_near, eG, z0, z1, z2, e1, e2, c0, c1, c2, c3]

/-! ### reading words -/
def isDig (x : Nat) : Bool := decide (48 ≤ x) && decide (x ≤ 57)
def FIGC : List Nat := [48, 49, 50, 51, 52, 53, 54, 55, 56, 57]
theorem lit_fig : ("0123456789" : Str) = Sg FIGC := by decide +kernel
theorem lit_0 : ("0" : Str) = Sg [48] := by decide +kernel
theorem mem_fig (x : Nat) : decide (x ∈ FIGC) = isDig x := by
  unfold isDig
  by_cases h : 48 ≤ x
  · by_cases h2 : x ≤ 57
    · have : x ∈ FIGC := by
        rcases (by omega : x = 48 ∨ x = 49 ∨ x = 50 ∨ x = 51 ∨ x = 52 ∨ x = 53 ∨ x = 54 ∨ x = 55 ∨ x = 56 ∨ x = 57) with rfl | rfl | rfl | rfl | rfl | rfl | rfl | rfl | rfl | rfl <;> decide
      simp [h, h2, this]
    · have : x ∉ FIGC := by
        intro hm
        have : ∀ y ∈ FIGC, y ≤ 57 := by decide
        exact h2 (this x hm)
      simp [h, h2, this]
  · have : x ∉ FIGC := by
      intro hm
      have : ∀ y ∈ FIGC, 48 ≤ y := by decide
      exact h (this x hm)
    simp [h, this]
def valN (c : List Nat) : Nat := NumText.digitsVal c
def isNum (c : List Nat) : Bool := (decide (1 ≤ c.length) && decide (c.length ≤ 4)) && (c.all isDig && !(decide (1 < c.length) && decide (c[0]? = some 48)))
theorem int_val {c : List Nat} (h : c.all isDig = true) (h1 : 1 ≤ c.length) (h2 : c.length ≤ 4) : pInt1 [.str (Sg c)] = some (.int (valN c)) := by
  have e := _root_.SX.int_S (a := c) h (fun e => by rw [e] at h1; simp at h1) (by omega)
  show (match PySem.intText? (Sg c) with | some n => if (Sg c).length ≤ 640 then some (PV.int n) else none | none => none) = _
  rw [e]
  show (if (Sg c).length ≤ 640 then some (PV.int ((NumText.digitsVal c : Nat) : Int)) else none) = _
  rw [if_pos (by rw [_root_.SX.S_len]; omega)]
  rfl
theorem lenS {c : List Nat} (h : c.length ≤ 16777216) : pLen1 (.str (Sg c)) = some (.int c.length) := len_str (lim_le h)
theorem number_val {c : List Nat} (hl : c.length ≤ 1000000) : C_number_of [.str (Sg c)] = .ok (if isNum c then .int (valN c) else .non) [.str (Sg c)] := by
  have hls := lenS (c := c) (by omega)
  have hlim : c.length ≤ LIM := lim_le (by omega)
  have hcl : (Sg c).length = c.length := _root_.SX.S_len c
  simp only [C_number_of, m_number_of, lit_fig, lit_0]
  by_cases h1 : 1 ≤ c.length
  case neg =>
    have d1 : ¬ (1 : Int) ≤ c.length := by omega
    simp [runB, hls, pLe, d1, isNum, h1]
  have d1 : (1 : Int) ≤ c.length := by omega
  by_cases h2 : c.length ≤ 4
  case neg =>
    have d2 : ¬ (c.length : Int) ≤ 4 := by omega
    simp [runB, hls, pLe, d1, d2, isNum, h1, h2]
  have d2 : (c.length : Int) ≤ 4 := by omega
  have hc : compL (t1 1) mYes (mOp (pIn false) (oCons (oN 1) (oCons (oE (mC (.str (Sg FIGC)))) oNil))) [1] (c.map fun y => PV.str ⟨#[y]⟩) [some (.str (Sg c)), none] [] = .ok ([] ++ c.map fun y => .bl (isDig y)) [some (.str (Sg c)), none] := by
    refine compE (fun y hy => ?_) []
    have e := in_sg false y FIGC
    rw [mem_fig] at e
    simp only [Bool.false_eq_true, if_false] at e
    exact ⟨_, [some (.str (Sg c)), some (.str ⟨#[y]⟩)], rfl, by simp [e], by simp⟩
  rw [List.nil_append] at hc
  have ha := all_map true c isDig
  cases h3 : c.all isDig with
  | false =>
    rw [h3] at ha
    simp [runB, hls, hcl, pLe, d1, d2, isNum, h1, h2, hc, ha, h3, hlim]
  | true =>
    rw [h3] at ha
    have hi := int_val h3 h1 h2
    obtain ⟨a, r, e⟩ : ∃ a r, c = a :: r := by
      cases c with
      | nil => simp at h1
      | cons a r => exact ⟨a, r, rfl⟩
    have hx : pIx [.str (Sg c), .int 0] = some (.str (Sg [a])) := ix_str (by omega) (by omega) (by rw [e]; rfl)
    have hd : isDig a = true := List.all_eq_true.mp h3 a (by rw [e]; simp)
    have hlo : PyData.strOk (Sg [a]) = true := by
      unfold PyData.strOk
      rw [Array.all_eq_true_iff_forall_mem]
      intro x hx
      have : x = a := by simpa [_root_.SX.S] using hx
      subst this
      simp only [isDig, Bool.and_eq_true, decide_eq_true_eq] at hd
      exact decide_eq_true (by omega)
    have hq : pEq false [.str (Sg [a]), .str (Sg [48])] = some (.bl (decide (a = 48))) := by
      rw [Bv.eq_str false hlo (by decide +kernel)]
      have : (Sg [a] = Sg [48]) ↔ a = 48 := ⟨fun e => by have := _root_.SX.S_inj e; simpa using this, fun e => by rw [e]⟩
      simp [this]
    have h0 : c[0]? = some a := by rw [e]; rfl
    by_cases h4 : 1 < c.length
    · have d4 : (1 : Int) < c.length := by omega
      by_cases h5 : a = 48
      · rw [h5] at hx hq h0
        simp [runB, hls, hcl, pLe, pGt, d1, d2, d4, isNum, h1, h2, hc, ha, h3, hlim, h4, h0, hx, hq]
      · simp [runB, hls, hcl, pLe, pGt, d1, d2, d4, isNum, h1, h2, hc, ha, h3, hlim, h4, h5, h0, hx, hq, hi]
    · have d4 : ¬ (1 : Int) < c.length := by omega
      simp [runB, hls, hcl, pLe, pGt, d1, d2, d4, isNum, h1, h2, hc, ha, h3, hlim, h4, hi]
theorem numbers_val {ws : List (List Nat)} (h : ∀ w ∈ ws, w.length ≤ 1000000) (hl : ws.length ≤ 1000000) :
    C_numbers_of [.tup (eW ws)] = .ok (if ws.all isNum then .tup (ws.map fun w => PV.int (valN w)) else .non) [.tup (eW ws)] := by
  have hc : compL (t1 1) mYes (mFz (mCallN 1 C_number_of (oCons (oN 1) (oNil)))) [1] (eW ws) [some (.tup (eW ws)), none, none, none] [] = .ok ([] ++ ws.map fun w => if isNum w then PV.int (valN w) else .non) [some (.tup (eW ws)), none, none, none] := by
    refine compE (fun w hw => ?_) []
    have e := number_val (h w hw)
    refine ⟨_, [some (.tup (eW ws)), some (.str (Sg w)), none, none], rfl, ?_, by simp⟩
    cases hh : isNum w <;> rw [hh] at e <;> simp at e <;> simp [e]
  rw [List.nil_append] at hc
  have hc2 : compL (t1 2) mYes (mOp (pIsN true) (oCons (oN 2) (oCons (oE (mC .non)) oNil))) [2] (ws.map fun w => if isNum w then PV.int (valN w) else .non) [some (.tup (eW ws)), none, none, none] [] = .ok ([] ++ ws.map fun w => .bl (isNum w)) [some (.tup (eW ws)), none, none, none] := by
    refine compE (fun w hw => ?_) []
    refine ⟨_, [some (.tup (eW ws)), none, some (if isNum w then PV.int (valN w) else .non), none], rfl, ?_, by simp⟩
    cases isNum w <;> simp
  have lw : ws.length ≤ LIM := lim_le (by omega)
  rw [List.nil_append] at hc2
  have ha := all_map true ws isNum
  have ow : PV.owns (ws.map fun w => if isNum w then PV.int (valN w) else .non) = false := owns_of fun x hx => by
    obtain ⟨w, _, rfl⟩ := List.mem_map.mp hx
    cases isNum w <;> rfl
  have lv : (ws.map fun w => if isNum w then PV.int (valN w) else .non).length ≤ LIM := by rw [List.length_map]; exact lw
  cases h3 : ws.all isNum with
  | false =>
    rw [h3] at ha
    generalize (ws.map fun w => if isNum w then PV.int (valN w) else .non) = V at *
    simp [C_numbers_of, runB, m_numbers_of, eW_owns, eW_len, lw, hc, hc2, ow, ha, lv]
  | true =>
    rw [h3] at ha
    have hv : (ws.map fun w => if isNum w then PV.int (valN w) else .non) = ws.map fun w => PV.int (valN w) := List.map_congr_left fun w hw => by
      rw [List.all_eq_true.mp h3 w hw]; rfl
    rw [hv] at hc hc2 ow lv
    generalize (ws.map fun w => PV.int (valN w)) = V at *
    simp [C_numbers_of, runB, m_numbers_of, eW_owns, eW_len, lw, hc, hc2, ow, ha, lv]
/-! ### splitting -/
def spl1 (c : Nat) : List Nat → List Nat → List (List Nat)
  | acc, [] => [acc]
  | acc, x :: r => if x = c then acc :: spl1 c [] r else spl1 c (acc ++ [x]) r
theorem spl_eq (c : Nat) : ∀ (t acc : List Nat), TL.spl [c] 0 acc t = spl1 c acc t
  | [], acc => TL.spl_nil _ _ _
  | x :: r, acc => by
    unfold spl1
    by_cases h : x = c
    · subst h
      rw [if_pos rfl, TL.spl_hit (by simp [TL.pre]), show [x].length - 1 = 0 from rfl, spl_eq x r []]
    · rw [if_neg h, TL.spl_miss (by simp [TL.pre]; exact h), spl_eq c r]
theorem spl1_len (c : Nat) : ∀ (t acc : List Nat), (spl1 c acc t).length ≤ t.length + 1
  | [], acc => by simp [spl1]
  | x :: r, acc => by
    unfold spl1
    split
    · have := spl1_len c r []; simp; omega
    · have := spl1_len c r (acc ++ [x]); simp; omega
theorem spl1_size (c : Nat) : ∀ (t acc : List Nat), ∀ w ∈ spl1 c acc t, w.length ≤ acc.length + t.length
  | [], acc => by simp [spl1]
  | x :: r, acc => by
    unfold spl1
    intro w hw
    split at hw
    · rcases List.mem_cons.mp hw with rfl | h
      · simp
      · have := spl1_size c r [] w h; simp at this ⊢; omega
    · have := spl1_size c r (acc ++ [x]) w hw; simp at this ⊢; omega
theorem spl1_lo (c : Nat) : ∀ (t acc : List Nat), Lo t → Lo acc → ∀ w ∈ spl1 c acc t, Lo w
  | [], acc, _, ha => by simp [spl1]; exact ha
  | x :: r, acc, ht, ha => by
    have hr : Lo r := fun y hy => ht y (List.mem_cons_of_mem _ hy)
    unfold spl1
    intro w hw
    split at hw
    · rcases List.mem_cons.mp hw with rfl | h
      · exact ha
      · exact spl1_lo c r [] hr (fun y hy => by simp at hy) w h
    · exact spl1_lo c r (acc ++ [x]) hr (ha.app fun y hy => ht y (by rw [List.mem_singleton.mp hy]; exact List.mem_cons_self)) w hw
theorem pp_split1 (a : List Nat) (c : Nat) (hc : c < 256) (h : a.length ≤ 1000000) : pSplit [.str (Sg a), .str (Sg [c])] = some (.lst true (eW (spl1 c [] a))) := by
  have l := spl1_len c a []
  have e1 : Txt.split (Sg a) (Sg [c]) = (spl1 c [] a).map Sg := by rw [_root_.SX.split_S (by simp) (by simp [hc]), spl_eq]
  show (if ((Sg [c]).length == 0) = false ∧ (Sg a).length + 2 ≤ LIM ∧ (Txt.split (Sg a) (Sg [c])).length ≤ LIM then some (PV.lst true ((Txt.split (Sg a) (Sg [c])).map .str)) else none) = _
  rw [e1, _root_.SX.S_len, _root_.SX.S_len, if_pos ⟨rfl, lim_le (by omega), by rw [List.length_map]; exact lim_le (by omega)⟩, List.map_map]
  rfl
def kvB (ws : List (List Nat)) : Bool := ws.all fun w => decide (0 < w.length)
theorem kv_val {t : List Nat} (hl : t.length ≤ 1000000) : C_key_values [.str (Sg t)] = .ok (if kvB (spl1 32 [] t) then .tup (eW (spl1 32 [] t)) else .non) [.str (Sg t)] := by
  have e1 := pp_split1 t 32 (by omega) hl
  have h1 := spl1_len 32 t []
  have h2 := spl1_size 32 t []
  generalize spl1 32 [] t = ws at *
  have hc : ∀ a0, compL (t1 1) mYes (mOp (pCmp pGt) (oCons (oE (mOp pLen (oCons (oN 1) (oNil)))) (oCons (oE (mC (.int 0))) oNil))) [1] (eW ws) [a0, none, none] [] = .ok ([] ++ ws.map fun w => .bl (decide (0 < w.length))) [a0, none, none] := fun a0 => by
    refine compE (fun w hw => ?_) []
    have e := lenS (c := w) (by have := h2 w hw; simp at this; omega)
    refine ⟨_, [a0, some (.str (Sg w)), none], rfl, ?_, by simp⟩
    simp [e, pGt]
  simp only [List.nil_append] at hc
  have ha := all_map true ws fun w => decide (0 < w.length)
  have lw : ws.length ≤ LIM := lim_le (by omega)
  simp only [C_key_values, m_key_values, lit_sp]
  cases h3 : kvB ws with
  | false =>
    unfold kvB at h3
    rw [h3] at ha
    simp [runB, ap_str1, e1, eW_owns, eW_len, lw, hc, ha]
  | true =>
    unfold kvB at h3
    rw [h3] at ha
    simp [runB, ap_str1, e1, eW_owns, eW_len, lw, hc, ha]
/-! ### the place of a word -/
def placeB (ws : List (List Nat)) (w : List Nat) (least : Nat) : Option Nat := (List.range' least (ws.length - least)).find? fun p => decide (ws[p]? = some w)
noncomputable def bodyP : MS := mIf (mT (mOp (pEq false) (oCons (oE (mOp pIx (oCons (oN 0) (oCons (oN 3) oNil)))) (oCons (oN 1) oNil)))) (mRet (mN 3)) (mNx)
theorem loopP {ws : List (List Nat)} {w : List Nat} (hw : ∀ z ∈ ws, Lo z) (hlo : Lo w) (a2 : Option PV) : ∀ (m n : Nat) (a3 : Option PV), n + m ≤ ws.length →
    ∃ a3', forL (t1 3) bodyP ((List.range' n m).map fun (k : Nat) => PV.int (k : Int)) [some (.tup (eW ws)), some (.str (Sg w)), a2, a3] =
      (match (List.range' n m).find? fun p => decide (ws[p]? = some w) with
        | some p => .rt (.int (p : Nat)) [some (.tup (eW ws)), some (.str (Sg w)), a2, a3']
        | none => .nx [some (.tup (eW ws)), some (.str (Sg w)), a2, a3'])
  | 0, n, a3, _ => ⟨a3, by simp [forL]⟩
  | m + 1, n, a3, h => by
    have hn : n < ws.length := by omega
    have hg : ws[n]? = some ws[n] := List.getElem?_eq_getElem hn
    have hi : atI (eW ws) n = some (.str (Sg ws[n])) := atI_of (by omega) (by simp [eW, hg])
    have hq : pEq false [.str (Sg ws[n]), .str (Sg w)] = some (.bl (decide (ws[n] = w))) := by
      rw [Bv.eq_str false (strOk_of (hw _ (List.getElem_mem hn))) (strOk_of hlo)]
      have : (Sg ws[n] = Sg w) ↔ ws[n] = w := ⟨fun e => _root_.SX.S_inj e, fun e => by rw [e]⟩
      simp [this]
    rw [List.range'_succ, List.map_cons]
    by_cases hc : ws[n] = w
    · refine ⟨some (.int (n : Nat)), ?_⟩
      have hb : bodyP [some (.tup (eW ws)), some (.str (Sg w)), a2, some (.int (n : Nat))] = .rt (.int (n : Nat)) [some (.tup (eW ws)), some (.str (Sg w)), a2, some (.int (n : Nat))] := by
        rw [hc] at hi hq
        simp [bodyP, hi, hq]
      simp [forL, hb, hg, hc]
    · obtain ⟨a3', e⟩ := loopP hw hlo a2 m (n + 1) (some (.int (n : Nat))) (by omega)
      refine ⟨a3', ?_⟩
      have hb : bodyP [some (.tup (eW ws)), some (.str (Sg w)), a2, some (.int (n : Nat))] = .nx [some (.tup (eW ws)), some (.str (Sg w)), a2, some (.int (n : Nat))] := by
        simp [bodyP, hi, hq, hc]
      have hf : ((n :: List.range' (n + 1) m).find? fun p => decide (ws[p]? = some w)) = (List.range' (n + 1) m).find? fun p => decide (ws[p]? = some w) := by
        rw [List.find?_cons_of_neg]
        simp [hg, hc]
      rw [hf, ← e]
      simp [forL, hb]
theorem place_val {ws : List (List Nat)} {w : List Nat} {least : Nat} (hw : ∀ z ∈ ws, Lo z) (hlo : Lo w) (hl : ws.length ≤ 1000000) (hl2 : least ≤ 2000000) :
    C_place_behind [.tup (eW ws), .str (Sg w), .int least] = .ok (match placeB ws w least with | some p => .int (p : Nat) | none => .non) [.tup (eW ws), .str (Sg w), .int least] := by
  have it : itRng2 [.int (least : Int), .int (ws.length : Int)] = some ((List.range' least (ws.length - least)).map fun (k : Nat) => PV.int (k : Int)) := by
    rw [itR2, if_pos ⟨by omega, by omega, by omega, by omega⟩, List.range'_eq_map_range, List.map_map]
    congr 1
    rw [show ((ws.length : Int) - least).toNat = ws.length - least by omega]
    refine List.map_congr_left fun k _ => ?_
    simp
  by_cases hle : least ≤ ws.length
  · obtain ⟨a3, e⟩ := loopP hw hlo (some (.int least)) (ws.length - least) least none (by omega)
    unfold bodyP at e
    unfold placeB
    cases hp : (List.range' least (ws.length - least)).find? fun p => decide (ws[p]? = some w) with
    | some p =>
      rw [hp] at e
      simp [C_place_behind, runB, m_place_behind, eW_owns, eW_len, it, e]
    | none =>
      rw [hp] at e
      simp [C_place_behind, runB, m_place_behind, eW_owns, eW_len, it, e]
  · have h0 : ws.length - least = 0 := by omega
    have hp : placeB ws w least = none := by unfold placeB; rw [h0]; rfl
    rw [h0] at it
    rw [hp]
    simp [C_place_behind, runB, m_place_behind, eW_owns, eW_len, it, forL]

/-! ### reading a block -/
theorem in_words (n o : Bool) {a : List Nat} {ws : List (List Nat)} (ha : Lo a) (hw : ∀ w ∈ ws, Lo w) : pIn n [.str (Sg a), .lst o (eW ws)] = some (.bl (if n then !decide (a ∈ ws) else decide (a ∈ ws))) := by
  have e := in_strs n o (strOk_of ha) (ys := ws.map Sg) (fun y hy => by
    obtain ⟨w, hw2, rfl⟩ := List.mem_map.mp hy
    exact strOk_of (hw w hw2))
  rw [List.map_map] at e
  have : (Sg a ∈ ws.map Sg) ↔ a ∈ ws := ⟨fun h => by
    obtain ⟨w, hw, e⟩ := List.mem_map.mp h
    rw [← _root_.SX.S_inj e]; exact hw, fun h => List.mem_map_of_mem h⟩
  simp only [this] at e
  exact e
theorem eq_words (n : Bool) {a b : List Nat} (ha : Lo a) (hb : Lo b) : pEq n [.str (Sg a), .str (Sg b)] = some (.bl (if n then !decide (a = b) else decide (a = b))) := by
  rw [Bv.eq_str n (strOk_of ha) (strOk_of hb)]
  have : (Sg a = Sg b) ↔ a = b := ⟨fun e => _root_.SX.S_inj e, fun e => by rw [e]⟩
  simp only [this]
def vI (ws : List (List Nat)) : List Int := ws.map fun w => (valN w : Int)
theorem numbers_valI {ws : List (List Nat)} (h : ∀ w ∈ ws, w.length ≤ 1000000) (hl : ws.length ≤ 1000000) :
    C_numbers_of [.tup (eW ws)] = .ok (if ws.all isNum then eI (vI ws) else .non) [.tup (eW ws)] := by
  rw [numbers_val h hl]
  unfold eI vI
  rw [List.map_map]
  rfl
@[simp] theorem p1_one (f : PV → Option PV) (x : PV) : p1 f [x] = f x := rfl
theorem eW_drop (k : Nat) (ws : List (List Nat)) : (eW ws).drop k = eW (ws.drop k) := by simp [eW]
theorem eW_take (k : Nat) (ws : List (List Nat)) : (eW ws).take k = eW (ws.take k) := by simp [eW]
theorem cut_words {ws : List (List Nat)} {i j : Nat} (h1 : i ≤ j) (h2 : j ≤ ws.length) (a b : Int) (ha : a = i) (hb : b = j) : pCut (some a) (some b) (.tup (eW ws)) = some (.tup (eW ((ws.drop i).take (j - i)))) := by
  subst ha; subst hb
  show (if PV.owns (eW ws) = false then some (PV.tup (cutP (eW ws) (some (i : Int)) (some (j : Int)))) else none) = _
  rw [if_pos (eW_owns _)]
  unfold cutP
  simp only [HT.sIx_nat, eW_len]
  rw [Nat.min_eq_left h2, Nat.min_eq_left (by omega), eW_drop, eW_take]
theorem lo_words_word {ws : List (List Nat)} {i : Nat} {w : List Nat} (h : ∀ w ∈ ws, Lo w) (e : ws[i]? = some w) : Lo w := h w (List.mem_of_getElem? e)
theorem at_words {ws : List (List Nat)} {k : Nat} {w : List Nat} (i : Int) (hi : i = k) (e : ws[k]? = some w) : atI (eW ws) i = some (.str (Sg w)) := by
  subst hi
  exact atI_of (by omega) (by simp [eW, e])
theorem place_lt {ws : List (List Nat)} {w : List Nat} {least p : Nat} (h : placeB ws w least = some p) : least ≤ p ∧ p < ws.length ∧ ws[p]? = some w := by
  unfold placeB at h
  have h1 := List.mem_of_find?_eq_some h
  have h2 := List.find?_some h
  rw [List.mem_range'_1] at h1
  simp only [decide_eq_true_eq] at h2
  exact ⟨h1.1, by omega, h2⟩
def xLine (row : Int) (r : Str) : XV := ⟨"BadLine", [("reason", .str r), ("row", .int row)]⟩
theorem lo_deed : Lo c_deed := by unfold Lo; decide
theorem lo_times : Lo c_times := by unfold Lo; decide
theorem lo_block : Lo c_block := by unfold Lo; decide
theorem lo_queue : Lo c_queue := by unfold Lo; decide
theorem lo_gives : Lo c_gives := by unfold Lo; decide
theorem lo_target : Lo c_target := by unfold Lo; decide
theorem lo_takes : Lo c_takes := by unfold Lo; decide
theorem lo_start : Lo c_start := by unfold Lo; decide
/-- the words of a line: their sizes -/
structure WsOK (ws : List (List Nat)) : Prop where
  lo : ∀ w ∈ ws, Lo w
  sz : ∀ w ∈ ws, w.length ≤ 1000000
  len : ws.length ≤ 1000000
theorem WsOK.drop {ws : List (List Nat)} (h : WsOK ws) (k : Nat) : WsOK (ws.drop k) := ⟨fun w hw => h.lo w (List.mem_of_mem_drop hw), fun w hw => h.sz w (List.mem_of_mem_drop hw), by have := h.len; rw [List.length_drop]; omega⟩
theorem WsOK.take {ws : List (List Nat)} (h : WsOK ws) (k : Nat) : WsOK (ws.take k) := ⟨fun w hw => h.lo w (List.mem_of_mem_take hw), fun w hw => h.sz w (List.mem_of_mem_take hw), by have := h.len; rw [List.length_take]; omega⟩
theorem nums_w {ws : List (List Nat)} (h : WsOK ws) : C_numbers_of [.tup (eW ws)] = .ok (if ws.all isNum then eI (vI ws) else .non) [.tup (eW ws)] := numbers_valI h.sz h.len
def readB (ws names : List (List Nat)) : Except Str Blk :=
  if ws.length < 3 ∨ ws[2]? ≠ some c_times then .error "form" else
  match placeB ws c_deed 3 with
  | none => .error "form"
  | some e =>
    if (((ws.drop 3).take (e - 3)).all isNum && (ws.drop (e + 1)).all isNum) = false then .error "number"
    else if nameB (ws.getD 1 []) = false ∨ ws.getD 1 [] ∈ names then .error "name"
    else if (timesV (eI (vI ((ws.drop 3).take (e - 3)))) && deedV (eI (vI (ws.drop (e + 1))))) = false then .error "value"
    else if 60 ≤ names.length then .error "many"
    else .ok ⟨Sg (ws.getD 1 []), vI ((ws.drop 3).take (e - 3)), vI (ws.drop (e + 1))⟩
theorem eI_own (l : List Int) : (eI l).own = false := owns_ints l
theorem eI_isNon (l : List Int) : isNon (eI l) = false := rfl
theorem read_block_val {ws names : List (List Nat)} {row : Int} (o : Bool) (h : WsOK ws) (hn : ∀ w ∈ names, Lo w) :
    C_read_block [.tup (eW ws), .lst o (eW names), .int row] = (match readB ws names with
      | .ok b => .ok (eB b) [.tup (eW ws), .lst o (eW names), .int row]
      | .error r => .exc (xLine row r) [.tup (eW ws), .lst o (eW names), .int row]) := by
  have e1 : C_place_behind [.tup (eW ws), .str (Sg c_deed), .int 3] = .ok (match placeB ws c_deed 3 with | some p => .int (p : Nat) | none => .non) [.tup (eW ws), .str (Sg c_deed), .int 3] := place_val (least := 3) h.lo lo_deed h.len (by omega)
  have ow := eW_owns ws
  have on := eW_owns names
  have own : o = true ∨ o = false := by cases o <;> simp
  unfold readB
  by_cases h1 : ws.length < 3
  · have d1 : (ws.length : Int) < 3 := by omega
    have h1' : ws.length < 3 ∨ ws[2]? ≠ some c_times := .inl h1
    rw [if_pos h1']
    cases hp : placeB ws c_deed 3 with
    | none => rw [hp] at e1; cases o <;> simp [C_read_block, runB, m_read_block, lit_deed, lit_times, ow, on, e1, eW_len, pLt, d1, xLine]
    | some e => rw [hp] at e1; cases o <;> simp [C_read_block, runB, m_read_block, lit_deed, lit_times, ow, on, e1, eW_len, pLt, d1, xLine]
  have d1 : ¬ (ws.length : Int) < 3 := by omega
  obtain ⟨w2, hw2⟩ : ∃ w2, ws[2]? = some w2 := ⟨_, List.getElem?_eq_getElem (by omega)⟩
  obtain ⟨w1, hw1⟩ : ∃ w1, ws[1]? = some w1 := ⟨_, List.getElem?_eq_getElem (by omega)⟩
  have i2 := at_words 2 rfl hw2
  have i1 := at_words 1 rfl hw1
  have q2 := eq_words true (lo_words_word h.lo hw2) lo_times
  have g1 : ws.getD 1 [] = w1 := by rw [List.getD_eq_getElem?_getD, hw1]; rfl
  by_cases h2 : w2 = c_times
  case neg =>
    have h1' : ws.length < 3 ∨ ws[2]? ≠ some c_times := .inr (by rw [hw2]; simpa using h2)
    rw [if_pos h1']
    cases hp : placeB ws c_deed 3 with
    | none => rw [hp] at e1; cases o <;> simp [C_read_block, runB, m_read_block, lit_deed, lit_times, ow, on, e1, eW_len, pLt, d1, i2, q2, h2, xLine]
    | some e => rw [hp] at e1; cases o <;> simp [C_read_block, runB, m_read_block, lit_deed, lit_times, ow, on, e1, eW_len, pLt, d1, i2, q2, h2, xLine]
  subst h2
  have h1' : ¬ (ws.length < 3 ∨ ws[2]? ≠ some c_times) := by rw [hw2]; simp; omega
  rw [if_neg h1']
  cases hp : placeB ws c_deed 3 with
  | none => rw [hp] at e1; cases o <;> simp [C_read_block, runB, m_read_block, lit_deed, lit_times, ow, on, e1, eW_len, pLt, d1, i2, q2, xLine]
  | some e =>
    rw [hp] at e1
    obtain ⟨p1, p2, p3⟩ := place_lt hp
    have c1 := cut_words (ws := ws) (i := 3) (j := e) p1 (by omega) 3 e rfl rfl
    have s1 : pSlLo [.tup (eW ws), .int ((e : Int) + 1)] = some (.tup (eW (ws.drop (e + 1)))) := by rw [slLo_tup _ _ (e + 1) (by omega) ow, eW_drop]
    have n1 := nums_w ((h.drop 3).take (e - 3))
    have n2 := nums_w (h.drop (e + 1))
    have o1 := eW_owns ((ws.drop 3).take (e - 3))
    have o2 := eW_owns (ws.drop (e + 1))
    dsimp only
    generalize hT : (ws.drop 3).take (e - 3) = T at *
    generalize hU : ws.drop (e + 1) = U at *
    have oT := eI_own (vI T)
    have oU := eI_own (vI U)
    have iT := eI_isNon (vI T)
    have iU := eI_isNon (vI U)
    rw [g1]
    cases a1 : T.all isNum with
    | false =>
      rw [a1] at n1
      cases a2 : U.all isNum with
      | false => rw [a2] at n2; cases o <;> simp [C_read_block, runB, m_read_block, lit_deed, lit_times, ow, on, e1, eW_len, pLt, d1, i2, q2, c1, s1, n1, n2, o1, o2, xLine]
      | true => rw [a2] at n2; cases o <;> simp [C_read_block, runB, m_read_block, lit_deed, lit_times, ow, on, e1, eW_len, pLt, d1, i2, q2, c1, s1, n1, n2, o1, o2, xLine, oU]
    | true =>
      rw [a1] at n1
      cases a2 : U.all isNum with
      | false => rw [a2] at n2; cases o <;> simp [C_read_block, runB, m_read_block, lit_deed, lit_times, ow, on, e1, eW_len, pLt, d1, i2, q2, c1, s1, n1, n2, o1, o2, xLine, oT, iT]
      | true =>
        rw [a2] at n2
        simp only [if_true] at n1 n2
        rw [if_neg (by simp)]
        have nv := name_val (c := w1) (h.sz w1 (List.mem_of_getElem? hw1))
        have iw := in_words false o (lo_words_word h.lo hw1) hn
        by_cases b1 : nameB w1 = true
        case neg =>
          have b1 : nameB w1 = false := by simpa using b1
          rw [b1] at nv
          rw [if_pos (.inl b1)]
          cases o <;> simp [C_read_block, runB, m_read_block, lit_deed, lit_times, ow, on, e1, eW_len, pLt, d1, i2, q2, c1, s1, n1, n2, o1, o2, xLine, oT, oU, iT, iU, i1, nv]
        rw [b1] at nv
        by_cases b2 : w1 ∈ names
        · rw [if_pos (.inr b2)]
          cases o <;> simp [C_read_block, runB, m_read_block, lit_deed, lit_times, ow, on, e1, eW_len, pLt, d1, i2, q2, c1, s1, n1, n2, o1, o2, xLine, oT, oU, iT, iU, i1, nv, iw, b2]
        rw [if_neg (by simp [b1, b2])]
        have bv := blk_val (b := ⟨w1, eI (vI T), eI (vI U)⟩) ⟨h.sz w1 (List.mem_of_getElem? hw1), numsSh_ints (by rw [vI, List.length_map, ← hT]; exact ((h.drop 3).take (e - 3)).len), numsSh_ints (by rw [vI, List.length_map, ← hU]; exact (h.drop (e + 1)).len)⟩
        have fT := frz_id oT
        have fU := frz_id oU
        simp only [bkV, b1, Bool.true_and] at bv
        simp only [eK] at bv
        cases b3 : (timesV (eI (vI T)) && deedV (eI (vI U))) with
        | false =>
          rw [b3] at bv
          rw [if_pos rfl]
          cases o <;> simp [C_read_block, runB, m_read_block, lit_deed, lit_times, ow, on, e1, eW_len, pLt, d1, i2, q2, c1, s1, n1, n2, o1, o2, xLine, oT, oU, iT, iU, i1, nv, iw, b2, fT, fU, bv]
        | true =>
          rw [b3] at bv
          rw [if_neg (by simp)]
          by_cases b4 : 60 ≤ names.length
          · have d4 : (60 : Int) ≤ names.length := by omega
            rw [if_pos b4]
            cases o <;> simp [C_read_block, runB, m_read_block, lit_deed, lit_times, ow, on, e1, eW_len, pLt, pGe, d1, d4, i2, q2, c1, s1, n1, n2, o1, o2, xLine, oT, oU, iT, iU, i1, nv, iw, b2, fT, fU, bv]
          · have d4 : ¬ (60 : Int) ≤ names.length := by omega
            rw [if_neg b4]
            have hE : eB ⟨Sg w1, vI T, vI U⟩ = .tup [.str (Sg w1), eI (vI T), eI (vI U)] := rfl
            dsimp only
            rw [hE]
            cases o <;> simp [C_read_block, runB, m_read_block, lit_deed, lit_times, ow, on, e1, eW_len, pLt, pGe, d1, d4, i2, q2, c1, s1, n1, n2, o1, o2, xLine, oT, oU, iT, iU, i1, nv, iw, b2, fT, fU, bv]

/-! ### reading a queue -/
theorem que_valL {q : Qk} {bs : List Blk} (h : QkSh q) (hb : bs.length ≤ 1000) : C_is_queue [eR q, .lst true (bs.map eB)] = .ok (.bl (qkV bs q)) [eR q, .lst true (bs.map eB)] := by
  have os := numV_own h.s
  have ot := numV_own h.t
  have og := numsSh_own h.g
  have ok := numsSh_own h.k
  have ost := numsSh_own h.st
  have e1 := whole_val (lo := 0) (hi := (bs.length : Int) - 1) h.s
  have e2 := whole_val (lo := 0) (hi := (bs.length : Int) - 1) h.t
  cases v1 : wholeV 0 ((bs.length : Int) - 1) q.s with
  | false => rw [v1] at e1; simp [C_is_queue, runB, m_is_queue, eR, os, ot, og, ok, ost, e1, qkV, v1]
  | true =>
    rw [v1] at e1
    cases v2 : wholeV 0 ((bs.length : Int) - 1) q.t with
    | false => rw [v2] at e2; simp [C_is_queue, runB, m_is_queue, eR, os, ot, og, ok, ost, e1, e2, qkV, v1, v2]
    | true =>
      rw [v2] at e2
      obtain ⟨i, ei, i0, i1⟩ := whole_int v1
      obtain ⟨j, ej, j0, j1⟩ := whole_int v2
      have hi : bs[i.toNat]? = some bs[i.toNat] := List.getElem?_eq_getElem (by omega)
      have hj : bs[j.toNat]? = some bs[j.toNat] := List.getElem?_eq_getElem (by omega)
      have a1 : atI (bs.map eB) i = some (eB bs[i.toNat]) := atI_of i0 (by rw [List.getElem?_map, hi]; rfl)
      have a2 : atI (bs.map eB) j = some (eB bs[j.toNat]) := atI_of j0 (by rw [List.getElem?_map, hj]; rfl)
      have t1 : tlen bs q.s = (bs[i.toNat]).times.length := by rw [ei]; simp only [tlen, hi]
      have t2 : tlen bs q.t = (bs[j.toNat]).times.length := by rw [ej]; simp only [tlen, hj]
      have e3 := rates_val (size := (bs[i.toNat]).times.length) h.g
      have e4 := rates_val (size := (bs[j.toNat]).times.length) h.k
      have e5 := start_val h.st
      rw [ei] at e1
      rw [ej] at e2
      cases v3 : ratesV (bs[i.toNat]).times.length q.g with
      | false => rw [v3] at e3; simp [C_is_queue, runB, m_is_queue, eR, ei, ej, og, ok, ost, e1, e2, qkV, a1, a2, e3]; simp [← ei, ← ej, v1, v2, t1, v3]
      | true =>
        rw [v3] at e3
        cases v4 : ratesV (bs[j.toNat]).times.length q.k with
        | false => rw [v4] at e4; simp [C_is_queue, runB, m_is_queue, eR, ei, ej, og, ok, ost, e1, e2, qkV, a1, a2, e3, e4]; simp [← ei, ← ej, v1, v2, t1, v3, t2, v4]
        | true => rw [v4] at e4; simp [C_is_queue, runB, m_is_queue, eR, ei, ej, og, ok, ost, e1, e2, qkV, a1, a2, e3, e4, e5]; simp [← ei, ← ej, v1, v2, t1, v3, t2, v4]
structure Parts where
  s : List Nat
  g : List Int
  t : List Nat
  k : List Int
  st : List Int
def eP (p : Parts) : PV := .tup [.str (Sg p.s), eI p.g, .str (Sg p.t), eI p.k, eI p.st]
def partsQ (ws : List (List Nat)) : Except Str Parts :=
  if ws.length < 2 ∨ ws[1]? ≠ some c_gives then .error "form" else
  match placeB ws c_target 2 with
  | none => .error "form"
  | some m =>
    if ws.length < m + 3 ∨ ws[m + 2]? ≠ some c_takes then .error "form" else
    match placeB ws c_start (m + 3) with
    | none => .error "form"
    | some e =>
      if (((ws.drop 2).take (m - 2)).all isNum && (((ws.drop (m + 3)).take (e - (m + 3))).all isNum && (ws.drop (e + 1)).all isNum)) = false then .error "number"
      else .ok ⟨ws.getD 0 [], vI ((ws.drop 2).take (m - 2)), ws.getD (m + 1) [], vI ((ws.drop (m + 3)).take (e - (m + 3))), vI (ws.drop (e + 1))⟩
theorem queue_parts_val {ws : List (List Nat)} {row : Int} (h : WsOK ws) :
    C_queue_parts [.tup (eW ws), .int row] = (match partsQ ws with
      | .ok b => .ok (eP b) [.tup (eW ws), .int row]
      | .error r => .exc (xLine row r) [.tup (eW ws), .int row]) := by
  have e1 : C_place_behind [.tup (eW ws), .str (Sg c_target), .int 2] = .ok (match placeB ws c_target 2 with | some p => .int (p : Nat) | none => .non) [.tup (eW ws), .str (Sg c_target), .int 2] := place_val (least := 2) h.lo lo_target h.len (by omega)
  have ow := eW_owns ws
  unfold partsQ
  by_cases h1 : ws.length < 2
  · have d1 : (ws.length : Int) < 2 := by omega
    rw [if_pos (.inl h1)]
    cases hp : placeB ws c_target 2 with
    | none => rw [hp] at e1; simp [C_queue_parts, runB, m_queue_parts, lit_target, lit_gives, lit_takes, lit_start, ow, e1, eW_len, pLt, d1, xLine]
    | some e => rw [hp] at e1; simp [C_queue_parts, runB, m_queue_parts, lit_target, lit_gives, lit_takes, lit_start, ow, e1, eW_len, pLt, d1, xLine]
  have d1 : ¬ (ws.length : Int) < 2 := by omega
  obtain ⟨w1, hw1⟩ : ∃ w1, ws[1]? = some w1 := ⟨_, List.getElem?_eq_getElem (by omega)⟩
  obtain ⟨w0, hw0⟩ : ∃ w1, ws[0]? = some w1 := ⟨_, List.getElem?_eq_getElem (by omega)⟩
  have i1 := at_words 1 rfl hw1
  have i0 := at_words 0 rfl hw0
  have q1 := eq_words true (lo_words_word h.lo hw1) lo_gives
  have g0 : ws.getD 0 [] = w0 := by rw [List.getD_eq_getElem?_getD, hw0]; rfl
  by_cases h2 : w1 = c_gives
  case neg =>
    rw [if_pos (.inr (by rw [hw1]; simpa using h2))]
    cases hp : placeB ws c_target 2 with
    | none => rw [hp] at e1; simp [C_queue_parts, runB, m_queue_parts, lit_target, lit_gives, lit_takes, lit_start, ow, e1, eW_len, pLt, d1, i1, q1, h2, xLine]
    | some e => rw [hp] at e1; simp [C_queue_parts, runB, m_queue_parts, lit_target, lit_gives, lit_takes, lit_start, ow, e1, eW_len, pLt, d1, i1, q1, h2, xLine]
  subst h2
  rw [if_neg (by rw [hw1]; simp; omega)]
  cases hp : placeB ws c_target 2 with
  | none => rw [hp] at e1; simp [C_queue_parts, runB, m_queue_parts, lit_target, lit_gives, lit_takes, lit_start, ow, e1, eW_len, pLt, d1, i1, q1, xLine]
  | some m =>
    rw [hp] at e1
    obtain ⟨p1, p2, p3⟩ := place_lt hp
    dsimp only
    by_cases h3 : ws.length < m + 3
    · have d3 : (ws.length : Int) < (m : Int) + 3 := by omega
      rw [if_pos (.inl h3)]
      simp [C_queue_parts, runB, m_queue_parts, lit_target, lit_gives, lit_takes, lit_start, ow, e1, eW_len, pLt, d1, i1, q1, d3, xLine]
    have d3 : ¬ (ws.length : Int) < (m : Int) + 3 := by omega
    obtain ⟨w2, hw2⟩ : ∃ w1, ws[m + 2]? = some w1 := ⟨_, List.getElem?_eq_getElem (by omega)⟩
    obtain ⟨w3, hw3⟩ : ∃ w1, ws[m + 1]? = some w1 := ⟨_, List.getElem?_eq_getElem (by omega)⟩
    have i2 := at_words ((m : Int) + 2) (by omega) hw2
    have i3 := at_words ((m : Int) + 1) (by omega) hw3
    have q2 := eq_words true (lo_words_word h.lo hw2) lo_takes
    have g3 : ws.getD (m + 1) [] = w3 := by rw [List.getD_eq_getElem?_getD, hw3]; rfl
    by_cases h4 : w2 = c_takes
    case neg =>
      rw [if_pos (.inr (by rw [hw2]; simpa using h4))]
      simp [C_queue_parts, runB, m_queue_parts, lit_target, lit_gives, lit_takes, lit_start, ow, e1, eW_len, pLt, d1, i1, q1, d3, i2, q2, h4, xLine]
    subst h4
    rw [if_neg (by rw [hw2]; simp; omega)]
    have e2 : C_place_behind [.tup (eW ws), .str (Sg c_start), .int ((m : Int) + 3)] = .ok (match placeB ws c_start (m + 3) with | some p => .int (p : Nat) | none => .non) [.tup (eW ws), .str (Sg c_start), .int ((m : Int) + 3)] := place_val (least := m + 3) h.lo lo_start h.len (by have := h.len; omega)
    cases hq : placeB ws c_start (m + 3) with
    | none =>
      rw [hq] at e2
      simp [C_queue_parts, runB, m_queue_parts, lit_target, lit_gives, lit_takes, lit_start, ow, e1, eW_len, pLt, d1, i1, q1, d3, i2, q2, e2, xLine]
    | some e =>
      rw [hq] at e2
      obtain ⟨r1, r2, r3⟩ := place_lt hq
      have c1 := cut_words (ws := ws) (i := 2) (j := m) p1 (by omega) 2 m rfl rfl
      have c2 := cut_words (ws := ws) (i := m + 3) (j := e) r1 (by omega) ((m : Int) + 3) e (by omega) rfl
      have s1 : pSlLo [.tup (eW ws), .int ((e : Int) + 1)] = some (.tup (eW (ws.drop (e + 1)))) := by rw [slLo_tup _ _ (e + 1) (by omega) ow, eW_drop]
      have n1 := nums_w ((h.drop 2).take (m - 2))
      have n2 := nums_w ((h.drop (m + 3)).take (e - (m + 3)))
      have n3 := nums_w (h.drop (e + 1))
      have o1 := eW_owns ((ws.drop 2).take (m - 2))
      have o2 := eW_owns ((ws.drop (m + 3)).take (e - (m + 3)))
      have o3 := eW_owns (ws.drop (e + 1))
      dsimp only
      generalize (ws.drop 2).take (m - 2) = G at *
      generalize (ws.drop (m + 3)).take (e - (m + 3)) = T at *
      generalize ws.drop (e + 1) = S at *
      rw [g0, g3]
      have oG := eI_own (vI G)
      have oT := eI_own (vI T)
      have oS := eI_own (vI S)
      have iG := eI_isNon (vI G)
      have iT := eI_isNon (vI T)
      have iS := eI_isNon (vI S)
      have fG := frz_id oG
      have fT := frz_id oT
      have fS := frz_id oS
      cases a1 : G.all isNum with
      | false =>
        rw [a1] at n1
        cases a2 : T.all isNum <;> cases a3 : S.all isNum <;> rw [a2] at n2 <;> rw [a3] at n3 <;>
          simp [C_queue_parts, runB, m_queue_parts, lit_target, lit_gives, lit_takes, lit_start, ow, e1, eW_len, pLt, d1, i1, q1, d3, i2, q2, e2, xLine, c1, c2, s1, n1, n2, n3, o1, o2, o3, oG, oT, oS, iG, iT, iS]
      | true =>
        rw [a1] at n1
        cases a2 : T.all isNum with
        | false =>
          rw [a2] at n2
          cases a3 : S.all isNum <;> rw [a3] at n3 <;>
            simp [C_queue_parts, runB, m_queue_parts, lit_target, lit_gives, lit_takes, lit_start, ow, e1, eW_len, pLt, d1, i1, q1, d3, i2, q2, e2, xLine, c1, c2, s1, n1, n2, n3, o1, o2, o3, oG, oT, oS, iG, iT, iS]
        | true =>
          rw [a2] at n2
          cases a3 : S.all isNum with
          | false =>
            rw [a3] at n3
            simp [C_queue_parts, runB, m_queue_parts, lit_target, lit_gives, lit_takes, lit_start, ow, e1, eW_len, pLt, d1, i1, q1, d3, i2, q2, e2, xLine, c1, c2, s1, n1, n2, n3, o1, o2, o3, oG, oT, oS, iG, iT, iS]
          | true =>
            rw [a3] at n3
            simp [C_queue_parts, runB, m_queue_parts, lit_target, lit_gives, lit_takes, lit_start, ow, e1, eW_len, pLt, d1, i1, q1, d3, i2, q2, e2, xLine, c1, c2, s1, n1, n2, n3, o1, o2, o3, oG, oT, oS, iG, iT, iS, i0, i3, fG, fT, fS, eP]
/-! ### a name's place -/
def placeN (names : List (List Nat)) (a : List Nat) : Option Nat := names.findIdx? fun z => decide (z = a)
theorem index_val {names : List (List Nat)} {a : List Nat} (o : Bool) (ha : Lo a) (hn : ∀ w ∈ names, Lo w) : pIndex [.lst o (eW names), .str (Sg a)] = (placeN names a).map fun j => .int (j : Nat) := by
  have hd : toDs (eW names) = some (names.map fun w => PyData.str (Sg w)) := by
    have := toDs_strs (names.map Sg)
    rw [List.map_map, List.map_map] at this
    exact this
  have hs : SeqAt.shaped (.list (names.map fun w => PyData.str (Sg w))) = true := by
    have e : names.map (fun w => PyData.str (Sg w)) = (names.map Sg).map PyData.str := by rw [List.map_map]; rfl
    rw [e]
    unfold SeqAt.shaped
    rw [show PyData.canLay0 (.list ((names.map Sg).map PyData.str)) = PyData.canLayAll0 ((names.map Sg).map PyData.str) from rfl, lay_strs _ (fun y hy => by
      obtain ⟨w, hw, rfl⟩ := List.mem_map.mp hy
      exact strOk_of (hn w hw)), show PyData.depth (.list ((names.map Sg).map PyData.str)) = PyData.depthAll ((names.map Sg).map PyData.str) + 1 from rfl, dep_strs]
    rfl
  show (match shD (.str (Sg a)), toDs (eW names) with
    | some d, some ds => if SeqAt.shaped (.list ds) = true then (match ds.findIdx? (fun z => PyData.eqv z d) with | some j => some (PV.int (j : Nat)) | none => none) else none
    | _, _ => none) = _
  rw [sh_str (strOk_of ha), hd]
  dsimp only
  rw [if_pos hs, List.findIdx?_map]
  have : (fun z => PyData.eqv z (PyData.str (Sg a))) ∘ (fun w => PyData.str (Sg w)) = fun z => decide (z = a) := funext fun z => by
    show ((Sg z) == (Sg a)) = _
    by_cases h : z = a
    · subst h; simp
    · have : ¬ (Sg z = Sg a) := fun e => h (_root_.SX.S_inj e)
      simp [h, this]
  rw [this]
  unfold placeN
  cases names.findIdx? fun z => decide (z = a) <;> rfl
theorem placeN_some {names : List (List Nat)} {a : List Nat} (h : a ∈ names) : ∃ j, placeN names a = some j ∧ j < names.length ∧ names[j]? = some a := by
  unfold placeN
  cases hp : names.findIdx? fun z => decide (z = a) with
  | none =>
    rw [List.findIdx?_eq_none_iff] at hp
    have := hp a h
    simp at this
  | some j =>
    rw [List.findIdx?_eq_some_iff_getElem] at hp
    obtain ⟨hj, h1, _⟩ := hp
    exact ⟨j, rfl, hj, by rw [List.getElem?_eq_getElem hj]; simpa using h1⟩
theorem placeN_none {names : List (List Nat)} {a : List Nat} (h : a ∉ names) : placeN names a = none := by
  unfold placeN
  rw [List.findIdx?_eq_none_iff]
  intro x hx
  have : x ≠ a := fun e => h (e ▸ hx)
  simpa using this
theorem number_in_val {names : List (List Nat)} {a : List Nat} {row : Int} (ha : Lo a) (hn : ∀ w ∈ names, Lo w) :
    C_number_in [.lst true (eW names), .str (Sg a), .int row] = (match placeN names a with
      | some j => .ok (.int (j : Nat)) [.lst true (eW names), .str (Sg a), .int row]
      | none => .exc (xLine row "name") [.lst true (eW names), .str (Sg a), .int row]) := by
  have i1 := in_words true true ha hn
  have i2 := index_val true ha hn
  have on := eW_owns names
  by_cases h : a ∈ names
  · obtain ⟨j, e, _⟩ := placeN_some h
    rw [e] at i2 ⊢
    simp [C_number_in, runB, m_number_in, on, i1, i2, h]
  · rw [placeN_none h]
    simp [C_number_in, runB, m_number_in, on, i1, h, xLine]

theorem partsQ_ok {ws : List (List Nat)} {p : Parts} (h : WsOK ws) (e : partsQ ws = .ok p) : p.g.length ≤ 1000000 ∧ p.k.length ≤ 1000000 ∧ p.st.length ≤ 1000000 ∧ Lo p.s ∧ Lo p.t := by
  have lo : ∀ i, Lo (ws.getD i []) := fun i => by
    rw [List.getD_eq_getElem?_getD]
    cases e : ws[i]? with
    | none => intro x hx; simp at hx
    | some w => exact lo_words_word h.lo e
  have hl := h.len
  unfold partsQ at e
  split at e
  · cases e
  · split at e
    · cases e
    · split at e
      · cases e
      · split at e
        · cases e
        · split at e
          · cases e
          · cases e
            refine ⟨?_, ?_, ?_, lo _, lo _⟩ <;> simp [vI] <;> omega
def readQ (ws : List (List Nat)) (bs : List Blk) (many : Nat) : Except Str Que :=
  if ws.length < 2 then .error "form" else
  match partsQ (ws.drop 1) with
  | .error r => .error r
  | .ok p => match placeN (bs.map nm) p.s with
    | none => .error "name"
    | some i => match placeN (bs.map nm) p.t with
      | none => .error "name"
      | some j =>
        if qkV bs ⟨.int (i : Nat), eI p.g, .int (j : Nat), eI p.k, eI p.st⟩ = false then .error "value"
        else if 160 ≤ many then .error "many"
        else .ok ⟨i, j, p.g, p.k, p.st⟩
theorem names_eW (bs : List Blk) : (bs.map fun b => PV.str b.name) = eW (bs.map nm) := by
  unfold eW
  rw [List.map_map]
  exact List.map_congr_left fun b _ => by show PV.str b.name = .str (Sg (nm b)); rw [nm_name]
theorem read_queue_val {ws : List (List Nat)} {bs : List Blk} {many : Nat} {row : Int} (h : WsOK ws) (hb : bs.length ≤ 1000) (hn : ∀ b ∈ bs, Lo (nm b)) :
    C_read_queue [.tup (eW ws), .lst true (bs.map eB), .int many, .int row] = (match readQ ws bs many with
      | .ok q => .ok (eQ q) [.tup (eW ws), .lst true (bs.map eB), .int many, .int row]
      | .error r => .exc (xLine row r) [.tup (eW ws), .lst true (bs.map eB), .int many, .int row]) := by
  have ow := eW_owns ws
  have ob := eBs_own bs
  unfold readQ
  by_cases h1 : ws.length < 2
  · have d1 : (ws.length : Int) < 2 := by omega
    rw [if_pos h1]
    simp [C_read_queue, runB, m_read_queue, ow, ob, eW_len, pLt, d1, xLine]
  have d1 : ¬ (ws.length : Int) < 2 := by omega
  rw [if_neg h1]
  have hp := queue_parts_val (row := row) (h.drop 1)
  have s1 : pSlLo [.tup (eW ws), .int 1] = some (.tup (eW (ws.drop 1))) := (slLo_tup _ 1 1 rfl ow).trans (by rw [eW_drop])
  have ow1 := eW_owns (ws.drop 1)
  have pk := fun p => partsQ_ok (p := p) (h.drop 1)
  generalize ws.drop 1 = us at *
  cases e : partsQ us with
  | error r =>
    rw [e] at hp
    simp [C_read_queue, runB, m_read_queue, ow, ob, eW_len, pLt, d1, s1, hp, ow1]
  | ok p =>
    rw [e] at hp
    obtain ⟨l1, l2, l3, l4, l5⟩ := pk p e
    dsimp only at hp ⊢
    unfold eP at hp
    have oG := eI_own p.g
    have oK := eI_own p.k
    have oS := eI_own p.st
    have fG := frz_id oG
    have fK := frz_id oK
    have fS := frz_id oS
    have hc : ∀ a5 a6 a7 a8 a9, compL (t1 4) mYes (mFz (mOp pIx (oCons (oN 4) (oCons (oE (mC (.int 0))) oNil)))) [4] (bs.map eB) [some (.tup (eW ws)), none, some (.int many), some (.int row), none, a5, a6, a7, a8, a9, none, none, none, none] [] = .ok ([] ++ bs.map fun b => PV.str b.name) [some (.tup (eW ws)), none, some (.int many), some (.int row), none, a5, a6, a7, a8, a9, none, none, none, none] := fun a5 a6 a7 a8 a9 => by
      refine compE (fun b hb => ?_) []
      exact ⟨_, [some (.tup (eW ws)), none, some (.int many), some (.int row), some (eB b), a5, a6, a7, a8, a9, none, none, none, none], rfl, by simp, by simp⟩
    simp only [names_eW, List.nil_append] at hc
    have hN : ∀ w ∈ bs.map nm, Lo w := fun w hw => by
      obtain ⟨b, hb2, rfl⟩ := List.mem_map.mp hw
      exact hn b hb2
    have n1 := number_in_val (row := row) l4 hN
    have n2 := number_in_val (row := row) l5 hN
    have oN' := eW_owns (bs.map nm)
    have lb : bs.length ≤ LIM := lim_le (by omega)
    generalize bs.map nm = N at *
    cases e1 : placeN N p.s with
    | none =>
      rw [e1] at n1
      simp [C_read_queue, runB, m_read_queue, ow, ob, eW_len, pLt, d1, s1, hp, ow1, hc, n1, oG, oK, oS, oN', lb]
    | some i =>
      rw [e1] at n1
      dsimp only at n1 ⊢
      cases e2 : placeN N p.t with
      | none =>
        rw [e2] at n2
        simp [C_read_queue, runB, m_read_queue, ow, ob, eW_len, pLt, d1, s1, hp, ow1, hc, n1, n2, oG, oK, oS, oN', lb]
      | some j =>
        rw [e2] at n2
        dsimp only at n2 ⊢
        have qv := que_valL (bs := bs) (q := ⟨.int (i : Nat), eI p.g, .int (j : Nat), eI p.k, eI p.st⟩) ⟨rfl, numsSh_ints l1, rfl, numsSh_ints l2, numsSh_ints l3⟩ hb
        simp only [eR] at qv
        cases e3 : qkV bs ⟨.int (i : Nat), eI p.g, .int (j : Nat), eI p.k, eI p.st⟩ with
        | false =>
          rw [e3] at qv
          rw [if_pos rfl]
          simp [C_read_queue, runB, m_read_queue, ow, ob, eW_len, pLt, d1, s1, hp, ow1, hc, n1, n2, oG, oK, oS, oN', fG, fK, fS, qv, xLine, lb]
        | true =>
          rw [e3] at qv
          rw [if_neg (by simp)]
          by_cases h4 : 160 ≤ many
          · have d4 : (160 : Int) ≤ many := by omega
            rw [if_pos h4]
            simp [C_read_queue, runB, m_read_queue, ow, ob, eW_len, pLt, pGe, d1, d4, s1, hp, ow1, hc, n1, n2, oG, oK, oS, oN', fG, fK, fS, qv, xLine, lb]
          · have d4 : ¬ (160 : Int) ≤ many := by omega
            rw [if_neg h4]
            have hE : eQ ⟨i, j, p.g, p.k, p.st⟩ = .tup [.int (i : Nat), eI p.g, .int (j : Nat), eI p.k, eI p.st] := rfl
            dsimp only
            rw [hE]
            simp [C_read_queue, runB, m_read_queue, ow, ob, eW_len, pLt, pGe, d1, d4, s1, hp, ow1, hc, n1, n2, oG, oK, oS, oN', fG, fK, fS, qv, xLine, lb]
/-! ### reading a text -/
theorem ends_one (t : List Nat) (c : Nat) : Txt.endswith (Sg (t ++ [c])) (Sg [c]) = true := by
  have e : (Sg (t ++ [c])).cps.extract t.length (t.length + 1) = #[c] := by
    show ((t ++ [c]).toArray).extract t.length (t.length + 1) = #[c]
    rw [List.extract_toArray, List.extract_eq_take_drop]
    simp
  show (0 + (Sg [c]).length ≤ (Sg (t ++ [c])).length && Builtin.Str.subAt (Sg (t ++ [c])) (Sg [c]) ((Sg (t ++ [c])).length - (Sg [c]).length)) = true
  rw [_root_.SX.S_len, _root_.SX.S_len]
  have e2 : Builtin.Str.subAt (Sg (t ++ [c])) (Sg [c]) ((t ++ [c]).length - [c].length) = true := by
    have h1 : (t ++ [c]).length - [c].length = t.length := by simp
    rw [h1]
    unfold Builtin.Str.subAt
    rw [_root_.SX.S_len]
    show ((Sg (t ++ [c])).cps.extract t.length (t.length + 1) == #[c]) = true
    rw [e]
    simp
  rw [e2]
  simp
theorem lit_T : ("text" : Str) = Sg [116, 101, 120, 116] := by decide +kernel
theorem text_lines_good {t : List Nat} (hl : t.length < 100000) : C_text_lines [.str (Sg (t ++ [10]))] = .ok (.lst true (eW (spl1 10 [] t))) [.str (Sg (t ++ [10]))] := by
  have e1 := ends_one t 10
  have e2 : pSlHi [.str (Sg (t ++ [10])), .int (-1)] = some (.str (Sg t)) := by
    show (if (Sg (t ++ [10])).length ≤ LIM then some (PV.str (cutS (Sg (t ++ [10])) none (some (-1)))) else none) = _
    rw [_root_.SX.S_len, if_pos (lim_le (by simp; omega)), _root_.C8.cutS_slice, _root_.SX.butlast_snoc]
  have e3 := pp_split1 t 10 (by omega) (by omega)
  have e4 := lenS (c := t ++ [10]) (by simp; omega)
  have d : ¬ ((100000 : Int) < ((t ++ [10]).length : Nat)) := by simp; omega
  have e5 : pEnds [.str (Sg (t ++ [10])), .str (Sg [10])] = some (.bl true) := by
    show some (PV.bl (Txt.endswith (Sg (t ++ [10])) (Sg [10]))) = _
    rw [e1]
  simp only [C_text_lines, m_text_lines, lit_nl]
  generalize t ++ [10] = T at *
  simp [runB, ap_str1, e2, e3, e4, e5, pGt, d]
/-- one line -/
def stepG (st : List Blk × List Que) (line : List Nat) : Except Str (List Blk × List Que) :=
  if kvB (spl1 32 [] line) = false then .error "words"
  else if (spl1 32 [] line).getD 0 [] = c_block ∧ st.2.length = 0 then (match readB (spl1 32 [] line) (st.1.map nm) with
    | .ok b => .ok (st.1 ++ [b], st.2)
    | .error r => .error r)
  else if (spl1 32 [] line).getD 0 [] = c_queue then (match readQ (spl1 32 [] line) st.1 st.2.length with
    | .ok q => .ok (st.1, st.2 ++ [q])
    | .error r => .error r)
  else .error "kind"
structure GSt (st : List Blk × List Que) : Prop where
  b : st.1.length ≤ 60
  q : st.2.length ≤ 160
  n : ∀ b ∈ st.1, Lo (nm b)
theorem spl1_ne (c : Nat) : ∀ (t acc : List Nat), spl1 c acc t ≠ []
  | [], acc => by simp [spl1]
  | x :: r, acc => by
    unfold spl1
    split
    · simp
    · exact spl1_ne c r _
theorem spl_ws {t : List Nat} (h : t.length ≤ 100000) (hl : Lo t) : WsOK (spl1 32 [] t) :=
  ⟨spl1_lo 32 t [] hl (fun x hx => by simp at hx), fun w hw => by have := spl1_size 32 t [] w hw; simp at this; omega, by have := spl1_len 32 t []; omega⟩
theorem readB_ok {ws names : List (List Nat)} {b : Blk} (h : WsOK ws) (e : readB ws names = .ok b) : Lo (nm b) ∧ names.length < 60 := by
  have lo : ∀ i, Lo (ws.getD i []) := fun i => by
    rw [List.getD_eq_getElem?_getD]
    cases e : ws[i]? with
    | none => intro x hx; simp at hx
    | some w => exact lo_words_word h.lo e
  unfold readB at e
  split at e
  · cases e
  · split at e
    · cases e
    · split at e
      · cases e
      · split at e
        · cases e
        · split at e
          · cases e
          · split at e
            · cases e
            · cases e
              exact ⟨lo 1, by omega⟩
theorem stepG_ok {st st' : List Blk × List Que} {line : List Nat} (g : GSt st) (h : line.length ≤ 100000) (hl : Lo line) (e : stepG st line = .ok st') : GSt st' := by
  have hw := spl_ws h hl
  unfold stepG at e
  split at e
  · cases e
  · split at e
    · split at e
      · rename_i b eb
        cases e
        obtain ⟨b1, b2⟩ := readB_ok hw eb
        rw [List.length_map] at b2
        refine ⟨by simp; omega, g.q, fun z hz => ?_⟩
        rcases List.mem_append.mp hz with m | m
        · exact g.n z m
        · rw [List.mem_singleton.mp m]; exact b1
      · cases e
    · split at e
      · split at e
        · rename_i q eq
          cases e
          have hq : st.2.length < 160 := by
            unfold readQ at eq
            split at eq
            · cases eq
            · split at eq
              · cases eq
              · split at eq
                · cases eq
                · split at eq
                  · cases eq
                  · split at eq
                    · cases eq
                    · split at eq
                      · cases eq
                      · omega
          exact ⟨g.b, by simp; omega, g.n⟩
        · cases e
      · cases e
@[simp] theorem fin_exc (ps : List Pnd) (vals : List PV) (x : XV) (s : Sl) : finL ps vals (.exc x s) = .exc x (putP ps vals s) := rfl
noncomputable def bodyR : MS := mSeq (mAsg (mOp pAdd (oCons (oN 4) (oCons (oE (mC (.int 1))) oNil))) (t1 6))
  (mSeq (mAsg (mCallN 1 C_key_values (oCons (oN 5) (oNil))) (t1 7))
  (mSeq (mIf (mT (mOp (pIsN false) (oCons (oN 7) (oCons (oE (mC .non)) oNil)))) (mRaise (mMk "BadLine" ["row", "reason"] (vCons (mFzN 6) (vCons (mC (.str "words")) (vNil))))) (mNx))
  (mIf (mAnd (mT (mOp (pEq false) (oCons (oE (mOp pIx (oCons (oN 7) (oCons (oE (mC (.int 0))) oNil)))) (oCons (oE (mC (.str "block"))) oNil)))) (mT (mOp (pEq false) (oCons (oE (mOp pLen (oCons (oN 3) (oNil)))) (oCons (oE (mC (.int 0))) oNil))))) (mSeq (mAsg (mComp (oCons (oN 2) oNil) itSeq (t1 1) (mYes) (mFz (mOp pIx (oCons (oN 1) (oCons (oE (mC (.int 0))) oNil)))) [1]) (t1 8))
  (mDrop (mMeth 2 fApp (vCons (mFz (mCallN 3 C_read_block (oCons (oN 7) (oCons (oN 8) (oCons (oN 6) (oNil)))))) (vNil))))) (mIf (mT (mOp (pEq false) (oCons (oE (mOp pIx (oCons (oN 7) (oCons (oE (mC (.int 0))) oNil)))) (oCons (oE (mC (.str "queue"))) oNil)))) (mDrop (mMeth 3 fApp (vCons (mFz (mCallN 4 C_read_queue (oCons (oN 7) (oCons (oN 2) (oCons (oE (mOp pLen (oCons (oN 3) (oNil)))) (oCons (oN 6) (oNil))))))) (vNil)))) (mRaise (mMk "BadLine" ["row", "reason"] (vCons (mFzN 6) (vCons (mC (.str "kind")) (vNil)))))))))
def encS (a0 : Option PV) (st : List Blk × List Que) (a4 a5 a6 a7 a8 : Option PV) : Sl := [a0, none, some (.lst true (st.1.map eB)), some (.lst true (st.2.map eQ)), a4, a5, a6, a7, a8]
theorem bodyR_val (a0 a6 a7 a8 : Option PV) {st : List Blk × List Que} (g : GSt st) (k : Int) {line : List Nat} (h : line.length ≤ 100000) (hl : Lo line) :
    ∃ b6 b7 b8, (match stepG st line with
      | .ok st' => bodyR (encS a0 st (some (.int k)) (some (.str (Sg line))) a6 a7 a8) = .nx (encS a0 st' (some (.int k)) (some (.str (Sg line))) b6 b7 b8)
      | .error r => ∃ s, bodyR (encS a0 st (some (.int k)) (some (.str (Sg line))) a6 a7 a8) = .exc (xLine (k + 1) r) (a0 :: s)) := by
  obtain ⟨bs, qs⟩ := st
  have hw := spl_ws h hl
  have hne := spl1_ne 32 line []
  have kv := kv_val (t := line) (by omega)
  have gb := g.b
  have gq := g.q
  have gn := g.n
  dsimp only at gb gq gn
  unfold stepG encS
  dsimp only
  generalize spl1 32 [] line = ws at *
  have ow := eW_owns ws
  have lb : bs.length ≤ LIM := lim_le (by omega)
  have lb2 : bs.length < LIM := lim_lt (by omega)
  have lq2 : qs.length < LIM := lim_lt (by omega)
  have ob := eBs_own bs
  have oq := eQs_own qs
  obtain ⟨w0, hw0⟩ : ∃ w0, ws[0]? = some w0 := by
    cases ws with
    | nil => exact absurd rfl hne
    | cons w r => exact ⟨w, rfl⟩
  have g0 : ws.getD 0 [] = w0 := by rw [List.getD_eq_getElem?_getD, hw0]; rfl
  have i0 := at_words 0 rfl hw0
  have qb := eq_words false (lo_words_word hw.lo hw0) lo_block
  have qq := eq_words false (lo_words_word hw.lo hw0) lo_queue
  rw [g0]
  cases h1 : kvB ws with
  | false =>
    rw [h1] at kv
    rw [if_pos rfl]
    refine ⟨none, none, none, ?ss0, ?hh0⟩
    case hh0 => simp [bodyR, kv, xLine]; exact rfl
  | true =>
    rw [h1] at kv
    rw [if_neg (by simp)]
    have hN : ∀ w ∈ bs.map nm, Lo w := fun w hw => by
      obtain ⟨b, hb2, rfl⟩ := List.mem_map.mp hw
      exact gn b hb2
    have oN' := eW_owns (bs.map nm)
    by_cases h2 : w0 = c_block ∧ qs.length = 0
    · rw [if_pos h2]
      obtain ⟨h2, h3⟩ := h2
      have hq0 : qs = [] := List.eq_nil_of_length_eq_zero h3
      subst hq0
      have hc : ∀ a5 a6 a7 a8, compL (t1 1) mYes (mFz (mOp pIx (oCons (oN 1) (oCons (oE (mC (.int 0))) oNil)))) [1] (bs.map eB) [a0, none, none, some (.lst true []), some (.int k), a5, a6, a7, a8] [] = .ok ([] ++ bs.map fun b => PV.str b.name) [a0, none, none, some (.lst true []), some (.int k), a5, a6, a7, a8] := fun a5 a6 a7 a8 => by
        refine compE (fun b hb => ?_) []
        exact ⟨_, [a0, some (eB b), none, some (.lst true []), some (.int k), a5, a6, a7, a8], rfl, by simp, by simp⟩
      simp only [names_eW, List.nil_append] at hc
      have rb := read_block_val (row := k + 1) (names := bs.map nm) true hw hN
      generalize bs.map nm = N at *
      subst h2
      cases e : readB ws N with
      | error r =>
        rw [e] at rb
        refine ⟨none, none, none, ?ss1, ?hh1⟩
        case hh1 => simp [bodyR, kv, lit_block, lit_queue, i0, qb, hc, lb, rb, ow, oN', ob]; exact rfl
      | ok b =>
        rw [e] at rb
        refine ⟨some (.int (k + 1)), some (.tup (eW ws)), some (.lst true (eW N)), ?_⟩
        simp [bodyR, kv, lit_block, lit_queue, i0, qb, hc, lb, lb2, rb, ow, oN', ob]
    · rw [if_neg h2]
      by_cases h3 : w0 = c_queue
      · rw [if_pos h3]
        subst h3
        have nb : ¬ c_queue = c_block := by decide
        have rq := read_queue_val (row := k + 1) (many := qs.length) hw (by omega) gn
        cases e : readQ ws bs qs.length with
        | error r =>
          rw [e] at rq
          refine ⟨none, none, none, ?ss2, ?hh2⟩
          case hh2 => simp [bodyR, kv, lit_block, lit_queue, i0, qb, qq, nb, lb, rq, ow, ob, oq]; exact rfl
        | ok q =>
          rw [e] at rq
          refine ⟨some (.int (k + 1)), some (.tup (eW ws)), a8, ?_⟩
          simp [bodyR, kv, lit_block, lit_queue, i0, qb, qq, nb, lb, lq2, rq, ow, ob, oq]
      · rw [if_neg h3]
        by_cases z : w0 = c_block
        · have z2 : ¬ (qs.length = 0) := fun e => h2 ⟨z, e⟩
          have z3 : ¬ qs = [] := fun e => z2 (by rw [e]; rfl)
          subst z
          have nb : ¬ c_block = c_queue := by decide
          refine ⟨none, none, none, ?ss3, ?hh3⟩
          case hh3 => simp [bodyR, kv, lit_block, lit_queue, i0, qb, qq, nb, z2, z3, ow, oq, xLine]; exact rfl
        · refine ⟨none, none, none, ?ss4, ?hh4⟩
          case hh4 => simp [bodyR, kv, lit_block, lit_queue, i0, qb, qq, h3, z, ow, oq, xLine]; exact rfl

/-! ### all lines -/
def runG : Nat → List (List Nat) → List Blk × List Que → Except (Nat × Str) (List Blk × List Que)
  | _, [], st => .ok st
  | k, l :: r, st => match stepG st l with
    | .ok st' => runG (k + 1) r st'
    | .error e => .error (k + 1, e)
theorem loopR (a0 : Option PV) : ∀ (ls : List (List Nat)) (k : Nat) (st : List Blk × List Que) (a4 a5 a6 a7 a8 : Option PV), GSt st → (∀ l ∈ ls, l.length ≤ 100000 ∧ Lo l) →
    (match runG k ls st with
      | .ok st' => GSt st' ∧ ∃ b4 b5 b6 b7 b8, forL (tN [4, 5]) bodyR (enumP k (eW ls)) (encS a0 st a4 a5 a6 a7 a8) = .nx (encS a0 st' b4 b5 b6 b7 b8)
      | .error e => ∃ s, forL (tN [4, 5]) bodyR (enumP k (eW ls)) (encS a0 st a4 a5 a6 a7 a8) = .exc (xLine (e.1 : Nat) e.2) (a0 :: s))
  | [], k, st, a4, a5, a6, a7, a8, g, _ => ⟨g, a4, a5, a6, a7, a8, rfl⟩
  | l :: r, k, st, a4, a5, a6, a7, a8, g, h => by
    obtain ⟨h1, h2⟩ := h l List.mem_cons_self
    obtain ⟨b6, b7, b8, e⟩ := bodyR_val a0 a6 a7 a8 g (k : Nat) h1 h2
    have hs : tN [4, 5] (.tup [.int (k : Nat), .str (Sg l)]) (encS a0 st a4 a5 a6 a7 a8) = some (encS a0 st (some (.int (k : Nat))) (some (.str (Sg l))) a6 a7 a8) := by simp [encS]
    have hu : enumP k (eW (l :: r)) = .tup [.int (k : Nat), .str (Sg l)] :: enumP (k + 1) (eW r) := rfl
    rw [hu]
    simp only [runG]
    cases e1 : stepG st l with
    | error x =>
      rw [e1] at e
      obtain ⟨s, e⟩ := e
      refine ⟨s, ?_⟩
      simp only [forL, hs, e]
      rfl
    | ok st' =>
      rw [e1] at e
      dsimp only at e ⊢
      have ih := loopR a0 r (k + 1) st' (some (.int (k : Nat))) (some (.str (Sg l))) b6 b7 b8 (stepG_ok g h1 h2 e1) (fun z hz => h z (List.mem_cons_of_mem _ hz))
      simp only [forL, hs, e]
      exact ih
theorem read_graph_val {t : List Nat} (hl : t.length < 100000) (ht : Lo t) :
    C_read_graph [.str (Sg (t ++ [10]))] = (match runG 0 (spl1 10 [] t) ([], []) with
      | .ok st => .ok (eG st.1 st.2) [.str (Sg (t ++ [10]))]
      | .error e => .exc (xLine (e.1 : Nat) e.2) [.str (Sg (t ++ [10]))]) := by
  have e1 := text_lines_good hl
  have hlines : ∀ l ∈ spl1 10 [] t, l.length ≤ 100000 ∧ Lo l := fun l hl2 => ⟨by have := spl1_size 10 t [] l hl2; simp at this; omega, spl1_lo 10 t [] ht (fun x hx => by simp at hx) l hl2⟩
  generalize t ++ [10] = T at *
  have lp := loopR (some (.str (Sg T))) (spl1 10 [] t) 0 ([], []) none none none none none ⟨by simp, by simp, by simp⟩ hlines
  have ow := eW_owns (spl1 10 [] t)
  generalize spl1 10 [] t = ls at *
  cases e : runG 0 ls ([], []) with
  | ok st =>
    rw [e] at lp
    obtain ⟨g, b4, b5, b6, b7, b8, lp⟩ := lp
    have l1 : st.1.length ≤ LIM := lim_le (by have := g.b; omega)
    have l2 : st.2.length ≤ LIM := lim_le (by have := g.q; omega)
    unfold bodyR encS at lp
    simp only [List.map_nil] at lp
    simp [C_read_graph, runB, m_read_graph, e1, itEnum, ow, lp, eG]
  | error x =>
    rw [e] at lp
    obtain ⟨s, lp⟩ := lp
    unfold bodyR encS at lp
    simp only [List.map_nil] at lp
    simp [C_read_graph, runB, m_read_graph, e1, itEnum, ow, lp]
/-! ### a text that is read back -/
theorem isDig_num (i : Int) : (numC i).all isDig = true := by
  rw [List.all_eq_true]
  intro x hx
  unfold isDig
  by_cases h : x < 48 ∨ 57 < x
  · exact absurd hx (TL.numL_free h)
  · simp; omega
theorem numL_head : ∀ (n : Nat), 1 ≤ n → (TL.numL n)[0]? ≠ some 48 := by
  intro n
  induction n using Nat.strongRecOn with
  | _ n ih =>
    intro h
    by_cases h10 : n < 10
    · rw [TL.numL_lt h10]; simp; omega
    · rw [TL.numL_step (by omega)]
      have hne : (TL.numL (n / 10)) ≠ [] := TL.numL_ne _
      have hp : 0 < (TL.numL (n / 10)).length := List.length_pos_iff.mpr hne
      rw [List.getElem?_append_left hp]
      exact ih (n / 10) (by omega) (by omega)
theorem isNum_num {i : Int} (h0 : 0 ≤ i) (h1 : i ≤ 9972) : isNum (numC i) = true := by
  have hl := numC_len h0 h1
  have hne : numC i ≠ [] := TL.numL_ne _
  have hp : 1 ≤ (numC i).length := List.length_pos_iff.mpr hne
  unfold isNum
  rw [isDig_num i]
  by_cases hz : i = 0
  · subst hz; decide +kernel
  · have hh : (numC i)[0]? ≠ some 48 := numL_head i.toNat (by omega)
    simp [hp, hl, hh]
theorem valN_num {i : Int} (h0 : 0 ≤ i) : (valN (numC i) : Int) = i := by
  unfold valN numC
  rw [TL.numL_val]
  omega
theorem vI_words {l : List Int} {hi : Int} (h : NumsP hi l) : vI (wordsC l) = l := by
  unfold vI wordsC
  rw [List.map_map]
  have : ∀ x ∈ l, ((fun w => (valN w : Int)) ∘ numC) x = x := fun x hx => valN_num (h x hx).1
  rw [List.map_congr_left this, List.map_id']
theorem all_words {l : List Int} {hi : Int} (h : NumsP hi l) (hh : hi ≤ 9972) : (wordsC l).all isNum = true := by
  rw [List.all_eq_true]
  intro w hw
  obtain ⟨i, hi2, rfl⟩ := List.mem_map.mp hw
  exact isNum_num (h i hi2).1 (by have := (h i hi2).2; omega)
/-- the first place of a word that is no number, behind numbers -/
theorem place_behind_nums {A B : List (List Nat)} {w : List Nat} {least : Nat} (hA : ∀ z ∈ A.drop least, z ≠ w) (hl : least ≤ A.length) : placeB (A ++ w :: B) w least = some A.length := by
  unfold placeB
  have e : (A ++ w :: B).length - least = (A.length - least) + (1 + B.length) := by simp; omega
  rw [e, ← List.range'_append_1, List.find?_append]
  have h1 : (List.range' least (A.length - least)).find? (fun p => decide ((A ++ w :: B)[p]? = some w)) = none := by
    rw [List.find?_eq_none]
    intro p hp
    rw [List.mem_range'_1] at hp
    have hp2 : p < A.length := by omega
    rw [List.getElem?_append_left hp2]
    simp only [decide_eq_true_eq]
    intro he
    refine hA w ?_ rfl
    have : (A.drop least)[p - least]? = some w := by rw [List.getElem?_drop, show least + (p - least) = p by omega, he]
    exact List.mem_of_getElem? this
  rw [h1, Option.none_or, show least + (A.length - least) = A.length by omega, show 1 + B.length = B.length + 1 by omega, List.range'_succ, List.find?_cons_of_pos]
  simp
theorem num_ne {i : Int} {w : List Nat} (hw : ∃ x ∈ w, x < 48 ∨ 57 < x) : numC i ≠ w := fun e => by
  obtain ⟨x, hx, h⟩ := hw
  rw [← e] at hx
  exact TL.numL_free h hx
theorem words_ne {l : List Int} {w : List Nat} (hw : ∃ x ∈ w, x < 48 ∨ 57 < x) : ∀ z ∈ wordsC l, z ≠ w := fun z hz => by
  obtain ⟨i, _, rfl⟩ := List.mem_map.mp hz
  exact num_ne hw
theorem readB_good {b : Blk} {names : List (List Nat)} (h : BlkOK b) (hn : nm b ∉ names) (hl : names.length < 60) : readB (BW (nm b) b) names = .ok b := by
  obtain ⟨h1, h2, h3, h4, h5, h6⟩ := h
  have e : BW (nm b) b = ([c_block, nm b, c_times] ++ wordsC b.times) ++ c_deed :: wordsC b.deed := by simp [BW]
  have lt : (wordsC b.times).length = b.times.length := by simp [wordsC]
  have pl : placeB (BW (nm b) b) c_deed 3 = some (3 + b.times.length) := by
    rw [e, place_behind_nums (by
      intro z hz
      have : z ∈ wordsC b.times := by simpa using hz
      exact words_ne ⟨101, by decide, by omega⟩ z this) (by simp)]
    simp [lt]; omega
  have t2 : (BW (nm b) b)[2]? = some c_times := by rw [e]; rfl
  have g1 : (BW (nm b) b).getD 1 [] = nm b := by rw [e]; rfl
  have dT : ((BW (nm b) b).drop 3).take (3 + b.times.length - 3) = wordsC b.times := by
    rw [e, List.append_assoc, List.drop_append_of_le_length (by simp)]
    simp [show 3 + b.times.length - 3 = (wordsC b.times).length by omega]
  have dU : (BW (nm b) b).drop (3 + b.times.length + 1) = wordsC b.deed := by
    rw [e]
    have : ([c_block, nm b, c_times] ++ wordsC b.times).length = 3 + b.times.length := by simp [lt]; omega
    rw [← this, List.drop_append, List.drop_of_length_le (by omega)]
    simp
  have ll : ¬ (BW (nm b) b).length < 3 := by rw [e]; simp
  unfold readB
  rw [if_neg (by rw [t2]; simp; omega), pl]
  dsimp only
  rw [dT, dU, g1, all_words h4 (by omega), all_words h6 (by omega), if_neg (by simp), if_neg (by
    have : nameB (nm b) = true := h1.val.1
    simp [this, hn]), vI_words h4, vI_words h6, if_neg (by simp [timesV, deedV, numsV_ints h4, numsV_ints h6, h2, h3, h5]), if_neg (by omega), ← nm_name]

theorem bLine_len2 {b : Blk} (h : BlkOK b) : (bLine b).length ≤ 100 := by
  have hn := nm_len h
  obtain ⟨h1, h2, h3, h4, h5, h6⟩ := h
  have s1 := words_size (nums_up h4 (by omega))
  have s2 := words_size h6
  have l1 : (wordsC b.times).length = b.times.length := by simp [wordsC]
  have l2 : (wordsC b.deed).length = b.deed.length := by simp [wordsC]
  have j := joinL_len [32] (BW (nm b) b)
  unfold bLine
  simp only [BW, sizeW_app, List.length_append, List.length_cons, List.length_nil] at j
  have a1 : sizeW [c_block, nm b, c_times] = 10 + (nm b).length := by simp [sizeW, c_block, c_times]; omega
  have a2 : sizeW [c_deed] = 4 := rfl
  simp only [BW]
  omega
theorem qLine_len2 {bs : List Blk} {q : Que} (h : QW0 q) (hs : (nmAt bs q.s).length ≤ 16) (ht : (nmAt bs q.t).length ≤ 16) : (qLine bs q).length ≤ 450 := by
  have s1 := words_size h.g
  have s2 := words_size h.k
  have s3 := words_size h.s
  have := h.gl
  have := h.kl
  have := h.sl
  have l1 : (wordsC q.gives).length = q.gives.length := by simp [wordsC]
  have l2 : (wordsC q.takes).length = q.takes.length := by simp [wordsC]
  have l3 : (wordsC q.start).length = q.start.length := by simp [wordsC]
  have j := joinL_len [32] (c_queue :: QW (nmAt bs q.s) (nmAt bs q.t) q)
  have e : c_queue :: QW (nmAt bs q.s) (nmAt bs q.t) q = [c_queue, nmAt bs q.s, c_gives] ++ wordsC q.gives ++ [c_target, nmAt bs q.t, c_takes] ++ wordsC q.takes ++ [c_start] ++ wordsC q.start := by simp [QW]
  unfold qLine
  rw [e] at j ⊢
  simp only [sizeW_app, List.length_append, List.length_cons, List.length_nil] at j
  have a1 : sizeW [c_queue, nmAt bs q.s, c_gives] = 10 + (nmAt bs q.s).length := by simp [sizeW, c_queue, c_gives]; omega
  have a2 : sizeW [c_start] = 5 := rfl
  have a3 : sizeW [c_target, nmAt bs q.t, c_takes] = 11 + (nmAt bs q.t).length := by simp [sizeW, c_target, c_takes]; omega
  omega
/-! ### the graph's text is read back -/
theorem joinL_flat : ∀ ws : List (List Nat), TL.joinL [] ws = ws.flatten
  | [] => rfl
  | [p] => by simp [TL.joinL]
  | p :: q :: r => by
    have := joinL_flat (q :: r)
    simp only [TL.joinL, List.nil_append, this, List.flatten_cons]
theorem join_nl : ∀ {ls : List (List Nat)}, ls ≠ [] → TL.joinL [] (ls.map (· ++ [10])) = TL.joinL [10] ls ++ [10]
  | [], h => absurd rfl h
  | [p], _ => by simp [TL.joinL]
  | p :: q :: r, _ => by
    have := join_nl (ls := q :: r) (by simp)
    rw [joinL_flat] at this ⊢
    rw [List.map_cons, List.flatten_cons, this]
    simp [TL.joinL]
theorem spl1_join {c : Nat} {ws : List (List Nat)} (hne : ws ≠ []) (h : ∀ w ∈ ws, c ∉ w) : spl1 c [] (TL.joinL [c] ws) = ws := by
  rw [← spl_eq]
  exact TL.spl_join hne h
theorem not_join {c : Nat} {S : List Nat} (hS : c ∉ S) : ∀ {ws : List (List Nat)}, (∀ w ∈ ws, c ∉ w) → c ∉ TL.joinL S ws
  | [], _ => by simp [TL.joinL]
  | [p], h => h p List.mem_cons_self
  | p :: q :: r, h => by
    have ih := not_join hS (ws := q :: r) fun w hw => h w (List.mem_cons_of_mem _ hw)
    have hp := h p List.mem_cons_self
    simp only [TL.joinL, List.mem_append, not_or]
    exact ⟨hp, hS, ih⟩
/-- a word as it may stand in a line -/
def Clean (w : List Nat) : Prop := 0 < w.length ∧ 10 ∉ w ∧ 32 ∉ w
theorem clean_num (i : Int) : Clean (numC i) := ⟨List.length_pos_iff.mpr (TL.numL_ne _), TL.numL_free (by omega), TL.numL_free (by omega)⟩
theorem clean_words (l : List Int) : ∀ w ∈ wordsC l, Clean w := fun w hw => by
  obtain ⟨i, _, rfl⟩ := List.mem_map.mp hw
  exact clean_num i
theorem clean_nm {b : Blk} (h : BlkOK b) : Clean (nm b) := by
  have hv := h.1.val.1
  have h10 : 10 ∉ SIGC := by decide
  have h32 : 32 ∉ SIGC := by decide
  unfold Clean
  show 0 < (nm b).length ∧ _
  have hv : nameB (nm b) = true := hv
  cases e : nm b with
  | nil => rw [e] at hv; simp [nameB] at hv
  | cons a r =>
    rw [e] at hv
    simp only [nameB, Bool.and_eq_true, List.all_eq_true, decide_eq_true_eq] at hv
    exact ⟨by simp, fun m => h10 (hv.2 _ m), fun m => h32 (hv.2 _ m)⟩
theorem clean_key {w : List Nat} (h : w = c_block ∨ w = c_times ∨ w = c_deed ∨ w = c_queue ∨ w = c_gives ∨ w = c_target ∨ w = c_takes ∨ w = c_start) : Clean w := by
  rcases h with rfl | rfl | rfl | rfl | rfl | rfl | rfl | rfl <;> exact ⟨by decide, by decide, by decide⟩
theorem clean_BW {b : Blk} (h : BlkOK b) : ∀ w ∈ BW (nm b) b, Clean w := fun w hw => by
  simp only [BW, List.mem_append, List.mem_cons, List.not_mem_nil, or_false] at hw
  rcases hw with ((((rfl | rfl | rfl) | hw) | rfl) | hw)
  all_goals first | exact clean_nm h | exact clean_words _ _ hw | exact clean_key (by simp)
theorem clean_QW {bs : List Blk} {q : Que} (hb : ∀ b ∈ bs, BlkOK b) (hq : QueOK bs q) : ∀ w ∈ qWords bs q, Clean w := fun w hw => by
  obtain ⟨b1, b2, e1, e2, _⟩ := hq
  have k1 : Clean (nmAt bs q.s) := by unfold nmAt; rw [e1]; exact clean_nm (hb b1 (List.mem_of_getElem? e1))
  have k2 : Clean (nmAt bs q.t) := by unfold nmAt; rw [e2]; exact clean_nm (hb b2 (List.mem_of_getElem? e2))
  simp only [qWords, QW, List.mem_append, List.mem_cons, List.not_mem_nil, or_false] at hw
  rcases hw with rfl | ((((((rfl | rfl) | hw) | (rfl | rfl | rfl)) | hw) | rfl) | hw)
  all_goals first | exact k1 | exact k2 | exact clean_words _ _ hw | exact clean_key (by simp)
theorem line_words {ws : List (List Nat)} (hne : ws ≠ []) (h : ∀ w ∈ ws, Clean w) : spl1 32 [] (TL.joinL [32] ws) = ws ∧ kvB ws = true ∧ 10 ∉ TL.joinL [32] ws :=
  ⟨spl1_join hne fun w hw => (h w hw).2.2, List.all_eq_true.mpr fun w hw => by simpa using (h w hw).1, not_join (by decide) fun w hw => (h w hw).2.1⟩
theorem gText_bound {bs : List Blk} {qs : List Que} (h : GrOK bs qs) : (gText bs qs).length ≤ 100000 := by
  have hb : ∀ {l : List (List Nat)} {m : Nat}, (∀ x ∈ l, x.length ≤ m) → ((l.map (· ++ [10])).flatten).length ≤ (m + 1) * l.length := by
    intro l m hl
    induction l with
    | nil => simp
    | cons x r ih =>
      have := ih fun z hz => hl z (List.mem_cons_of_mem _ hz)
      have := hl x List.mem_cons_self
      simp only [List.map_cons, List.flatten_cons, List.length_append, List.length_cons, List.length_nil, Nat.mul_add, Nat.mul_one] at *
      omega
  have h1 := hb (l := bs.map bLine) (m := 100) fun x hx => by
    obtain ⟨b, hb2, rfl⟩ := List.mem_map.mp hx
    exact bLine_len2 (h.bo b hb2)
  have h2 := hb (l := qs.map (qLine bs)) (m := 450) fun x hx => by
    obtain ⟨q, hq, rfl⟩ := List.mem_map.mp hx
    exact qLine_len2 ((h.qo q hq).w h.bo) (nmAt_len h.bo _) (nmAt_len h.bo _)
  have := h.b2
  have := h.q2
  unfold gText gLines
  rw [joinL_flat, List.map_append, List.flatten_append, List.length_append]
  simp only [List.length_map] at h1 h2
  omega
theorem placeN_nodup {N : List (List Nat)} {i : Nat} {a : List Nat} (hn : N.Nodup) (e : N[i]? = some a) : placeN N a = some i := by
  obtain ⟨j, h1, h2, h3⟩ := placeN_some (List.mem_of_getElem? e)
  rw [h1]
  obtain ⟨hi, ei⟩ := List.getElem?_eq_some_iff.mp e
  obtain ⟨hj, ej⟩ := List.getElem?_eq_some_iff.mp h3
  have hji : j = i := (List.getElem_inj hn).mp (by rw [ei, ej])
  rw [hji]
theorem nms_nodup {bs : List Blk} (h : (bs.map (·.name)).Nodup) : (bs.map nm).Nodup := by
  have e : bs.map nm = (bs.map (·.name)).map fun y => y.cps.toList := by rw [List.map_map]; rfl
  rw [e]
  exact nodup_map (fun a b e => by rw [← _root_.SX.S_tl a, ← _root_.SX.S_tl b, e]) h
theorem partsQ_good {sn tn : List Nat} {q : Que} (h : QW0 q) : partsQ (QW sn tn q) = .ok ⟨sn, q.gives, tn, q.takes, q.start⟩ := by
  have e1 : QW sn tn q = ([sn, c_gives] ++ wordsC q.gives) ++ c_target :: ([tn, c_takes] ++ wordsC q.takes ++ [c_start] ++ wordsC q.start) := by simp [QW]
  have e2 : QW sn tn q = ([sn, c_gives] ++ wordsC q.gives ++ [c_target, tn, c_takes] ++ wordsC q.takes) ++ c_start :: wordsC q.start := by simp [QW]
  have lg : (wordsC q.gives).length = q.gives.length := by simp [wordsC]
  have lk : (wordsC q.takes).length = q.takes.length := by simp [wordsC]
  have p1 : placeB (QW sn tn q) c_target 2 = some (2 + q.gives.length) := by
    rw [e1, place_behind_nums (by
      intro z hz
      have : z ∈ wordsC q.gives := by simpa using hz
      exact words_ne ⟨116, by decide, by omega⟩ z this) (by simp)]
    simp [lg]; omega
  have p2 : placeB (QW sn tn q) c_start (2 + q.gives.length + 3) = some (2 + q.gives.length + 3 + q.takes.length) := by
    rw [e2, place_behind_nums (by
      intro z hz
      have hd : ([sn, c_gives] ++ wordsC q.gives ++ [c_target, tn, c_takes] ++ wordsC q.takes).drop (2 + q.gives.length + 3) = wordsC q.takes := by
        have : ([sn, c_gives] ++ wordsC q.gives ++ [c_target, tn, c_takes]).length = 2 + q.gives.length + 3 := by simp [lg]; omega
        rw [← this, List.drop_append, List.drop_of_length_le (by omega)]
        simp
      rw [hd] at hz
      exact words_ne ⟨116, by decide, by omega⟩ z hz) (by simp [lg]; omega)]
    simp [lg, lk]; omega
  have t1 : (QW sn tn q)[1]? = some c_gives := by rw [e1]; rfl
  have g0 : (QW sn tn q).getD 0 [] = sn := by rw [e1]; rfl
  have e3 : QW sn tn q = ([sn, c_gives] ++ wordsC q.gives) ++ ([c_target, tn, c_takes] ++ wordsC q.takes ++ [c_start] ++ wordsC q.start) := by simp [QW]
  have l3 : ([sn, c_gives] ++ wordsC q.gives).length = 2 + q.gives.length := by simp [lg]; omega
  have t2 : (QW sn tn q)[2 + q.gives.length + 2]? = some c_takes := by
    rw [e3, List.getElem?_append_right (by omega), l3, show 2 + q.gives.length + 2 - (2 + q.gives.length) = 2 by omega]; rfl
  have g1 : (QW sn tn q).getD (2 + q.gives.length + 1) [] = tn := by
    rw [List.getD_eq_getElem?_getD, e3, List.getElem?_append_right (by omega), l3, show 2 + q.gives.length + 1 - (2 + q.gives.length) = 1 by omega]; rfl
  have dG : ((QW sn tn q).drop 2).take (2 + q.gives.length - 2) = wordsC q.gives := by
    rw [e3, List.append_assoc, List.append_assoc, List.append_assoc]
    have : 2 + q.gives.length - 2 = (wordsC q.gives).length := by omega
    rw [this]
    simp
  have dT : ((QW sn tn q).drop (2 + q.gives.length + 3)).take (2 + q.gives.length + 3 + q.takes.length - (2 + q.gives.length + 3)) = wordsC q.takes := by
    have e4 : QW sn tn q = ([sn, c_gives] ++ wordsC q.gives ++ [c_target, tn, c_takes]) ++ (wordsC q.takes ++ ([c_start] ++ wordsC q.start)) := by simp [QW]
    have : ([sn, c_gives] ++ wordsC q.gives ++ [c_target, tn, c_takes]).length = 2 + q.gives.length + 3 := by simp [lg]; omega
    rw [e4, ← this, List.drop_append, List.drop_of_length_le (by omega), Nat.sub_self, List.drop_zero, List.nil_append]
    rw [show ([sn, c_gives] ++ wordsC q.gives ++ [c_target, tn, c_takes]).length + q.takes.length - ([sn, c_gives] ++ wordsC q.gives ++ [c_target, tn, c_takes]).length = (wordsC q.takes).length by omega]
    simp
  have dS : (QW sn tn q).drop (2 + q.gives.length + 3 + q.takes.length + 1) = wordsC q.start := by
    have e4 : QW sn tn q = ([sn, c_gives] ++ wordsC q.gives ++ [c_target, tn, c_takes] ++ wordsC q.takes ++ [c_start]) ++ wordsC q.start := by simp [QW]
    have : ([sn, c_gives] ++ wordsC q.gives ++ [c_target, tn, c_takes] ++ wordsC q.takes ++ [c_start]).length = 2 + q.gives.length + 3 + q.takes.length + 1 := by simp [lg, lk]; omega
    rw [e4, ← this, List.drop_append, List.drop_of_length_le (by omega)]
    simp
  have ll : 2 + q.gives.length + 3 + q.takes.length + 1 ≤ (QW sn tn q).length := by rw [e2]; simp [lg, lk]; omega
  unfold partsQ
  rw [if_neg (by rw [t1]; simp; omega), p1]
  dsimp only
  rw [if_neg (by rw [t2]; simp; omega), p2]
  dsimp only
  rw [dG, dT, dS, g0, g1, all_words h.g (by omega), all_words h.k (by omega), all_words h.s (by omega), if_neg (by simp), vI_words h.g, vI_words h.k, vI_words h.s]
theorem readQ_good {bs : List Blk} {q : Que} {many : Nat} (hb : ∀ b ∈ bs, BlkOK b) (hn : (bs.map (·.name)).Nodup) (hq : QueOK bs q) (hm : many < 160) : readQ (qWords bs q) bs many = .ok q := by
  have w := hq.w hb
  have v := toQ_val hq
  have hN := nms_nodup hn
  obtain ⟨b1, b2, e1, e2, _⟩ := hq
  have a1 : nmAt bs q.s = nm b1 := by unfold nmAt; rw [e1]
  have a2 : nmAt bs q.t = nm b2 := by unfold nmAt; rw [e2]
  have n1 := placeN_nodup hN (i := q.s) (a := nm b1) (by rw [List.getElem?_map, e1]; rfl)
  have n2 := placeN_nodup hN (i := q.t) (a := nm b2) (by rw [List.getElem?_map, e2]; rfl)
  have hd : (qWords bs q).drop 1 = QW (nm b1) (nm b2) q := by unfold qWords; rw [a1, a2]; rfl
  unfold readQ
  rw [if_neg (by unfold qWords; simp [QW]), hd, partsQ_good w]
  dsimp only
  rw [n1]
  dsimp only
  rw [n2]
  dsimp only
  rw [if_neg (by have : qkV bs ⟨.int (q.s : Nat), eI q.gives, .int (q.t : Nat), eI q.takes, eI q.start⟩ = true := v; rw [this]; simp), if_neg (by omega)]
theorem runG_app : ∀ (a : List (List Nat)) (k : Nat) (b : List (List Nat)) (st : List Blk × List Que), runG k (a ++ b) st = (match runG k a st with | .ok st' => runG (k + a.length) b st' | .error e => .error e)
  | [], k, b, st => by simp [runG]
  | l :: r, k, b, st => by
    simp only [List.cons_append, runG]
    cases stepG st l with
    | error e => rfl
    | ok st' => dsimp only; rw [runG_app r (k + 1) b st', List.length_cons, show k + 1 + r.length = k + (r.length + 1) by omega]
theorem run_blocks {bs : List Blk} (hb : ∀ b ∈ bs, BlkOK b) (hn : (bs.map (·.name)).Nodup) (hl : bs.length ≤ 60) : ∀ (r done : List Blk) (k : Nat), done ++ r = bs → runG k (r.map bLine) (done, []) = .ok (bs, [])
  | [], done, k, e => by simp at e; simp [runG, e]
  | b :: r, done, k, e => by
    have hbm : BlkOK b := hb b (by rw [← e]; simp)
    obtain ⟨s1, s2, _⟩ := line_words (ws := BW (nm b) b) (by simp [BW]) (clean_BW hbm)
    have hN := nms_nodup hn
    rw [← e, List.map_append, List.nodup_append] at hN
    have hnot : nm b ∉ done.map nm := fun hm => hN.2.2 (nm b) hm (nm b) (by simp) rfl
    have hlen : (done.map nm).length < 60 := by rw [← e] at hl; simp at hl ⊢; omega
    have rb := readB_good hbm hnot hlen
    have g0 : (BW (nm b) b).getD 0 [] = c_block := rfl
    have st : stepG (done, []) (bLine b) = .ok (done ++ [b], []) := by
      unfold stepG bLine
      rw [s1, s2, if_neg (by simp), if_pos ⟨g0, rfl⟩]
      dsimp only
      rw [rb]
    simp only [List.map_cons, runG, st]
    exact run_blocks hb hn hl r (done ++ [b]) (k + 1) (by rw [← e]; simp)
theorem run_queues {bs : List Blk} {qs : List Que} (hb : ∀ b ∈ bs, BlkOK b) (hn : (bs.map (·.name)).Nodup) (hq : ∀ q ∈ qs, QueOK bs q) (hl : qs.length ≤ 160) : ∀ (r done : List Que) (k : Nat), done ++ r = qs → runG k (r.map (qLine bs)) (bs, done) = .ok (bs, qs)
  | [], done, k, e => by simp at e; simp [runG, e]
  | q :: r, done, k, e => by
    have hqm : QueOK bs q := hq q (by rw [← e]; simp)
    obtain ⟨s1, s2, _⟩ := line_words (ws := qWords bs q) (by simp [qWords]) (clean_QW hb hqm)
    have rq := readQ_good (many := done.length) hb hn hqm (by rw [← e] at hl; simp at hl; omega)
    have g0 : (qWords bs q).getD 0 [] = c_queue := rfl
    have hl2 : qLine bs q = TL.joinL [32] (qWords bs q) := rfl
    have st : stepG (bs, done) (qLine bs q) = .ok (bs, done ++ [q]) := by
      unfold stepG
      rw [hl2, s1, s2, if_neg (by simp), if_neg (by rw [g0]; intro z; exact absurd z.1 (by decide)), if_pos g0]
      dsimp only
      rw [rq]
    simp only [List.map_cons, runG, st]
    exact run_queues hb hn hq hl r (done ++ [q]) (k + 1) (by rw [← e]; simp)
theorem lo_gText {bs : List Blk} {qs : List Que} (h : GrOK bs qs) : Lo (gText bs qs) := by
  refine lo_join (by intro x hx; simp at hx) fun w hw => ?_
  obtain ⟨l, hl, rfl⟩ := List.mem_map.mp hw
  rw [← gWords_join] at hl
  obtain ⟨ws, hws, rfl⟩ := List.mem_map.mp hl
  exact (lo_join (by intro x hx; simp at hx; omega) (lo_gw h ws hws)).app (by intro x hx; simp at hx; omega)
theorem read_good {bs : List Blk} {qs : List Que} (h : GrOK bs qs) : C_read_graph [.str (Sg (gText bs qs))] = .ok (eG bs qs) [.str (Sg (gText bs qs))] := by
  have hne : gLines bs qs ≠ [] := by
    have h1 := h.b1
    intro e
    simp [gLines] at e
    rw [e.1] at h1
    simp at h1
  have e : gText bs qs = TL.joinL [10] (gLines bs qs) ++ [10] := join_nl hne
  have hlen := gText_bound h
  have hlo := lo_gText h
  have hsp : spl1 10 [] (TL.joinL [10] (gLines bs qs)) = gLines bs qs := spl1_join hne fun l hl => by
    rcases List.mem_append.mp hl with z | z
    · obtain ⟨b, hb, rfl⟩ := List.mem_map.mp z
      exact (line_words (by simp [BW]) (clean_BW (h.bo b hb))).2.2
    · obtain ⟨q, hq, rfl⟩ := List.mem_map.mp z
      exact (line_words (ws := qWords bs q) (by simp [qWords]) (clean_QW h.bo (h.qo q hq))).2.2
  have hrun : runG 0 (gLines bs qs) ([], []) = .ok (bs, qs) := by
    unfold gLines
    rw [runG_app, run_blocks h.bo h.nd h.b2 bs [] 0 (by simp)]
    dsimp only
    exact run_queues h.bo h.nd h.qo h.q2 qs [] _ (by simp)
  rw [e] at hlen hlo ⊢
  have rv := read_graph_val (t := TL.joinL [10] (gLines bs qs)) (by simp at hlen; omega) (fun x hx => hlo x (List.mem_append_left _ hx))
  rw [hsp, hrun] at rv
  exact rv

/-! ### alike -/
theorem is_int_val (i : Int) : C_L_is_int [.int i] = .ok (.bl true) [.int i] := by
  simp [C_L_is_int, runB, m_L_is_int]
@[simp] theorem isi_ti (i : Int) : pIsi "tuple" [.int i] = some (.bl false) := rfl
@[simp] theorem isi_ts (i : Str) : pIsi "tuple" [.str i] = some (.bl false) := rfl
@[simp] theorem isi_si (i : Int) : pIsi "str" [.int i] = some (.bl false) := rfl
@[simp] theorem isi_st (xs : List PV) : pIsi "str" [.tup xs] = some (.bl false) := rfl
theorem alike_int (n : Nat) (i : Int) : C_L_alike (n + 1) [.int i, .int i] = .ok (.bl true) [.int i, .int i] := by
  have e := is_int_val i
  simp [C_L_alike, runB, m_L_alike, e]
theorem alike_str (n : Nat) {y : Str} (h : PyData.strOk y = true) : C_L_alike (n + 1) [.str y, .str y] = .ok (.bl true) [.str y, .str y] := by
  have e := Bv.eq_str false h h
  simp at e
  simp [C_L_alike, runB, m_L_alike, e]
theorem alike_tup (n : Nat) {xs : List PV} (ho : PV.owns xs = false) (hl : xs.length ≤ 1000) (h : ∀ x ∈ xs, C_L_alike n [x, x] = .ok (.bl true) [x, x]) :
    C_L_alike (n + 1) [.tup xs, .tup xs] = .ok (.bl true) [.tup xs, .tup xs] := by
  have hc : compL (t1 2) mYes (mFz (mCallN 2 (C_L_alike n) (oCons (oE (mOp pIx (oCons (oN 0) (oCons (oN 2) oNil)))) (oCons (oE (mOp pIx (oCons (oN 1) (oCons (oN 2) oNil)))) (oNil))))) [2] ((List.range xs.length).map fun (k : Nat) => PV.int (k : Int)) [some (.tup xs), some (.tup xs), none] [] = .ok ([] ++ (List.range xs.length).map fun _ => PV.bl true) [some (.tup xs), some (.tup xs), none] := by
    refine compE (fun k hk => ?_) []
    have hk : k < xs.length := List.mem_range.mp hk
    have hx : xs[k]? = some xs[k] := List.getElem?_eq_getElem hk
    have hi : atI xs (k : Int) = some xs[k] := atI_of (by omega) (by rw [Int.toNat_natCast]; exact hx)
    have hxo : (xs[k]).own = false := owns_mem ho (List.getElem_mem hk)
    have e := h _ (List.getElem_mem hk)
    refine ⟨_, [some (.tup xs), some (.tup xs), some (.int (k : Int))], rfl, ?_, by simp⟩
    simp [hi, hxo, e]
  rw [List.nil_append] at hc
  have ha := all_map true (List.range xs.length) fun _ => true
  have ht : ((List.range xs.length).all fun _ => true) = true := by simp
  rw [ht] at ha
  have it : itRng1 [.int xs.length] = some ((List.range xs.length).map fun (k : Nat) => PV.int (k : Int)) := it_nat (by omega) (by omega)
  have l1 : xs.length ≤ LIM := lim_le (by omega)
  generalize (List.range xs.length).map (fun _ => PV.bl true) = B at *
  simp [C_L_alike, runB, m_L_alike, ho, it, hc, ha, l1]
theorem alike_ints (n : Nat) {l : List Int} (hl : l.length ≤ 1000) : C_L_alike (n + 2) [.tup (l.map PV.int), .tup (l.map PV.int)] = .ok (.bl true) [.tup (l.map PV.int), .tup (l.map PV.int)] :=
  alike_tup (n + 1) (owns_ints l) (by simpa using hl) fun x hx => by
    obtain ⟨i, _, rfl⟩ := List.mem_map.mp hx
    exact alike_int n i
theorem alike_blk {b : Blk} (h : BlkOK b) : C_L_alike 6 [eB b, eB b] = .ok (.bl true) [eB b, eB b] := by
  obtain ⟨h1, h2, h3, h4, h5, h6⟩ := h
  refine alike_tup 5 (by simp) (by simp) fun x hx => ?_
  simp only [List.mem_cons, List.not_mem_nil, or_false] at hx
  rcases hx with rfl | rfl | rfl
  · exact alike_str 4 h1.strOk
  · exact alike_ints 3 (by omega)
  · exact alike_ints 3 (by omega)
theorem alike_que {bs : List Blk} {q : Que} (hb : ∀ b ∈ bs, BlkOK b) (h : QueOK bs q) : C_L_alike 6 [eQ q, eQ q] = .ok (.bl true) [eQ q, eQ q] := by
  have w := h.w hb
  have := w.gl
  have := w.kl
  have := w.sl
  refine alike_tup 5 (by simp) (by simp) fun x hx => ?_
  simp only [List.mem_cons, List.not_mem_nil, or_false] at hx
  rcases hx with rfl | rfl | rfl | rfl | rfl
  · exact alike_int 4 _
  · exact alike_ints 3 (by omega)
  · exact alike_int 4 _
  · exact alike_ints 3 (by omega)
  · exact alike_ints 3 (by omega)
theorem alike_graph {bs : List Blk} {qs : List Que} (h : GrOK bs qs) : C_L_alike 8 [eG bs qs, eG bs qs] = .ok (.bl true) [eG bs qs, eG bs qs] := by
  refine alike_tup 7 (by simp) (by simp) fun x hx => ?_
  simp only [List.mem_cons, List.not_mem_nil, or_false] at hx
  rcases hx with rfl | rfl
  · refine alike_tup 6 (eBs_own bs) (by rw [List.length_map]; have := h.b2; omega) fun x hx => ?_
    obtain ⟨b, hb, rfl⟩ := List.mem_map.mp hx
    exact alike_blk (h.bo b hb)
  · refine alike_tup 6 (eQs_own qs) (by rw [List.length_map]; have := h.q2; omega) fun x hx => ?_
    obtain ⟨q, hq, rfl⟩ := List.mem_map.mp hx
    exact alike_que h.bo (h.qo q hq)
theorem law_text_ok {bs : List Blk} {qs : List Que} (h : GrOK bs qs) : C_L_text [.lst true (eWW false (gWords bs qs))] = .ok (.str (Sg (gText bs qs))) [.lst true (eWW false (gWords bs qs))] := by
  have e3 := ltext_ok (ws := gWords bs qs) (by have := h.b2; have := h.q2; simp [gWords]; omega) (gw_size h) (by rw [gWords_join]; exact lines_len h)
  rw [gWords_join] at e3
  exact e3
theorem back_ok {bs : List Blk} {qs : List Que} (h : GrOK bs qs) : C_L_there_and_back [eG bs qs] = .ok (.bl true) [eG bs qs] := by
  have e1 := text_ok h
  have e2 := glines_ok h
  have e3 := law_text_ok h
  have e4 := read_good h
  have e5 := alike_graph h
  have e6 := Bv.eq_str true (gText_ok h) (gText_ok h)
  simp at e6
  have og : (eG bs qs).own = false := by simp [eG]
  simp [C_L_there_and_back, runB, m_L_there_and_back, e1, e2, e3, e4, e5, e6, og, eWW_owns]
/-! ### things that are no text -/
def badT : XV := ⟨"BadThing", [("part", .str "text")]⟩
theorem eq_text : pEq false [.str "text", .str "text"] = some (.bl true) := by
  rw [Bv.eq_str false (by decide +kernel) (by decide +kernel)]
  simp
theorem no_text {x : PV} (ho : x.own = false) (h : pIsi "str" [x] = some (.bl false)) : C_L_refused [x] = .ok (.bl true) [x] := by
  have e1 : C_text_lines [x] = .exc badT [x] := by
    simp [C_text_lines, runB, m_text_lines, ho, h, badT]
  have e : C_read_graph [x] = .exc badT [x] := by
    simp [C_read_graph, runB, m_read_graph, ho, e1]
  have k : catOf [("BadLine", false), ("BadThing", true)] badT = some true := by
    unfold catOf badT
    decide +kernel
  have l1 : badT.fs.lookup ("part" : Str) = some (.str "text") := by
    unfold badT
    simp [List.lookup]
  have l2 : ∀ f : XV → Sl → UO, byCls [("BadThing", f)] badT = f badT := fun f => by
    unfold byCls badT
    simp [List.lookup]
  simp [C_L_refused, runB, m_L_refused, ho, e, k, l2, uSeq, uIf, utOr, utNot, uT, uC, uNx, uRet, uAnd, u1, u2, l1, eq_text]
theorem gw_len {bs : List Blk} {qs : List Que} (h : GrOK bs qs) : (gWords bs qs).length ≤ 220 := by
  have := h.b2
  have := h.q2
  simp [gWords]
  omega
theorem atI_mem {α : Type} {l : List α} {i : Int} (h0 : 0 ≤ i) (h1 : i < l.length) : ∃ v, atI l i = some v ∧ v ∈ l := by
  have h : i.toNat < l.length := by omega
  exact ⟨_, atI_of h0 (List.getElem?_eq_getElem h), List.getElem_mem h⟩
theorem plain_law : ∀ (o : Bool) (ns : List Int), ns.length ≤ 63 → ∃ ys, C_law [.lst o (ns.map PV.int)] = .ok (.bl true) ys := by
  intro o ns hl
  obtain ⟨d, y, e1, hd⟩ := begin_ok o ns hl
  obtain ⟨bs, qs, d1, e2, hg, hd1⟩ := graph_ok hd
  obtain ⟨bs', qs', d2, e3, hg', hd2⟩ := near_ok hd1 hg
  have w1 := back_ok hg
  have w2 := back_ok hg'
  obtain ⟨v, d3, e4, v0, v1, hd3⟩ := draw_ok (many := 7) hd2 (by omega) (by omega)
  have z0 := hd.own
  have z1 := hd1.own
  have z2 := hd2.own
  have z3 := hd3.own
  have o1 : (eG bs qs).own = false := by simp [eG]
  have o2 : (eG bs' qs').own = false := by simp [eG]
  have g1 := glines_ok hg
  have t1 := law_text_ok hg
  have t2 := ltext_ok (ws := (gWords bs qs).take 1) (by simp; omega) (fun w hw => gw_size hg w (List.mem_of_mem_take hw)) (fun l hl2 => by
    rw [List.map_take, gWords_join] at hl2
    exact lines_len hg l (List.mem_of_mem_take hl2))
  have hw : (eWW false (gWords bs qs)).take 1 = eWW false ((gWords bs qs).take 1) := by simp [eWW]
  have s1 := slHiL true (eWW false (gWords bs qs)) 1 1 rfl (eWW_owns (gWords bs qs))
  rw [hw] at s1
  obtain ⟨x, hx, hm⟩ := atI_mem (l := [PV.non, PV.int 7, PV.bl false, PV.tup [], PV.tup [.str (Sg (gText bs qs))], PV.lst false [.str (Sg (TL.joinL [] ((((gWords bs qs).take 1).map (TL.joinL [32])).map (· ++ [10]))))], eG bs qs]) v0 (by simpa using v1)
  have hxx : x.own = false ∧ C_L_refused [x] = .ok (.bl true) [x] := by
    simp only [List.mem_cons, List.not_mem_nil, or_false] at hm
    rcases hm with rfl | rfl | rfl | rfl | rfl | rfl | rfl
    · exact ⟨rfl, no_text rfl rfl⟩
    · exact ⟨rfl, no_text rfl rfl⟩
    · exact ⟨rfl, no_text rfl rfl⟩
    · exact ⟨rfl, no_text rfl rfl⟩
    · exact ⟨rfl, no_text rfl rfl⟩
    · exact ⟨rfl, no_text rfl rfl⟩
    · exact ⟨o1, no_text o1 rfl⟩
  have ow := eWW_owns (gWords bs qs)
  have ow2 := eWW_owns ((gWords bs qs).take 1)
  generalize TL.joinL [] ((((gWords bs qs).take 1).map (TL.joinL [32])).map (· ++ [10])) = T1 at *
  generalize (gWords bs qs).take 1 = W1 at *
  have og : frzP (eG bs qs) = some (eG bs qs) := frz_id o1
  have l7 : 7 ≤ LIM := by decide
  cases o <;> simp [C_law, runB, m_law, z0, z1, z2, z3, o1, o2, e1, e2, e3, w1, w2, g1, t1, t2, s1, ow, ow2, e4, og, hx, hxx.1, hxx.2, l7]


theorem ini_BadLine : IniS ["self", "row", "reason"] ["self", "row", "reason"] "self" (defScope (inClass (tS 3) 0)) := ⟨rfl, rfl, rfl, by decide +kernel, rfl, by decide +kernel, by decide +kernel, by decide +kernel, rfl, rfl, rfl⟩
theorem ini_BadThing : IniS ["self", "part"] ["self", "part"] "self" (defScope (inClass (tS 2) 0)) := ⟨rfl, rfl, rfl, by decide +kernel, rfl, by decide +kernel, by decide +kernel, by decide +kernel, rfl, rfl, rfl⟩
theorem all_mk {w : World} {K : PySem.W.Frag} {h : Heap} {mg : Str → Option Value} {fa : Addr} (X : K.In h) (G : h.Ns mainGlobals mg) (hfa : mg "law" = some (.ref fa))
    {t_FIGURES : Tok}
    {t_LETTERS : Tok}
    {t_MODULUS : Tok}
    {t_MOST_BLOCKS : Tok}
    {t_MOST_NAME : Tok}
    {t_MOST_PHASES : Tok}
    {t_MOST_QUEUES : Tok}
    {t_MOST_RATE : Tok}
    {t_MOST_START : Tok}
    {t_MOST_TEXT : Tok}
    {t_MOST_TIME : Tok}
    {t_SIGNS : Tok}
    {aBadLine : Addr}
    {aBadThing : Addr}
    {aRateError : Addr}
    {iBadLine cdaBadLine ccBadLine : Addr} {odBadLine anBadLine odcBadLine cldBadLine : Option Addr} {slBadLine cslBadLine ccsBadLine : Array (Option Value)} {ocBadLine kVBadLine dcBadLine pmBadLine ctBadLine cclBadLine clBadLine : Value} {vsBadLine : Array Value} {fileBadLine : Str} {tfBadLine : Tok}
    {nmBadLine qBadLine : Str} {NBadLine : Addr} {bsBadLine bmBadLine subBadLine : List Value} {snBadLine : List Str} {abBadLine : Bool} {colBadLine : Option Bool} {ddBadLine : Option Addr} {m0BadLine m1BadLine m2BadLine m3BadLine m5BadLine : Option Value}
    {iBadThing cdaBadThing ccBadThing : Addr} {odBadThing anBadThing odcBadThing cldBadThing : Option Addr} {slBadThing cslBadThing ccsBadThing : Array (Option Value)} {ocBadThing kVBadThing dcBadThing pmBadThing ctBadThing cclBadThing clBadThing : Value} {vsBadThing : Array Value} {fileBadThing : Str} {tfBadThing : Tok}
    {nmBadThing qBadThing : Str} {NBadThing : Addr} {bsBadThing bmBadThing subBadThing : List Value} {snBadThing : List Str} {abBadThing : Bool} {colBadThing : Option Bool} {ddBadThing : Option Addr} {m0BadThing m1BadThing m2BadThing m3BadThing m5BadThing : Option Value}
    {f_whole : Addr} {od_whole an_whole : Option Addr} {sl_whole : Array (Option Value)} {oc_whole kV_whole dc_whole pm_whole cd_whole ct_whole : Value}
    {f_is_numbers : Addr} {od_is_numbers an_is_numbers : Option Addr} {sl_is_numbers : Array (Option Value)} {oc_is_numbers kV_is_numbers dc_is_numbers pm_is_numbers cd_is_numbers ct_is_numbers : Value}
    {f_is_name : Addr} {od_is_name an_is_name : Option Addr} {sl_is_name : Array (Option Value)} {oc_is_name kV_is_name dc_is_name pm_is_name cd_is_name ct_is_name : Value}
    {f_is_times : Addr} {od_is_times an_is_times : Option Addr} {sl_is_times : Array (Option Value)} {oc_is_times kV_is_times dc_is_times pm_is_times cd_is_times ct_is_times : Value}
    {f_is_deed : Addr} {od_is_deed an_is_deed : Option Addr} {sl_is_deed : Array (Option Value)} {oc_is_deed kV_is_deed dc_is_deed pm_is_deed cd_is_deed ct_is_deed : Value}
    {f_is_block : Addr} {od_is_block an_is_block : Option Addr} {sl_is_block : Array (Option Value)} {oc_is_block kV_is_block dc_is_block pm_is_block cd_is_block ct_is_block : Value}
    {f_is_rates : Addr} {od_is_rates an_is_rates : Option Addr} {sl_is_rates : Array (Option Value)} {oc_is_rates kV_is_rates dc_is_rates pm_is_rates cd_is_rates ct_is_rates : Value}
    {f_is_start : Addr} {od_is_start an_is_start : Option Addr} {sl_is_start : Array (Option Value)} {oc_is_start kV_is_start dc_is_start pm_is_start cd_is_start ct_is_start : Value}
    {f_is_queue : Addr} {od_is_queue an_is_queue : Option Addr} {sl_is_queue : Array (Option Value)} {oc_is_queue kV_is_queue dc_is_queue pm_is_queue cd_is_queue ct_is_queue : Value}
    {f_is_graph : Addr} {od_is_graph an_is_graph : Option Addr} {sl_is_graph : Array (Option Value)} {oc_is_graph kV_is_graph dc_is_graph pm_is_graph cd_is_graph ct_is_graph : Value}
    {f_check_graph : Addr} {od_check_graph an_check_graph : Option Addr} {sl_check_graph : Array (Option Value)} {oc_check_graph kV_check_graph dc_check_graph pm_check_graph cd_check_graph ct_check_graph : Value}
    {f_key_values : Addr} {od_key_values an_key_values : Option Addr} {sl_key_values : Array (Option Value)} {oc_key_values kV_key_values dc_key_values pm_key_values cd_key_values ct_key_values : Value}
    {f_number_of : Addr} {od_number_of an_number_of : Option Addr} {sl_number_of : Array (Option Value)} {oc_number_of kV_number_of dc_number_of pm_number_of cd_number_of ct_number_of : Value}
    {f_numbers_of : Addr} {od_numbers_of an_numbers_of : Option Addr} {sl_numbers_of : Array (Option Value)} {oc_numbers_of kV_numbers_of dc_numbers_of pm_numbers_of cd_numbers_of ct_numbers_of : Value}
    {f_joined_words : Addr} {od_joined_words an_joined_words : Option Addr} {sl_joined_words : Array (Option Value)} {oc_joined_words kV_joined_words dc_joined_words pm_joined_words cd_joined_words ct_joined_words : Value}
    {f_block_line : Addr} {od_block_line an_block_line : Option Addr} {sl_block_line : Array (Option Value)} {oc_block_line kV_block_line dc_block_line pm_block_line cd_block_line ct_block_line : Value}
    {f_queue_line : Addr} {od_queue_line an_queue_line : Option Addr} {sl_queue_line : Array (Option Value)} {oc_queue_line kV_queue_line dc_queue_line pm_queue_line cd_queue_line ct_queue_line : Value}
    {f_graph_text : Addr} {od_graph_text an_graph_text : Option Addr} {sl_graph_text : Array (Option Value)} {oc_graph_text kV_graph_text dc_graph_text pm_graph_text cd_graph_text ct_graph_text : Value}
    {f_text_lines : Addr} {od_text_lines an_text_lines : Option Addr} {sl_text_lines : Array (Option Value)} {oc_text_lines kV_text_lines dc_text_lines pm_text_lines cd_text_lines ct_text_lines : Value}
    {f_place_behind : Addr} {od_place_behind an_place_behind : Option Addr} {sl_place_behind : Array (Option Value)} {oc_place_behind kV_place_behind dc_place_behind pm_place_behind cd_place_behind ct_place_behind : Value}
    {f_read_block : Addr} {od_read_block an_read_block : Option Addr} {sl_read_block : Array (Option Value)} {oc_read_block kV_read_block dc_read_block pm_read_block cd_read_block ct_read_block : Value}
    {f_queue_parts : Addr} {od_queue_parts an_queue_parts : Option Addr} {sl_queue_parts : Array (Option Value)} {oc_queue_parts kV_queue_parts dc_queue_parts pm_queue_parts cd_queue_parts ct_queue_parts : Value}
    {f_number_in : Addr} {od_number_in an_number_in : Option Addr} {sl_number_in : Array (Option Value)} {oc_number_in kV_number_in dc_number_in pm_number_in cd_number_in ct_number_in : Value}
    {f_read_queue : Addr} {od_read_queue an_read_queue : Option Addr} {sl_read_queue : Array (Option Value)} {oc_read_queue kV_read_queue dc_read_queue pm_read_queue cd_read_queue ct_read_queue : Value}
    {f_read_graph : Addr} {od_read_graph an_read_graph : Option Addr} {sl_read_graph : Array (Option Value)} {oc_read_graph kV_read_graph dc_read_graph pm_read_graph cd_read_graph ct_read_graph : Value}
    {f_L_begin : Addr} {od_L_begin an_L_begin : Option Addr} {sl_L_begin : Array (Option Value)} {oc_L_begin kV_L_begin dc_L_begin pm_L_begin cd_L_begin ct_L_begin : Value}
    {f_L_draw : Addr} {od_L_draw an_L_draw : Option Addr} {sl_L_draw : Array (Option Value)} {oc_L_draw kV_L_draw dc_L_draw pm_L_draw cd_L_draw ct_L_draw : Value}
    {f_L_pick : Addr} {od_L_pick an_L_pick : Option Addr} {sl_L_pick : Array (Option Value)} {oc_L_pick kV_L_pick dc_L_pick pm_L_pick cd_L_pick ct_L_pick : Value}
    {f_L_rare : Addr} {od_L_rare an_L_rare : Option Addr} {sl_L_rare : Array (Option Value)} {oc_L_rare kV_L_rare dc_L_rare pm_L_rare cd_L_rare ct_L_rare : Value}
    {f_L_shuffled : Addr} {od_L_shuffled an_L_shuffled : Option Addr} {sl_L_shuffled : Array (Option Value)} {oc_L_shuffled kV_L_shuffled dc_L_shuffled pm_L_shuffled cd_L_shuffled ct_L_shuffled : Value}
    {f_L_pool : Addr} {od_L_pool an_L_pool : Option Addr} {sl_L_pool : Array (Option Value)} {oc_L_pool kV_L_pool dc_L_pool pm_L_pool cd_L_pool ct_L_pool : Value}
    {f_L_is_int : Addr} {od_L_is_int an_L_is_int : Option Addr} {sl_L_is_int : Array (Option Value)} {oc_L_is_int kV_L_is_int dc_L_is_int pm_L_is_int cd_L_is_int ct_L_is_int : Value}
    {f_L_free_number : Addr} {od_L_free_number an_L_free_number : Option Addr} {sl_L_free_number : Array (Option Value)} {oc_L_free_number kV_L_free_number dc_L_free_number pm_L_free_number cd_L_free_number ct_L_free_number : Value}
    {f_L_free_numbers : Addr} {od_L_free_numbers an_L_free_numbers : Option Addr} {sl_L_free_numbers : Array (Option Value)} {oc_L_free_numbers kV_L_free_numbers dc_L_free_numbers pm_L_free_numbers cd_L_free_numbers ct_L_free_numbers : Value}
    {f_L_key_words : Addr} {od_L_key_words an_L_key_words : Option Addr} {sl_L_key_words : Array (Option Value)} {oc_L_key_words kV_L_key_words dc_L_key_words pm_L_key_words cd_L_key_words ct_L_key_words : Value}
    {f_L_free_name : Addr} {od_L_free_name an_L_free_name : Option Addr} {sl_L_free_name : Array (Option Value)} {oc_L_free_name kV_L_free_name dc_L_free_name pm_L_free_name cd_L_free_name ct_L_free_name : Value}
    {f_L_free_block : Addr} {od_L_free_block an_L_free_block : Option Addr} {sl_L_free_block : Array (Option Value)} {oc_L_free_block kV_L_free_block dc_L_free_block pm_L_free_block cd_L_free_block ct_L_free_block : Value}
    {f_L_free_rates : Addr} {od_L_free_rates an_L_free_rates : Option Addr} {sl_L_free_rates : Array (Option Value)} {oc_L_free_rates kV_L_free_rates dc_L_free_rates pm_L_free_rates cd_L_free_rates ct_L_free_rates : Value}
    {f_L_free_start : Addr} {od_L_free_start an_L_free_start : Option Addr} {sl_L_free_start : Array (Option Value)} {oc_L_free_start kV_L_free_start dc_L_free_start pm_L_free_start cd_L_free_start ct_L_free_start : Value}
    {f_L_free_queue : Addr} {od_L_free_queue an_L_free_queue : Option Addr} {sl_L_free_queue : Array (Option Value)} {oc_L_free_queue kV_L_free_queue dc_L_free_queue pm_L_free_queue cd_L_free_queue ct_L_free_queue : Value}
    {f_L_big_graph : Addr} {od_L_big_graph an_L_big_graph : Option Addr} {sl_L_big_graph : Array (Option Value)} {oc_L_big_graph kV_L_big_graph dc_L_big_graph pm_L_big_graph cd_L_big_graph ct_L_big_graph : Value}
    {f_L_free_graph : Addr} {od_L_free_graph an_L_free_graph : Option Addr} {sl_L_free_graph : Array (Option Value)} {oc_L_free_graph kV_L_free_graph dc_L_free_graph pm_L_free_graph cd_L_free_graph ct_L_free_graph : Value}
    {f_L_words_of : Addr} {od_L_words_of an_L_words_of : Option Addr} {sl_L_words_of : Array (Option Value)} {oc_L_words_of kV_L_words_of dc_L_words_of pm_L_words_of cd_L_words_of ct_L_words_of : Value}
    {f_L_block_words : Addr} {od_L_block_words an_L_block_words : Option Addr} {sl_L_block_words : Array (Option Value)} {oc_L_block_words kV_L_block_words dc_L_block_words pm_L_block_words cd_L_block_words ct_L_block_words : Value}
    {f_L_queue_words : Addr} {od_L_queue_words an_L_queue_words : Option Addr} {sl_L_queue_words : Array (Option Value)} {oc_L_queue_words kV_L_queue_words dc_L_queue_words pm_L_queue_words cd_L_queue_words ct_L_queue_words : Value}
    {f_L_graph_lines : Addr} {od_L_graph_lines an_L_graph_lines : Option Addr} {sl_L_graph_lines : Array (Option Value)} {oc_L_graph_lines kV_L_graph_lines dc_L_graph_lines pm_L_graph_lines cd_L_graph_lines ct_L_graph_lines : Value}
    {f_L_text : Addr} {od_L_text an_L_text : Option Addr} {sl_L_text : Array (Option Value)} {oc_L_text kV_L_text dc_L_text pm_L_text cd_L_text ct_L_text : Value}
    {f_L_near : Addr} {od_L_near an_L_near : Option Addr} {sl_L_near : Array (Option Value)} {oc_L_near kV_L_near dc_L_near pm_L_near cd_L_near ct_L_near : Value}
    {f_L_alike : Addr} {od_L_alike an_L_alike : Option Addr} {sl_L_alike : Array (Option Value)} {oc_L_alike kV_L_alike dc_L_alike pm_L_alike cd_L_alike ct_L_alike : Value}
    {f_L_there_and_back : Addr} {od_L_there_and_back an_L_there_and_back : Option Addr} {sl_L_there_and_back : Array (Option Value)} {oc_L_there_and_back kV_L_there_and_back dc_L_there_and_back pm_L_there_and_back cd_L_there_and_back ct_L_there_and_back : Value}
    {f_L_refused : Addr} {od_L_refused an_L_refused : Option Addr} {sl_L_refused : Array (Option Value)} {oc_L_refused kV_L_refused dc_L_refused pm_L_refused cd_L_refused ct_L_refused : Value}
    {f_law : Addr} {od_law an_law : Option Addr} {sl_law : Array (Option Value)} {oc_law kV_law dc_law pm_law cd_law ct_law : Value}
    (z_ValueError : PySem.W.nsIn K mainGlobals "ValueError" = some none)
    (z_abs : PySem.W.nsIn K mainGlobals "abs" = some none)
    (z_all : PySem.W.nsIn K mainGlobals "all" = some none)
    (z_bool : PySem.W.nsIn K mainGlobals "bool" = some none)
    (z_enumerate : PySem.W.nsIn K mainGlobals "enumerate" = some none)
    (z_int : PySem.W.nsIn K mainGlobals "int" = some none)
    (z_isinstance : PySem.W.nsIn K mainGlobals "isinstance" = some none)
    (z_len : PySem.W.nsIn K mainGlobals "len" = some none)
    (z_list : PySem.W.nsIn K mainGlobals "list" = some none)
    (z_min : PySem.W.nsIn K mainGlobals "min" = some none)
    (z_range : PySem.W.nsIn K mainGlobals "range" = some none)
    (z_str : PySem.W.nsIn K mainGlobals "str" = some none)
    (z_sum : PySem.W.nsIn K mainGlobals "sum" = some none)
    (z_tuple : PySem.W.nsIn K mainGlobals "tuple" = some none)
    (v_FIGURES : PySem.W.nsIn K mainGlobals "FIGURES" = some (some (.str "0123456789" t_FIGURES)))
    (v_LETTERS : PySem.W.nsIn K mainGlobals "LETTERS" = some (some (.str "abcdefghijklmnopqrstuvwxyz" t_LETTERS)))
    (v_MODULUS : PySem.W.nsIn K mainGlobals "MODULUS" = some (some (.int (9973) t_MODULUS)))
    (v_MOST_BLOCKS : PySem.W.nsIn K mainGlobals "MOST_BLOCKS" = some (some (.int (60) t_MOST_BLOCKS)))
    (v_MOST_NAME : PySem.W.nsIn K mainGlobals "MOST_NAME" = some (some (.int (16) t_MOST_NAME)))
    (v_MOST_PHASES : PySem.W.nsIn K mainGlobals "MOST_PHASES" = some (some (.int (6) t_MOST_PHASES)))
    (v_MOST_QUEUES : PySem.W.nsIn K mainGlobals "MOST_QUEUES" = some (some (.int (160) t_MOST_QUEUES)))
    (v_MOST_RATE : PySem.W.nsIn K mainGlobals "MOST_RATE" = some (some (.int (12) t_MOST_RATE)))
    (v_MOST_START : PySem.W.nsIn K mainGlobals "MOST_START" = some (some (.int (60) t_MOST_START)))
    (v_MOST_TEXT : PySem.W.nsIn K mainGlobals "MOST_TEXT" = some (some (.int (100000) t_MOST_TEXT)))
    (v_MOST_TIME : PySem.W.nsIn K mainGlobals "MOST_TIME" = some (some (.int (60) t_MOST_TIME)))
    (v_SIGNS : PySem.W.nsIn K mainGlobals "SIGNS" = some (some (.str "abcdefghijklmnopqrstuvwxyz0123456789_." t_SIGNS)))
    (w_BadLine : PySem.W.nsIn K mainGlobals "BadLine" = some (some (.ref aBadLine)))
    (w_BadThing : PySem.W.nsIn K mainGlobals "BadThing" = some (some (.ref aBadThing)))
    (w_RateError : PySem.W.nsIn K mainGlobals "RateError" = some (some (.ref aRateError)))
    (z_super : PySem.W.nsIn K mainGlobals "super" = some none)
    (z_any : PySem.W.nsIn K cStatics "thirdparty.any" = some none)
    (hn0 : PySem.W.specialIn K (.builtin "object.__class__") "__get__" = some (some (.builtin "getset_descriptor.__get__")))
    (ht0 : PySem.W.takesIn K (.builtin "object.__class__") = some true)
    (eC_BadLine : PySem.W.subIn K (.ref aBadLine) (.type "BaseException") = some true)
    (tC_BadLine : PySem.W.typeIn K (.ref aBadLine) = some (.type "type"))
    (hC_BadLine : PySem.W.hasDictIn K aBadLine = true)
    (eC_BadThing : PySem.W.subIn K (.ref aBadThing) (.type "BaseException") = some true)
    (tC_BadThing : PySem.W.typeIn K (.ref aBadThing) = some (.type "type"))
    (hC_BadThing : PySem.W.hasDictIn K aBadThing = true)
    (eC_RateError : PySem.W.subIn K (.ref aRateError) (.type "BaseException") = some true)
    (tC_RateError : PySem.W.typeIn K (.ref aRateError) = some (.type "type"))
    (hC_RateError : PySem.W.hasDictIn K aRateError = true)
    (ga_BadLine : PySem.W.findIn K (.ref aBadLine) "__getattribute__" = some (some (.builtin "BaseException.__getattribute__")))
    (gg_BadLine : PySem.W.findIn K (.ref aBadLine) "__getattr__" = some none)
    (gc_BadLine : PySem.W.findIn K (.ref aBadLine) "__class__" = some (some (.builtin "object.__class__")))
    (mo_BadLine : PySem.W.mroIn K aBadLine (.type "object") = some true)
    (ga_BadThing : PySem.W.findIn K (.ref aBadThing) "__getattribute__" = some (some (.builtin "BaseException.__getattribute__")))
    (gg_BadThing : PySem.W.findIn K (.ref aBadThing) "__getattr__" = some none)
    (gc_BadThing : PySem.W.findIn K (.ref aBadThing) "__class__" = some (some (.builtin "object.__class__")))
    (mo_BadThing : PySem.W.mroIn K aBadThing (.type "object") = some true)
    (ij_BadLine : PySem.W.findIn K (.ref aBadLine) "__init__" = some (some (.ref iBadLine)))
    (li_BadLine : K.lookup iBadLine = some ⟨ocBadLine, odBadLine, .func (PySem.W.ksFn "__init__" "BadLine.__init__" (defArgs (inClass (tS 3) 0)) (defBody (inClass (tS 3) 0)) (defScope (inClass (tS 3) 0)) .none kVBadLine dcBadLine pmBadLine anBadLine (.ref cdaBadLine) ctBadLine ccBadLine), slBadLine⟩)
    (ci_BadLine : PySem.W.codeIn K (.ref cdaBadLine) "BadLine.__init__" = true)
    (co_BadLine : K.lookup cdaBadLine = some ⟨cclBadLine, odcBadLine, .fields vsBadLine, ccsBadLine⟩)
    (vf_BadLine : vsBadLine[2]? = some (.str fileBadLine tfBadLine))
    (ff_BadLine : ((PySem.Challenge.rw_ratewarrant_k02_whole_read_back.prog.main.file : Str) == fileBadLine) = true)
    (cx_BadLine : K.lookup ccBadLine = some ⟨clBadLine, cldBadLine, .cell (some (.ref aBadLine)), cslBadLine⟩)
    (ti_BadLine : PySem.W.typeIn K (.ref iBadLine) = some (.type "function"))
    (xL_BadLine : K.lookup aBadLine = some (excClassObj nmBadLine qBadLine aBadLine NBadLine bsBadLine bmBadLine true snBadLine subBadLine abBadLine colBadLine ddBadLine m0BadLine m1BadLine m2BadLine m3BadLine m5BadLine "ValueError.__new__"))
    (rf_BadLine : PySem.HandSPX.refsVE bmBadLine = true)
    (sa_BadLine : PySem.W.findIn K (.ref aBadLine) "__setattr__" = some (some (.builtin "object.__setattr__")))
    (kC_BadLine : PySem.W.keepIn K (.ref aBadLine) = true)
    (mi_BadLine : PySem.W.mroIn K aBadLine (.ref aBadLine) = some true)
    (su_BadLine : PySem.W.ks_superIn K aBadLine aBadLine "__init__" = some (some (.builtin "ValueError.__init__")))
    (ve_BadLine : PySem.W.subIn K (.ref aBadLine) (.type "ValueError") = some true)
    (ii_BadLine : PySem.W.findIn K (.ref aBadLine) "__init__" = some (some (.ref iBadLine)))
    (nf_BadLine_row : PySem.W.findIn K (.ref aBadLine) "row" = some none)
    (nf_BadLine_reason : PySem.W.findIn K (.ref aBadLine) "reason" = some none)
    (ij_BadThing : PySem.W.findIn K (.ref aBadThing) "__init__" = some (some (.ref iBadThing)))
    (li_BadThing : K.lookup iBadThing = some ⟨ocBadThing, odBadThing, .func (PySem.W.ksFn "__init__" "BadThing.__init__" (defArgs (inClass (tS 2) 0)) (defBody (inClass (tS 2) 0)) (defScope (inClass (tS 2) 0)) .none kVBadThing dcBadThing pmBadThing anBadThing (.ref cdaBadThing) ctBadThing ccBadThing), slBadThing⟩)
    (ci_BadThing : PySem.W.codeIn K (.ref cdaBadThing) "BadThing.__init__" = true)
    (co_BadThing : K.lookup cdaBadThing = some ⟨cclBadThing, odcBadThing, .fields vsBadThing, ccsBadThing⟩)
    (vf_BadThing : vsBadThing[2]? = some (.str fileBadThing tfBadThing))
    (ff_BadThing : ((PySem.Challenge.rw_ratewarrant_k02_whole_read_back.prog.main.file : Str) == fileBadThing) = true)
    (cx_BadThing : K.lookup ccBadThing = some ⟨clBadThing, cldBadThing, .cell (some (.ref aBadThing)), cslBadThing⟩)
    (ti_BadThing : PySem.W.typeIn K (.ref iBadThing) = some (.type "function"))
    (xL_BadThing : K.lookup aBadThing = some (excClassObj nmBadThing qBadThing aBadThing NBadThing bsBadThing bmBadThing true snBadThing subBadThing abBadThing colBadThing ddBadThing m0BadThing m1BadThing m2BadThing m3BadThing m5BadThing "ValueError.__new__"))
    (rf_BadThing : PySem.HandSPX.refsVE bmBadThing = true)
    (sa_BadThing : PySem.W.findIn K (.ref aBadThing) "__setattr__" = some (some (.builtin "object.__setattr__")))
    (kC_BadThing : PySem.W.keepIn K (.ref aBadThing) = true)
    (mi_BadThing : PySem.W.mroIn K aBadThing (.ref aBadThing) = some true)
    (su_BadThing : PySem.W.ks_superIn K aBadThing aBadThing "__init__" = some (some (.builtin "ValueError.__init__")))
    (ve_BadThing : PySem.W.subIn K (.ref aBadThing) (.type "ValueError") = some true)
    (ii_BadThing : PySem.W.findIn K (.ref aBadThing) "__init__" = some (some (.ref iBadThing)))
    (nf_BadThing_part : PySem.W.findIn K (.ref aBadThing) "part" = some none)
    (sb_BadLine_BadThing : PySem.W.subIn K (.ref aBadLine) (.ref aBadThing) = some false)
    (sb_BadThing_BadLine : PySem.W.subIn K (.ref aBadThing) (.ref aBadLine) = some false)
    (sb_BadThing_BadThing : PySem.W.subIn K (.ref aBadThing) (.ref aBadThing) = some true)
    (sb_BadThing_RateError : PySem.W.subIn K (.ref aBadThing) (.ref aRateError) = some true)
    (kt_BadThing_BadLine : PySem.W.kitOne K (.ref aBadThing) (.ref aBadLine) = some false)
    (kt_BadThing_RateError : PySem.W.kitOne K (.ref aBadThing) (.ref aRateError) = some true)
    (kt_BadThing_ValueError : PySem.W.kitOne K (.ref aBadThing) (.type "ValueError") = some true)
    (n_whole : PySem.W.nsIn K mainGlobals "whole" = some (some (.ref f_whole)))
    (l_whole : K.lookup f_whole = some ⟨oc_whole, od_whole, .func (PySem.W.fnOf "whole" "whole" (defArgs (tS 15)) (defBody (tS 15)) (defScope (tS 15)) .none kV_whole dc_whole pm_whole an_whole cd_whole ct_whole), sl_whole⟩)
    (d_whole : PySem.W.codeIn K cd_whole "whole" = true)
    (k_whole : PySem.W.keepIn K (.ref f_whole) = true)
    (n_is_numbers : PySem.W.nsIn K mainGlobals "is_numbers" = some (some (.ref f_is_numbers)))
    (l_is_numbers : K.lookup f_is_numbers = some ⟨oc_is_numbers, od_is_numbers, .func (PySem.W.fnOf "is_numbers" "is_numbers" (defArgs (tS 16)) (defBody (tS 16)) (defScope (tS 16)) .none kV_is_numbers dc_is_numbers pm_is_numbers an_is_numbers cd_is_numbers ct_is_numbers), sl_is_numbers⟩)
    (d_is_numbers : PySem.W.codeIn K cd_is_numbers "is_numbers" = true)
    (k_is_numbers : PySem.W.keepIn K (.ref f_is_numbers) = true)
    (n_is_name : PySem.W.nsIn K mainGlobals "is_name" = some (some (.ref f_is_name)))
    (l_is_name : K.lookup f_is_name = some ⟨oc_is_name, od_is_name, .func (PySem.W.fnOf "is_name" "is_name" (defArgs (tS 17)) (defBody (tS 17)) (defScope (tS 17)) .none kV_is_name dc_is_name pm_is_name an_is_name cd_is_name ct_is_name), sl_is_name⟩)
    (d_is_name : PySem.W.codeIn K cd_is_name "is_name" = true)
    (k_is_name : PySem.W.keepIn K (.ref f_is_name) = true)
    (n_is_times : PySem.W.nsIn K mainGlobals "is_times" = some (some (.ref f_is_times)))
    (l_is_times : K.lookup f_is_times = some ⟨oc_is_times, od_is_times, .func (PySem.W.fnOf "is_times" "is_times" (defArgs (tS 18)) (defBody (tS 18)) (defScope (tS 18)) .none kV_is_times dc_is_times pm_is_times an_is_times cd_is_times ct_is_times), sl_is_times⟩)
    (d_is_times : PySem.W.codeIn K cd_is_times "is_times" = true)
    (k_is_times : PySem.W.keepIn K (.ref f_is_times) = true)
    (n_is_deed : PySem.W.nsIn K mainGlobals "is_deed" = some (some (.ref f_is_deed)))
    (l_is_deed : K.lookup f_is_deed = some ⟨oc_is_deed, od_is_deed, .func (PySem.W.fnOf "is_deed" "is_deed" (defArgs (tS 19)) (defBody (tS 19)) (defScope (tS 19)) .none kV_is_deed dc_is_deed pm_is_deed an_is_deed cd_is_deed ct_is_deed), sl_is_deed⟩)
    (d_is_deed : PySem.W.codeIn K cd_is_deed "is_deed" = true)
    (k_is_deed : PySem.W.keepIn K (.ref f_is_deed) = true)
    (n_is_block : PySem.W.nsIn K mainGlobals "is_block" = some (some (.ref f_is_block)))
    (l_is_block : K.lookup f_is_block = some ⟨oc_is_block, od_is_block, .func (PySem.W.fnOf "is_block" "is_block" (defArgs (tS 20)) (defBody (tS 20)) (defScope (tS 20)) .none kV_is_block dc_is_block pm_is_block an_is_block cd_is_block ct_is_block), sl_is_block⟩)
    (d_is_block : PySem.W.codeIn K cd_is_block "is_block" = true)
    (k_is_block : PySem.W.keepIn K (.ref f_is_block) = true)
    (n_is_rates : PySem.W.nsIn K mainGlobals "is_rates" = some (some (.ref f_is_rates)))
    (l_is_rates : K.lookup f_is_rates = some ⟨oc_is_rates, od_is_rates, .func (PySem.W.fnOf "is_rates" "is_rates" (defArgs (tS 21)) (defBody (tS 21)) (defScope (tS 21)) .none kV_is_rates dc_is_rates pm_is_rates an_is_rates cd_is_rates ct_is_rates), sl_is_rates⟩)
    (d_is_rates : PySem.W.codeIn K cd_is_rates "is_rates" = true)
    (k_is_rates : PySem.W.keepIn K (.ref f_is_rates) = true)
    (n_is_start : PySem.W.nsIn K mainGlobals "is_start" = some (some (.ref f_is_start)))
    (l_is_start : K.lookup f_is_start = some ⟨oc_is_start, od_is_start, .func (PySem.W.fnOf "is_start" "is_start" (defArgs (tS 22)) (defBody (tS 22)) (defScope (tS 22)) .none kV_is_start dc_is_start pm_is_start an_is_start cd_is_start ct_is_start), sl_is_start⟩)
    (d_is_start : PySem.W.codeIn K cd_is_start "is_start" = true)
    (k_is_start : PySem.W.keepIn K (.ref f_is_start) = true)
    (n_is_queue : PySem.W.nsIn K mainGlobals "is_queue" = some (some (.ref f_is_queue)))
    (l_is_queue : K.lookup f_is_queue = some ⟨oc_is_queue, od_is_queue, .func (PySem.W.fnOf "is_queue" "is_queue" (defArgs (tS 23)) (defBody (tS 23)) (defScope (tS 23)) .none kV_is_queue dc_is_queue pm_is_queue an_is_queue cd_is_queue ct_is_queue), sl_is_queue⟩)
    (d_is_queue : PySem.W.codeIn K cd_is_queue "is_queue" = true)
    (k_is_queue : PySem.W.keepIn K (.ref f_is_queue) = true)
    (n_is_graph : PySem.W.nsIn K mainGlobals "is_graph" = some (some (.ref f_is_graph)))
    (l_is_graph : K.lookup f_is_graph = some ⟨oc_is_graph, od_is_graph, .func (PySem.W.fnOf "is_graph" "is_graph" (defArgs (tS 24)) (defBody (tS 24)) (defScope (tS 24)) .none kV_is_graph dc_is_graph pm_is_graph an_is_graph cd_is_graph ct_is_graph), sl_is_graph⟩)
    (d_is_graph : PySem.W.codeIn K cd_is_graph "is_graph" = true)
    (k_is_graph : PySem.W.keepIn K (.ref f_is_graph) = true)
    (n_check_graph : PySem.W.nsIn K mainGlobals "check_graph" = some (some (.ref f_check_graph)))
    (l_check_graph : K.lookup f_check_graph = some ⟨oc_check_graph, od_check_graph, .func (PySem.W.fnOf "check_graph" "check_graph" (defArgs (tS 25)) (defBody (tS 25)) (defScope (tS 25)) .none kV_check_graph dc_check_graph pm_check_graph an_check_graph cd_check_graph ct_check_graph), sl_check_graph⟩)
    (d_check_graph : PySem.W.codeIn K cd_check_graph "check_graph" = true)
    (k_check_graph : PySem.W.keepIn K (.ref f_check_graph) = true)
    (n_key_values : PySem.W.nsIn K mainGlobals "key_values" = some (some (.ref f_key_values)))
    (l_key_values : K.lookup f_key_values = some ⟨oc_key_values, od_key_values, .func (PySem.W.fnOf "key_values" "key_values" (defArgs (tS 29)) (defBody (tS 29)) (defScope (tS 29)) .none kV_key_values dc_key_values pm_key_values an_key_values cd_key_values ct_key_values), sl_key_values⟩)
    (d_key_values : PySem.W.codeIn K cd_key_values "key_values" = true)
    (k_key_values : PySem.W.keepIn K (.ref f_key_values) = true)
    (n_number_of : PySem.W.nsIn K mainGlobals "number_of" = some (some (.ref f_number_of)))
    (l_number_of : K.lookup f_number_of = some ⟨oc_number_of, od_number_of, .func (PySem.W.fnOf "number_of" "number_of" (defArgs (tS 30)) (defBody (tS 30)) (defScope (tS 30)) .none kV_number_of dc_number_of pm_number_of an_number_of cd_number_of ct_number_of), sl_number_of⟩)
    (d_number_of : PySem.W.codeIn K cd_number_of "number_of" = true)
    (k_number_of : PySem.W.keepIn K (.ref f_number_of) = true)
    (n_numbers_of : PySem.W.nsIn K mainGlobals "numbers_of" = some (some (.ref f_numbers_of)))
    (l_numbers_of : K.lookup f_numbers_of = some ⟨oc_numbers_of, od_numbers_of, .func (PySem.W.fnOf "numbers_of" "numbers_of" (defArgs (tS 31)) (defBody (tS 31)) (defScope (tS 31)) .none kV_numbers_of dc_numbers_of pm_numbers_of an_numbers_of cd_numbers_of ct_numbers_of), sl_numbers_of⟩)
    (d_numbers_of : PySem.W.codeIn K cd_numbers_of "numbers_of" = true)
    (k_numbers_of : PySem.W.keepIn K (.ref f_numbers_of) = true)
    (n_joined_words : PySem.W.nsIn K mainGlobals "joined_words" = some (some (.ref f_joined_words)))
    (l_joined_words : K.lookup f_joined_words = some ⟨oc_joined_words, od_joined_words, .func (PySem.W.fnOf "joined_words" "joined_words" (defArgs (tS 32)) (defBody (tS 32)) (defScope (tS 32)) .none kV_joined_words dc_joined_words pm_joined_words an_joined_words cd_joined_words ct_joined_words), sl_joined_words⟩)
    (d_joined_words : PySem.W.codeIn K cd_joined_words "joined_words" = true)
    (k_joined_words : PySem.W.keepIn K (.ref f_joined_words) = true)
    (n_block_line : PySem.W.nsIn K mainGlobals "block_line" = some (some (.ref f_block_line)))
    (l_block_line : K.lookup f_block_line = some ⟨oc_block_line, od_block_line, .func (PySem.W.fnOf "block_line" "block_line" (defArgs (tS 33)) (defBody (tS 33)) (defScope (tS 33)) .none kV_block_line dc_block_line pm_block_line an_block_line cd_block_line ct_block_line), sl_block_line⟩)
    (d_block_line : PySem.W.codeIn K cd_block_line "block_line" = true)
    (k_block_line : PySem.W.keepIn K (.ref f_block_line) = true)
    (n_queue_line : PySem.W.nsIn K mainGlobals "queue_line" = some (some (.ref f_queue_line)))
    (l_queue_line : K.lookup f_queue_line = some ⟨oc_queue_line, od_queue_line, .func (PySem.W.fnOf "queue_line" "queue_line" (defArgs (tS 34)) (defBody (tS 34)) (defScope (tS 34)) .none kV_queue_line dc_queue_line pm_queue_line an_queue_line cd_queue_line ct_queue_line), sl_queue_line⟩)
    (d_queue_line : PySem.W.codeIn K cd_queue_line "queue_line" = true)
    (k_queue_line : PySem.W.keepIn K (.ref f_queue_line) = true)
    (n_graph_text : PySem.W.nsIn K mainGlobals "graph_text" = some (some (.ref f_graph_text)))
    (l_graph_text : K.lookup f_graph_text = some ⟨oc_graph_text, od_graph_text, .func (PySem.W.fnOf "graph_text" "graph_text" (defArgs (tS 35)) (defBody (tS 35)) (defScope (tS 35)) .none kV_graph_text dc_graph_text pm_graph_text an_graph_text cd_graph_text ct_graph_text), sl_graph_text⟩)
    (d_graph_text : PySem.W.codeIn K cd_graph_text "graph_text" = true)
    (k_graph_text : PySem.W.keepIn K (.ref f_graph_text) = true)
    (n_text_lines : PySem.W.nsIn K mainGlobals "text_lines" = some (some (.ref f_text_lines)))
    (l_text_lines : K.lookup f_text_lines = some ⟨oc_text_lines, od_text_lines, .func (PySem.W.fnOf "text_lines" "text_lines" (defArgs (tS 36)) (defBody (tS 36)) (defScope (tS 36)) .none kV_text_lines dc_text_lines pm_text_lines an_text_lines cd_text_lines ct_text_lines), sl_text_lines⟩)
    (d_text_lines : PySem.W.codeIn K cd_text_lines "text_lines" = true)
    (k_text_lines : PySem.W.keepIn K (.ref f_text_lines) = true)
    (n_place_behind : PySem.W.nsIn K mainGlobals "place_behind" = some (some (.ref f_place_behind)))
    (l_place_behind : K.lookup f_place_behind = some ⟨oc_place_behind, od_place_behind, .func (PySem.W.fnOf "place_behind" "place_behind" (defArgs (tS 37)) (defBody (tS 37)) (defScope (tS 37)) .none kV_place_behind dc_place_behind pm_place_behind an_place_behind cd_place_behind ct_place_behind), sl_place_behind⟩)
    (d_place_behind : PySem.W.codeIn K cd_place_behind "place_behind" = true)
    (k_place_behind : PySem.W.keepIn K (.ref f_place_behind) = true)
    (n_read_block : PySem.W.nsIn K mainGlobals "read_block" = some (some (.ref f_read_block)))
    (l_read_block : K.lookup f_read_block = some ⟨oc_read_block, od_read_block, .func (PySem.W.fnOf "read_block" "read_block" (defArgs (tS 38)) (defBody (tS 38)) (defScope (tS 38)) .none kV_read_block dc_read_block pm_read_block an_read_block cd_read_block ct_read_block), sl_read_block⟩)
    (d_read_block : PySem.W.codeIn K cd_read_block "read_block" = true)
    (k_read_block : PySem.W.keepIn K (.ref f_read_block) = true)
    (n_queue_parts : PySem.W.nsIn K mainGlobals "queue_parts" = some (some (.ref f_queue_parts)))
    (l_queue_parts : K.lookup f_queue_parts = some ⟨oc_queue_parts, od_queue_parts, .func (PySem.W.fnOf "queue_parts" "queue_parts" (defArgs (tS 39)) (defBody (tS 39)) (defScope (tS 39)) .none kV_queue_parts dc_queue_parts pm_queue_parts an_queue_parts cd_queue_parts ct_queue_parts), sl_queue_parts⟩)
    (d_queue_parts : PySem.W.codeIn K cd_queue_parts "queue_parts" = true)
    (k_queue_parts : PySem.W.keepIn K (.ref f_queue_parts) = true)
    (n_number_in : PySem.W.nsIn K mainGlobals "number_in" = some (some (.ref f_number_in)))
    (l_number_in : K.lookup f_number_in = some ⟨oc_number_in, od_number_in, .func (PySem.W.fnOf "number_in" "number_in" (defArgs (tS 40)) (defBody (tS 40)) (defScope (tS 40)) .none kV_number_in dc_number_in pm_number_in an_number_in cd_number_in ct_number_in), sl_number_in⟩)
    (d_number_in : PySem.W.codeIn K cd_number_in "number_in" = true)
    (k_number_in : PySem.W.keepIn K (.ref f_number_in) = true)
    (n_read_queue : PySem.W.nsIn K mainGlobals "read_queue" = some (some (.ref f_read_queue)))
    (l_read_queue : K.lookup f_read_queue = some ⟨oc_read_queue, od_read_queue, .func (PySem.W.fnOf "read_queue" "read_queue" (defArgs (tS 41)) (defBody (tS 41)) (defScope (tS 41)) .none kV_read_queue dc_read_queue pm_read_queue an_read_queue cd_read_queue ct_read_queue), sl_read_queue⟩)
    (d_read_queue : PySem.W.codeIn K cd_read_queue "read_queue" = true)
    (k_read_queue : PySem.W.keepIn K (.ref f_read_queue) = true)
    (n_read_graph : PySem.W.nsIn K mainGlobals "read_graph" = some (some (.ref f_read_graph)))
    (l_read_graph : K.lookup f_read_graph = some ⟨oc_read_graph, od_read_graph, .func (PySem.W.fnOf "read_graph" "read_graph" (defArgs (tS 42)) (defBody (tS 42)) (defScope (tS 42)) .none kV_read_graph dc_read_graph pm_read_graph an_read_graph cd_read_graph ct_read_graph), sl_read_graph⟩)
    (d_read_graph : PySem.W.codeIn K cd_read_graph "read_graph" = true)
    (k_read_graph : PySem.W.keepIn K (.ref f_read_graph) = true)
    (n_L_begin : PySem.W.nsIn K mainGlobals "_law_begin" = some (some (.ref f_L_begin)))
    (l_L_begin : K.lookup f_L_begin = some ⟨oc_L_begin, od_L_begin, .func (PySem.W.fnOf "_law_begin" "_law_begin" (defArgs (tS 44)) (defBody (tS 44)) (defScope (tS 44)) .none kV_L_begin dc_L_begin pm_L_begin an_L_begin cd_L_begin ct_L_begin), sl_L_begin⟩)
    (d_L_begin : PySem.W.codeIn K cd_L_begin "_law_begin" = true)
    (k_L_begin : PySem.W.keepIn K (.ref f_L_begin) = true)
    (n_L_draw : PySem.W.nsIn K mainGlobals "_law_draw" = some (some (.ref f_L_draw)))
    (l_L_draw : K.lookup f_L_draw = some ⟨oc_L_draw, od_L_draw, .func (PySem.W.fnOf "_law_draw" "_law_draw" (defArgs (tS 45)) (defBody (tS 45)) (defScope (tS 45)) .none kV_L_draw dc_L_draw pm_L_draw an_L_draw cd_L_draw ct_L_draw), sl_L_draw⟩)
    (d_L_draw : PySem.W.codeIn K cd_L_draw "_law_draw" = true)
    (k_L_draw : PySem.W.keepIn K (.ref f_L_draw) = true)
    (n_L_pick : PySem.W.nsIn K mainGlobals "_law_pick" = some (some (.ref f_L_pick)))
    (l_L_pick : K.lookup f_L_pick = some ⟨oc_L_pick, od_L_pick, .func (PySem.W.fnOf "_law_pick" "_law_pick" (defArgs (tS 46)) (defBody (tS 46)) (defScope (tS 46)) .none kV_L_pick dc_L_pick pm_L_pick an_L_pick cd_L_pick ct_L_pick), sl_L_pick⟩)
    (d_L_pick : PySem.W.codeIn K cd_L_pick "_law_pick" = true)
    (k_L_pick : PySem.W.keepIn K (.ref f_L_pick) = true)
    (n_L_rare : PySem.W.nsIn K mainGlobals "_law_rare" = some (some (.ref f_L_rare)))
    (l_L_rare : K.lookup f_L_rare = some ⟨oc_L_rare, od_L_rare, .func (PySem.W.fnOf "_law_rare" "_law_rare" (defArgs (tS 47)) (defBody (tS 47)) (defScope (tS 47)) .none kV_L_rare dc_L_rare pm_L_rare an_L_rare cd_L_rare ct_L_rare), sl_L_rare⟩)
    (d_L_rare : PySem.W.codeIn K cd_L_rare "_law_rare" = true)
    (k_L_rare : PySem.W.keepIn K (.ref f_L_rare) = true)
    (n_L_shuffled : PySem.W.nsIn K mainGlobals "_law_shuffled" = some (some (.ref f_L_shuffled)))
    (l_L_shuffled : K.lookup f_L_shuffled = some ⟨oc_L_shuffled, od_L_shuffled, .func (PySem.W.fnOf "_law_shuffled" "_law_shuffled" (defArgs (tS 48)) (defBody (tS 48)) (defScope (tS 48)) .none kV_L_shuffled dc_L_shuffled pm_L_shuffled an_L_shuffled cd_L_shuffled ct_L_shuffled), sl_L_shuffled⟩)
    (d_L_shuffled : PySem.W.codeIn K cd_L_shuffled "_law_shuffled" = true)
    (k_L_shuffled : PySem.W.keepIn K (.ref f_L_shuffled) = true)
    (n_L_pool : PySem.W.nsIn K mainGlobals "_law_pool" = some (some (.ref f_L_pool)))
    (l_L_pool : K.lookup f_L_pool = some ⟨oc_L_pool, od_L_pool, .func (PySem.W.fnOf "_law_pool" "_law_pool" (defArgs (tS 49)) (defBody (tS 49)) (defScope (tS 49)) .none kV_L_pool dc_L_pool pm_L_pool an_L_pool cd_L_pool ct_L_pool), sl_L_pool⟩)
    (d_L_pool : PySem.W.codeIn K cd_L_pool "_law_pool" = true)
    (k_L_pool : PySem.W.keepIn K (.ref f_L_pool) = true)
    (n_L_is_int : PySem.W.nsIn K mainGlobals "_law_is_int" = some (some (.ref f_L_is_int)))
    (l_L_is_int : K.lookup f_L_is_int = some ⟨oc_L_is_int, od_L_is_int, .func (PySem.W.fnOf "_law_is_int" "_law_is_int" (defArgs (tS 50)) (defBody (tS 50)) (defScope (tS 50)) .none kV_L_is_int dc_L_is_int pm_L_is_int an_L_is_int cd_L_is_int ct_L_is_int), sl_L_is_int⟩)
    (d_L_is_int : PySem.W.codeIn K cd_L_is_int "_law_is_int" = true)
    (k_L_is_int : PySem.W.keepIn K (.ref f_L_is_int) = true)
    (n_L_free_number : PySem.W.nsIn K mainGlobals "_law_free_number" = some (some (.ref f_L_free_number)))
    (l_L_free_number : K.lookup f_L_free_number = some ⟨oc_L_free_number, od_L_free_number, .func (PySem.W.fnOf "_law_free_number" "_law_free_number" (defArgs (tS 51)) (defBody (tS 51)) (defScope (tS 51)) .none kV_L_free_number dc_L_free_number pm_L_free_number an_L_free_number cd_L_free_number ct_L_free_number), sl_L_free_number⟩)
    (d_L_free_number : PySem.W.codeIn K cd_L_free_number "_law_free_number" = true)
    (k_L_free_number : PySem.W.keepIn K (.ref f_L_free_number) = true)
    (n_L_free_numbers : PySem.W.nsIn K mainGlobals "_law_free_numbers" = some (some (.ref f_L_free_numbers)))
    (l_L_free_numbers : K.lookup f_L_free_numbers = some ⟨oc_L_free_numbers, od_L_free_numbers, .func (PySem.W.fnOf "_law_free_numbers" "_law_free_numbers" (defArgs (tS 52)) (defBody (tS 52)) (defScope (tS 52)) .none kV_L_free_numbers dc_L_free_numbers pm_L_free_numbers an_L_free_numbers cd_L_free_numbers ct_L_free_numbers), sl_L_free_numbers⟩)
    (d_L_free_numbers : PySem.W.codeIn K cd_L_free_numbers "_law_free_numbers" = true)
    (k_L_free_numbers : PySem.W.keepIn K (.ref f_L_free_numbers) = true)
    (n_L_key_words : PySem.W.nsIn K mainGlobals "_law_key_words" = some (some (.ref f_L_key_words)))
    (l_L_key_words : K.lookup f_L_key_words = some ⟨oc_L_key_words, od_L_key_words, .func (PySem.W.fnOf "_law_key_words" "_law_key_words" (defArgs (tS 53)) (defBody (tS 53)) (defScope (tS 53)) .none kV_L_key_words dc_L_key_words pm_L_key_words an_L_key_words cd_L_key_words ct_L_key_words), sl_L_key_words⟩)
    (d_L_key_words : PySem.W.codeIn K cd_L_key_words "_law_key_words" = true)
    (k_L_key_words : PySem.W.keepIn K (.ref f_L_key_words) = true)
    (n_L_free_name : PySem.W.nsIn K mainGlobals "_law_free_name" = some (some (.ref f_L_free_name)))
    (l_L_free_name : K.lookup f_L_free_name = some ⟨oc_L_free_name, od_L_free_name, .func (PySem.W.fnOf "_law_free_name" "_law_free_name" (defArgs (tS 54)) (defBody (tS 54)) (defScope (tS 54)) .none kV_L_free_name dc_L_free_name pm_L_free_name an_L_free_name cd_L_free_name ct_L_free_name), sl_L_free_name⟩)
    (d_L_free_name : PySem.W.codeIn K cd_L_free_name "_law_free_name" = true)
    (k_L_free_name : PySem.W.keepIn K (.ref f_L_free_name) = true)
    (n_L_free_block : PySem.W.nsIn K mainGlobals "_law_free_block" = some (some (.ref f_L_free_block)))
    (l_L_free_block : K.lookup f_L_free_block = some ⟨oc_L_free_block, od_L_free_block, .func (PySem.W.fnOf "_law_free_block" "_law_free_block" (defArgs (tS 55)) (defBody (tS 55)) (defScope (tS 55)) .none kV_L_free_block dc_L_free_block pm_L_free_block an_L_free_block cd_L_free_block ct_L_free_block), sl_L_free_block⟩)
    (d_L_free_block : PySem.W.codeIn K cd_L_free_block "_law_free_block" = true)
    (k_L_free_block : PySem.W.keepIn K (.ref f_L_free_block) = true)
    (n_L_free_rates : PySem.W.nsIn K mainGlobals "_law_free_rates" = some (some (.ref f_L_free_rates)))
    (l_L_free_rates : K.lookup f_L_free_rates = some ⟨oc_L_free_rates, od_L_free_rates, .func (PySem.W.fnOf "_law_free_rates" "_law_free_rates" (defArgs (tS 56)) (defBody (tS 56)) (defScope (tS 56)) .none kV_L_free_rates dc_L_free_rates pm_L_free_rates an_L_free_rates cd_L_free_rates ct_L_free_rates), sl_L_free_rates⟩)
    (d_L_free_rates : PySem.W.codeIn K cd_L_free_rates "_law_free_rates" = true)
    (k_L_free_rates : PySem.W.keepIn K (.ref f_L_free_rates) = true)
    (n_L_free_start : PySem.W.nsIn K mainGlobals "_law_free_start" = some (some (.ref f_L_free_start)))
    (l_L_free_start : K.lookup f_L_free_start = some ⟨oc_L_free_start, od_L_free_start, .func (PySem.W.fnOf "_law_free_start" "_law_free_start" (defArgs (tS 57)) (defBody (tS 57)) (defScope (tS 57)) .none kV_L_free_start dc_L_free_start pm_L_free_start an_L_free_start cd_L_free_start ct_L_free_start), sl_L_free_start⟩)
    (d_L_free_start : PySem.W.codeIn K cd_L_free_start "_law_free_start" = true)
    (k_L_free_start : PySem.W.keepIn K (.ref f_L_free_start) = true)
    (n_L_free_queue : PySem.W.nsIn K mainGlobals "_law_free_queue" = some (some (.ref f_L_free_queue)))
    (l_L_free_queue : K.lookup f_L_free_queue = some ⟨oc_L_free_queue, od_L_free_queue, .func (PySem.W.fnOf "_law_free_queue" "_law_free_queue" (defArgs (tS 58)) (defBody (tS 58)) (defScope (tS 58)) .none kV_L_free_queue dc_L_free_queue pm_L_free_queue an_L_free_queue cd_L_free_queue ct_L_free_queue), sl_L_free_queue⟩)
    (d_L_free_queue : PySem.W.codeIn K cd_L_free_queue "_law_free_queue" = true)
    (k_L_free_queue : PySem.W.keepIn K (.ref f_L_free_queue) = true)
    (n_L_big_graph : PySem.W.nsIn K mainGlobals "_law_big_graph" = some (some (.ref f_L_big_graph)))
    (l_L_big_graph : K.lookup f_L_big_graph = some ⟨oc_L_big_graph, od_L_big_graph, .func (PySem.W.fnOf "_law_big_graph" "_law_big_graph" (defArgs (tS 59)) (defBody (tS 59)) (defScope (tS 59)) .none kV_L_big_graph dc_L_big_graph pm_L_big_graph an_L_big_graph cd_L_big_graph ct_L_big_graph), sl_L_big_graph⟩)
    (d_L_big_graph : PySem.W.codeIn K cd_L_big_graph "_law_big_graph" = true)
    (k_L_big_graph : PySem.W.keepIn K (.ref f_L_big_graph) = true)
    (n_L_free_graph : PySem.W.nsIn K mainGlobals "_law_free_graph" = some (some (.ref f_L_free_graph)))
    (l_L_free_graph : K.lookup f_L_free_graph = some ⟨oc_L_free_graph, od_L_free_graph, .func (PySem.W.fnOf "_law_free_graph" "_law_free_graph" (defArgs (tS 60)) (defBody (tS 60)) (defScope (tS 60)) .none kV_L_free_graph dc_L_free_graph pm_L_free_graph an_L_free_graph cd_L_free_graph ct_L_free_graph), sl_L_free_graph⟩)
    (d_L_free_graph : PySem.W.codeIn K cd_L_free_graph "_law_free_graph" = true)
    (k_L_free_graph : PySem.W.keepIn K (.ref f_L_free_graph) = true)
    (n_L_words_of : PySem.W.nsIn K mainGlobals "_law_words_of" = some (some (.ref f_L_words_of)))
    (l_L_words_of : K.lookup f_L_words_of = some ⟨oc_L_words_of, od_L_words_of, .func (PySem.W.fnOf "_law_words_of" "_law_words_of" (defArgs (tS 61)) (defBody (tS 61)) (defScope (tS 61)) .none kV_L_words_of dc_L_words_of pm_L_words_of an_L_words_of cd_L_words_of ct_L_words_of), sl_L_words_of⟩)
    (d_L_words_of : PySem.W.codeIn K cd_L_words_of "_law_words_of" = true)
    (k_L_words_of : PySem.W.keepIn K (.ref f_L_words_of) = true)
    (n_L_block_words : PySem.W.nsIn K mainGlobals "_law_block_words" = some (some (.ref f_L_block_words)))
    (l_L_block_words : K.lookup f_L_block_words = some ⟨oc_L_block_words, od_L_block_words, .func (PySem.W.fnOf "_law_block_words" "_law_block_words" (defArgs (tS 62)) (defBody (tS 62)) (defScope (tS 62)) .none kV_L_block_words dc_L_block_words pm_L_block_words an_L_block_words cd_L_block_words ct_L_block_words), sl_L_block_words⟩)
    (d_L_block_words : PySem.W.codeIn K cd_L_block_words "_law_block_words" = true)
    (k_L_block_words : PySem.W.keepIn K (.ref f_L_block_words) = true)
    (n_L_queue_words : PySem.W.nsIn K mainGlobals "_law_queue_words" = some (some (.ref f_L_queue_words)))
    (l_L_queue_words : K.lookup f_L_queue_words = some ⟨oc_L_queue_words, od_L_queue_words, .func (PySem.W.fnOf "_law_queue_words" "_law_queue_words" (defArgs (tS 63)) (defBody (tS 63)) (defScope (tS 63)) .none kV_L_queue_words dc_L_queue_words pm_L_queue_words an_L_queue_words cd_L_queue_words ct_L_queue_words), sl_L_queue_words⟩)
    (d_L_queue_words : PySem.W.codeIn K cd_L_queue_words "_law_queue_words" = true)
    (k_L_queue_words : PySem.W.keepIn K (.ref f_L_queue_words) = true)
    (n_L_graph_lines : PySem.W.nsIn K mainGlobals "_law_graph_lines" = some (some (.ref f_L_graph_lines)))
    (l_L_graph_lines : K.lookup f_L_graph_lines = some ⟨oc_L_graph_lines, od_L_graph_lines, .func (PySem.W.fnOf "_law_graph_lines" "_law_graph_lines" (defArgs (tS 64)) (defBody (tS 64)) (defScope (tS 64)) .none kV_L_graph_lines dc_L_graph_lines pm_L_graph_lines an_L_graph_lines cd_L_graph_lines ct_L_graph_lines), sl_L_graph_lines⟩)
    (d_L_graph_lines : PySem.W.codeIn K cd_L_graph_lines "_law_graph_lines" = true)
    (k_L_graph_lines : PySem.W.keepIn K (.ref f_L_graph_lines) = true)
    (n_L_text : PySem.W.nsIn K mainGlobals "_law_text" = some (some (.ref f_L_text)))
    (l_L_text : K.lookup f_L_text = some ⟨oc_L_text, od_L_text, .func (PySem.W.fnOf "_law_text" "_law_text" (defArgs (tS 65)) (defBody (tS 65)) (defScope (tS 65)) .none kV_L_text dc_L_text pm_L_text an_L_text cd_L_text ct_L_text), sl_L_text⟩)
    (d_L_text : PySem.W.codeIn K cd_L_text "_law_text" = true)
    (k_L_text : PySem.W.keepIn K (.ref f_L_text) = true)
    (n_L_near : PySem.W.nsIn K mainGlobals "_law_near" = some (some (.ref f_L_near)))
    (l_L_near : K.lookup f_L_near = some ⟨oc_L_near, od_L_near, .func (PySem.W.fnOf "_law_near" "_law_near" (defArgs (tS 66)) (defBody (tS 66)) (defScope (tS 66)) .none kV_L_near dc_L_near pm_L_near an_L_near cd_L_near ct_L_near), sl_L_near⟩)
    (d_L_near : PySem.W.codeIn K cd_L_near "_law_near" = true)
    (k_L_near : PySem.W.keepIn K (.ref f_L_near) = true)
    (n_L_alike : PySem.W.nsIn K mainGlobals "_law_alike" = some (some (.ref f_L_alike)))
    (l_L_alike : K.lookup f_L_alike = some ⟨oc_L_alike, od_L_alike, .func (PySem.W.fnOf "_law_alike" "_law_alike" (defArgs (tS 67)) (defBody (tS 67)) (defScope (tS 67)) .none kV_L_alike dc_L_alike pm_L_alike an_L_alike cd_L_alike ct_L_alike), sl_L_alike⟩)
    (d_L_alike : PySem.W.codeIn K cd_L_alike "_law_alike" = true)
    (k_L_alike : PySem.W.keepIn K (.ref f_L_alike) = true)
    (n_L_there_and_back : PySem.W.nsIn K mainGlobals "_law_there_and_back" = some (some (.ref f_L_there_and_back)))
    (l_L_there_and_back : K.lookup f_L_there_and_back = some ⟨oc_L_there_and_back, od_L_there_and_back, .func (PySem.W.fnOf "_law_there_and_back" "_law_there_and_back" (defArgs (tS 68)) (defBody (tS 68)) (defScope (tS 68)) .none kV_L_there_and_back dc_L_there_and_back pm_L_there_and_back an_L_there_and_back cd_L_there_and_back ct_L_there_and_back), sl_L_there_and_back⟩)
    (d_L_there_and_back : PySem.W.codeIn K cd_L_there_and_back "_law_there_and_back" = true)
    (k_L_there_and_back : PySem.W.keepIn K (.ref f_L_there_and_back) = true)
    (n_L_refused : PySem.W.nsIn K mainGlobals "_law_refused" = some (some (.ref f_L_refused)))
    (l_L_refused : K.lookup f_L_refused = some ⟨oc_L_refused, od_L_refused, .func (PySem.W.fnOf "_law_refused" "_law_refused" (defArgs (tS 69)) (defBody (tS 69)) (defScope (tS 69)) .none kV_L_refused dc_L_refused pm_L_refused an_L_refused cd_L_refused ct_L_refused), sl_L_refused⟩)
    (d_L_refused : PySem.W.codeIn K cd_L_refused "_law_refused" = true)
    (k_L_refused : PySem.W.keepIn K (.ref f_L_refused) = true)
    (n_law : PySem.W.nsIn K mainGlobals "law" = some (some (.ref f_law)))
    (l_law : K.lookup f_law = some ⟨oc_law, od_law, .func (PySem.W.fnOf "law" "law" (defArgs (tS 70)) (defBody (tS 70)) (defScope (tS 70)) .none kV_law dc_law pm_law an_law cd_law ct_law), sl_law⟩)
    (d_law : PySem.W.codeIn K cd_law "law" = true)
    (k_law : PySem.W.keepIn K (.ref f_law) = true)
    : ∃ fd : FuncData, (∀ (s : Shared) (v : Value), BindsTo s fd ⟨[v], []⟩ [("script", v)]) ∧ ∀ base : Heap, K.In base → base.Ns mainGlobals mg → FnOk PySem.Challenge.rw_ratewarrant_k02_whole_read_back.prog w K mg base (L2.CX PySem.Challenge.rw_ratewarrant_k02_whole_read_back.prog w) 11 fa fd ["script"] (spLawB K) := by
  have e := hfa.symm.trans (PySem.W.mg_of X G n_law)
  cases e
  refine ⟨PySem.W.fnOf "law" "law" (defArgs (tS 70)) (defBody (tS 70)) (defScope (tS 70)) .none kV_law dc_law pm_law an_law cd_law ct_law, fun s v => .of_eq rfl, fun base _ _ => ?_⟩
  have T : Tx PySem.Challenge.rw_ratewarrant_k02_whole_read_back.prog w K mg base aBadLine aBadThing aRateError := {
    b_ValueError := PySem.W.mg_none_of X G z_ValueError
    b_abs := PySem.W.mg_none_of X G z_abs
    b_all := PySem.W.mg_none_of X G z_all
    b_bool := PySem.W.mg_none_of X G z_bool
    b_enumerate := PySem.W.mg_none_of X G z_enumerate
    b_int := PySem.W.mg_none_of X G z_int
    b_isinstance := PySem.W.mg_none_of X G z_isinstance
    b_len := PySem.W.mg_none_of X G z_len
    b_list := PySem.W.mg_none_of X G z_list
    b_min := PySem.W.mg_none_of X G z_min
    b_range := PySem.W.mg_none_of X G z_range
    b_str := PySem.W.mg_none_of X G z_str
    b_sum := PySem.W.mg_none_of X G z_sum
    b_tuple := PySem.W.mg_none_of X G z_tuple
    c_FIGURES := ⟨_, PySem.W.mg_of X G v_FIGURES⟩
    c_LETTERS := ⟨_, PySem.W.mg_of X G v_LETTERS⟩
    c_MODULUS := ⟨_, PySem.W.mg_of X G v_MODULUS⟩
    c_MOST_BLOCKS := ⟨_, PySem.W.mg_of X G v_MOST_BLOCKS⟩
    c_MOST_NAME := ⟨_, PySem.W.mg_of X G v_MOST_NAME⟩
    c_MOST_PHASES := ⟨_, PySem.W.mg_of X G v_MOST_PHASES⟩
    c_MOST_QUEUES := ⟨_, PySem.W.mg_of X G v_MOST_QUEUES⟩
    c_MOST_RATE := ⟨_, PySem.W.mg_of X G v_MOST_RATE⟩
    c_MOST_START := ⟨_, PySem.W.mg_of X G v_MOST_START⟩
    c_MOST_TEXT := ⟨_, PySem.W.mg_of X G v_MOST_TEXT⟩
    c_MOST_TIME := ⟨_, PySem.W.mg_of X G v_MOST_TIME⟩
    c_SIGNS := ⟨_, PySem.W.mg_of X G v_SIGNS⟩
    m_BadLine := PySem.W.mg_of X G w_BadLine
    m_BadThing := PySem.W.mg_of X G w_BadThing
    m_RateError := PySem.W.mg_of X G w_RateError
    x_BadLine := xb_two (⟨⟨_, _, _, _, _, _, _, _, rfl, li_BadLine⟩, ci_BadLine, ⟨_, _, _, _, _, _, co_BadLine, vf_BadLine, ff_BadLine⟩, ⟨_, _, _, cx_BadLine⟩, ⟨_, by unfold PySem.W.clsIn; rw [xL_BadLine] <;> rfl⟩, by decide +kernel, z_any⟩ : IniT PySem.Challenge.rw_ratewarrant_k02_whole_read_back.prog K "BadLine.__init__" (inClass (tS 3) 0) iBadLine aBadLine _ cdaBadLine ccBadLine) ini_BadLine rfl rfl rfl (PySem.W.mg_none_of X G z_super) (by decide) (fun _ => ⟨_, rfl⟩) (fun _ => by rfl) (fun _ => by rfl) (fun _ => by rfl) (by decide) (by decide) (by decide) (by decide) (by decide) (by decide) (PySem.W.mg_of X G w_BadLine) (⟨⟨⟨nmBadLine, qBadLine, NBadLine, bsBadLine, bmBadLine, snBadLine, subBadLine, abBadLine, colBadLine, ddBadLine, m0BadLine, m1BadLine, m2BadLine, m3BadLine, m5BadLine, xL_BadLine, rf_BadLine⟩, sa_BadLine, eC_BadLine, tC_BadLine, kC_BadLine⟩, mi_BadLine, su_BadLine, ve_BadLine⟩ : IniC K aBadLine aBadLine) ii_BadLine ti_BadLine (.all fun us hl => match us, hl with | [_, _, _], _ => rfl) nf_BadLine_row nf_BadLine_reason 0
    x_BadThing := xb_one (⟨⟨_, _, _, _, _, _, _, _, rfl, li_BadThing⟩, ci_BadThing, ⟨_, _, _, _, _, _, co_BadThing, vf_BadThing, ff_BadThing⟩, ⟨_, _, _, cx_BadThing⟩, ⟨_, by unfold PySem.W.clsIn; rw [xL_BadThing] <;> rfl⟩, by decide +kernel, z_any⟩ : IniT PySem.Challenge.rw_ratewarrant_k02_whole_read_back.prog K "BadThing.__init__" (inClass (tS 2) 0) iBadThing aBadThing _ cdaBadThing ccBadThing) ini_BadThing rfl rfl rfl (PySem.W.mg_none_of X G z_super) (by decide) (fun _ => ⟨_, rfl⟩) (fun _ => by rfl) (fun _ => by rfl) (by decide) (by decide) (by decide) (by decide) (PySem.W.mg_of X G w_BadThing) (⟨⟨⟨nmBadThing, qBadThing, NBadThing, bsBadThing, bmBadThing, snBadThing, subBadThing, abBadThing, colBadThing, ddBadThing, m0BadThing, m1BadThing, m2BadThing, m3BadThing, m5BadThing, xL_BadThing, rf_BadThing⟩, sa_BadThing, eC_BadThing, tC_BadThing, kC_BadThing⟩, mi_BadThing, su_BadThing, ve_BadThing⟩ : IniC K aBadThing aBadThing) ii_BadThing ti_BadThing (.all fun us hl => match us, hl with | [_, _], _ => rfl) nf_BadThing_part 0
    e_BadLine_BadThing := PySem.W.exm_ref eC_BadThing hC_BadThing tC_BadThing sb_BadLine_BadThing
    e_BadThing_BadThing := PySem.W.exm_ref eC_BadThing hC_BadThing tC_BadThing sb_BadThing_BadThing
    g_BadThing := ⟨ga_BadThing, gg_BadThing, eC_BadThing, hC_BadThing⟩
    n_BadThing_part := nf_BadThing_part
    i_BadThing := ⟨ga_BadThing, gg_BadThing, eC_BadThing, hC_BadThing, gc_BadThing, hn0, ht0, mo_BadThing⟩
    k_BadThing_BadLine := kt_BadThing_BadLine
    k_BadThing_RateError := kt_BadThing_RateError
    k_BadThing_ValueError := kt_BadThing_ValueError
    f_whole := ⟨_, _, fun_mk l_whole d_whole k_whole, PySem.W.mg_of X G n_whole, (fun_mk (st := tS 15) l_whole d_whole k_whole).binds fun _ _ _ _ _ _ us hl => match us, hl with | [_, _, _], _ => rfl⟩
    f_is_numbers := ⟨_, _, fun_mk l_is_numbers d_is_numbers k_is_numbers, PySem.W.mg_of X G n_is_numbers, (fun_mk (st := tS 16) l_is_numbers d_is_numbers k_is_numbers).binds fun _ _ _ _ _ _ us hl => match us, hl with | [_, _, _], _ => rfl⟩
    f_is_name := ⟨_, _, fun_mk l_is_name d_is_name k_is_name, PySem.W.mg_of X G n_is_name, (fun_mk (st := tS 17) l_is_name d_is_name k_is_name).binds fun _ _ _ _ _ _ us hl => match us, hl with | [_], _ => rfl⟩
    f_is_times := ⟨_, _, fun_mk l_is_times d_is_times k_is_times, PySem.W.mg_of X G n_is_times, (fun_mk (st := tS 18) l_is_times d_is_times k_is_times).binds fun _ _ _ _ _ _ us hl => match us, hl with | [_], _ => rfl⟩
    f_is_deed := ⟨_, _, fun_mk l_is_deed d_is_deed k_is_deed, PySem.W.mg_of X G n_is_deed, (fun_mk (st := tS 19) l_is_deed d_is_deed k_is_deed).binds fun _ _ _ _ _ _ us hl => match us, hl with | [_], _ => rfl⟩
    f_is_block := ⟨_, _, fun_mk l_is_block d_is_block k_is_block, PySem.W.mg_of X G n_is_block, (fun_mk (st := tS 20) l_is_block d_is_block k_is_block).binds fun _ _ _ _ _ _ us hl => match us, hl with | [_], _ => rfl⟩
    f_is_rates := ⟨_, _, fun_mk l_is_rates d_is_rates k_is_rates, PySem.W.mg_of X G n_is_rates, (fun_mk (st := tS 21) l_is_rates d_is_rates k_is_rates).binds fun _ _ _ _ _ _ us hl => match us, hl with | [_, _], _ => rfl⟩
    f_is_start := ⟨_, _, fun_mk l_is_start d_is_start k_is_start, PySem.W.mg_of X G n_is_start, (fun_mk (st := tS 22) l_is_start d_is_start k_is_start).binds fun _ _ _ _ _ _ us hl => match us, hl with | [_], _ => rfl⟩
    f_is_queue := ⟨_, _, fun_mk l_is_queue d_is_queue k_is_queue, PySem.W.mg_of X G n_is_queue, (fun_mk (st := tS 23) l_is_queue d_is_queue k_is_queue).binds fun _ _ _ _ _ _ us hl => match us, hl with | [_, _], _ => rfl⟩
    f_is_graph := ⟨_, _, fun_mk l_is_graph d_is_graph k_is_graph, PySem.W.mg_of X G n_is_graph, (fun_mk (st := tS 24) l_is_graph d_is_graph k_is_graph).binds fun _ _ _ _ _ _ us hl => match us, hl with | [_], _ => rfl⟩
    f_check_graph := ⟨_, _, fun_mk l_check_graph d_check_graph k_check_graph, PySem.W.mg_of X G n_check_graph, (fun_mk (st := tS 25) l_check_graph d_check_graph k_check_graph).binds fun _ _ _ _ _ _ us hl => match us, hl with | [_], _ => rfl⟩
    f_key_values := ⟨_, _, fun_mk l_key_values d_key_values k_key_values, PySem.W.mg_of X G n_key_values, (fun_mk (st := tS 29) l_key_values d_key_values k_key_values).binds fun _ _ _ _ _ _ us hl => match us, hl with | [_], _ => rfl⟩
    f_number_of := ⟨_, _, fun_mk l_number_of d_number_of k_number_of, PySem.W.mg_of X G n_number_of, (fun_mk (st := tS 30) l_number_of d_number_of k_number_of).binds fun _ _ _ _ _ _ us hl => match us, hl with | [_], _ => rfl⟩
    f_numbers_of := ⟨_, _, fun_mk l_numbers_of d_numbers_of k_numbers_of, PySem.W.mg_of X G n_numbers_of, (fun_mk (st := tS 31) l_numbers_of d_numbers_of k_numbers_of).binds fun _ _ _ _ _ _ us hl => match us, hl with | [_], _ => rfl⟩
    f_joined_words := ⟨_, _, fun_mk l_joined_words d_joined_words k_joined_words, PySem.W.mg_of X G n_joined_words, (fun_mk (st := tS 32) l_joined_words d_joined_words k_joined_words).binds fun _ _ _ _ _ _ us hl => match us, hl with | [_, _], _ => rfl⟩
    f_block_line := ⟨_, _, fun_mk l_block_line d_block_line k_block_line, PySem.W.mg_of X G n_block_line, (fun_mk (st := tS 33) l_block_line d_block_line k_block_line).binds fun _ _ _ _ _ _ us hl => match us, hl with | [_], _ => rfl⟩
    f_queue_line := ⟨_, _, fun_mk l_queue_line d_queue_line k_queue_line, PySem.W.mg_of X G n_queue_line, (fun_mk (st := tS 34) l_queue_line d_queue_line k_queue_line).binds fun _ _ _ _ _ _ us hl => match us, hl with | [_, _, _, _, _], _ => rfl⟩
    f_graph_text := ⟨_, _, fun_mk l_graph_text d_graph_text k_graph_text, PySem.W.mg_of X G n_graph_text, (fun_mk (st := tS 35) l_graph_text d_graph_text k_graph_text).binds fun _ _ _ _ _ _ us hl => match us, hl with | [_], _ => rfl⟩
    f_text_lines := ⟨_, _, fun_mk l_text_lines d_text_lines k_text_lines, PySem.W.mg_of X G n_text_lines, (fun_mk (st := tS 36) l_text_lines d_text_lines k_text_lines).binds fun _ _ _ _ _ _ us hl => match us, hl with | [_], _ => rfl⟩
    f_place_behind := ⟨_, _, fun_mk l_place_behind d_place_behind k_place_behind, PySem.W.mg_of X G n_place_behind, (fun_mk (st := tS 37) l_place_behind d_place_behind k_place_behind).binds fun _ _ _ _ _ _ us hl => match us, hl with | [_, _, _], _ => rfl⟩
    f_read_block := ⟨_, _, fun_mk l_read_block d_read_block k_read_block, PySem.W.mg_of X G n_read_block, (fun_mk (st := tS 38) l_read_block d_read_block k_read_block).binds fun _ _ _ _ _ _ us hl => match us, hl with | [_, _, _], _ => rfl⟩
    f_queue_parts := ⟨_, _, fun_mk l_queue_parts d_queue_parts k_queue_parts, PySem.W.mg_of X G n_queue_parts, (fun_mk (st := tS 39) l_queue_parts d_queue_parts k_queue_parts).binds fun _ _ _ _ _ _ us hl => match us, hl with | [_, _], _ => rfl⟩
    f_number_in := ⟨_, _, fun_mk l_number_in d_number_in k_number_in, PySem.W.mg_of X G n_number_in, (fun_mk (st := tS 40) l_number_in d_number_in k_number_in).binds fun _ _ _ _ _ _ us hl => match us, hl with | [_, _, _], _ => rfl⟩
    f_read_queue := ⟨_, _, fun_mk l_read_queue d_read_queue k_read_queue, PySem.W.mg_of X G n_read_queue, (fun_mk (st := tS 41) l_read_queue d_read_queue k_read_queue).binds fun _ _ _ _ _ _ us hl => match us, hl with | [_, _, _, _], _ => rfl⟩
    f_read_graph := ⟨_, _, fun_mk l_read_graph d_read_graph k_read_graph, PySem.W.mg_of X G n_read_graph, (fun_mk (st := tS 42) l_read_graph d_read_graph k_read_graph).binds fun _ _ _ _ _ _ us hl => match us, hl with | [_], _ => rfl⟩
    f_L_begin := ⟨_, _, fun_mk l_L_begin d_L_begin k_L_begin, PySem.W.mg_of X G n_L_begin, (fun_mk (st := tS 44) l_L_begin d_L_begin k_L_begin).binds fun _ _ _ _ _ _ us hl => match us, hl with | [_], _ => rfl⟩
    f_L_draw := ⟨_, _, fun_mk l_L_draw d_L_draw k_L_draw, PySem.W.mg_of X G n_L_draw, (fun_mk (st := tS 45) l_L_draw d_L_draw k_L_draw).binds fun _ _ _ _ _ _ us hl => match us, hl with | [_, _], _ => rfl⟩
    f_L_pick := ⟨_, _, fun_mk l_L_pick d_L_pick k_L_pick, PySem.W.mg_of X G n_L_pick, (fun_mk (st := tS 46) l_L_pick d_L_pick k_L_pick).binds fun _ _ _ _ _ _ us hl => match us, hl with | [_, _], _ => rfl⟩
    f_L_rare := ⟨_, _, fun_mk l_L_rare d_L_rare k_L_rare, PySem.W.mg_of X G n_L_rare, (fun_mk (st := tS 47) l_L_rare d_L_rare k_L_rare).binds fun _ _ _ _ _ _ us hl => match us, hl with | [_, _], _ => rfl⟩
    f_L_shuffled := ⟨_, _, fun_mk l_L_shuffled d_L_shuffled k_L_shuffled, PySem.W.mg_of X G n_L_shuffled, (fun_mk (st := tS 48) l_L_shuffled d_L_shuffled k_L_shuffled).binds fun _ _ _ _ _ _ us hl => match us, hl with | [_, _], _ => rfl⟩
    f_L_pool := ⟨_, _, fun_mk l_L_pool d_L_pool k_L_pool, PySem.W.mg_of X G n_L_pool, (fun_mk (st := tS 49) l_L_pool d_L_pool k_L_pool).binds fun _ _ _ _ _ _ us hl => match us, hl with | [], _ => rfl⟩
    f_L_is_int := ⟨_, _, fun_mk l_L_is_int d_L_is_int k_L_is_int, PySem.W.mg_of X G n_L_is_int, (fun_mk (st := tS 50) l_L_is_int d_L_is_int k_L_is_int).binds fun _ _ _ _ _ _ us hl => match us, hl with | [_], _ => rfl⟩
    f_L_free_number := ⟨_, _, fun_mk l_L_free_number d_L_free_number k_L_free_number, PySem.W.mg_of X G n_L_free_number, (fun_mk (st := tS 51) l_L_free_number d_L_free_number k_L_free_number).binds fun _ _ _ _ _ _ us hl => match us, hl with | [_, _], _ => rfl⟩
    f_L_free_numbers := ⟨_, _, fun_mk l_L_free_numbers d_L_free_numbers k_L_free_numbers, PySem.W.mg_of X G n_L_free_numbers, (fun_mk (st := tS 52) l_L_free_numbers d_L_free_numbers k_L_free_numbers).binds fun _ _ _ _ _ _ us hl => match us, hl with | [_, _, _], _ => rfl⟩
    f_L_key_words := ⟨_, _, fun_mk l_L_key_words d_L_key_words k_L_key_words, PySem.W.mg_of X G n_L_key_words, (fun_mk (st := tS 53) l_L_key_words d_L_key_words k_L_key_words).binds fun _ _ _ _ _ _ us hl => match us, hl with | [], _ => rfl⟩
    f_L_free_name := ⟨_, _, fun_mk l_L_free_name d_L_free_name k_L_free_name, PySem.W.mg_of X G n_L_free_name, (fun_mk (st := tS 54) l_L_free_name d_L_free_name k_L_free_name).binds fun _ _ _ _ _ _ us hl => match us, hl with | [_, _, _], _ => rfl⟩
    f_L_free_block := ⟨_, _, fun_mk l_L_free_block d_L_free_block k_L_free_block, PySem.W.mg_of X G n_L_free_block, (fun_mk (st := tS 55) l_L_free_block d_L_free_block k_L_free_block).binds fun _ _ _ _ _ _ us hl => match us, hl with | [_, _, _], _ => rfl⟩
    f_L_free_rates := ⟨_, _, fun_mk l_L_free_rates d_L_free_rates k_L_free_rates, PySem.W.mg_of X G n_L_free_rates, (fun_mk (st := tS 56) l_L_free_rates d_L_free_rates k_L_free_rates).binds fun _ _ _ _ _ _ us hl => match us, hl with | [_, _], _ => rfl⟩
    f_L_free_start := ⟨_, _, fun_mk l_L_free_start d_L_free_start k_L_free_start, PySem.W.mg_of X G n_L_free_start, (fun_mk (st := tS 57) l_L_free_start d_L_free_start k_L_free_start).binds fun _ _ _ _ _ _ us hl => match us, hl with | [_], _ => rfl⟩
    f_L_free_queue := ⟨_, _, fun_mk l_L_free_queue d_L_free_queue k_L_free_queue, PySem.W.mg_of X G n_L_free_queue, (fun_mk (st := tS 58) l_L_free_queue d_L_free_queue k_L_free_queue).binds fun _ _ _ _ _ _ us hl => match us, hl with | [_, _], _ => rfl⟩
    f_L_big_graph := ⟨_, _, fun_mk l_L_big_graph d_L_big_graph k_L_big_graph, PySem.W.mg_of X G n_L_big_graph, (fun_mk (st := tS 59) l_L_big_graph d_L_big_graph k_L_big_graph).binds fun _ _ _ _ _ _ us hl => match us, hl with | [_], _ => rfl⟩
    f_L_free_graph := ⟨_, _, fun_mk l_L_free_graph d_L_free_graph k_L_free_graph, PySem.W.mg_of X G n_L_free_graph, (fun_mk (st := tS 60) l_L_free_graph d_L_free_graph k_L_free_graph).binds fun _ _ _ _ _ _ us hl => match us, hl with | [_], _ => rfl⟩
    f_L_words_of := ⟨_, _, fun_mk l_L_words_of d_L_words_of k_L_words_of, PySem.W.mg_of X G n_L_words_of, (fun_mk (st := tS 61) l_L_words_of d_L_words_of k_L_words_of).binds fun _ _ _ _ _ _ us hl => match us, hl with | [_], _ => rfl⟩
    f_L_block_words := ⟨_, _, fun_mk l_L_block_words d_L_block_words k_L_block_words, PySem.W.mg_of X G n_L_block_words, (fun_mk (st := tS 62) l_L_block_words d_L_block_words k_L_block_words).binds fun _ _ _ _ _ _ us hl => match us, hl with | [_], _ => rfl⟩
    f_L_queue_words := ⟨_, _, fun_mk l_L_queue_words d_L_queue_words k_L_queue_words, PySem.W.mg_of X G n_L_queue_words, (fun_mk (st := tS 63) l_L_queue_words d_L_queue_words k_L_queue_words).binds fun _ _ _ _ _ _ us hl => match us, hl with | [_, _, _, _], _ => rfl⟩
    f_L_graph_lines := ⟨_, _, fun_mk l_L_graph_lines d_L_graph_lines k_L_graph_lines, PySem.W.mg_of X G n_L_graph_lines, (fun_mk (st := tS 64) l_L_graph_lines d_L_graph_lines k_L_graph_lines).binds fun _ _ _ _ _ _ us hl => match us, hl with | [_], _ => rfl⟩
    f_L_text := ⟨_, _, fun_mk l_L_text d_L_text k_L_text, PySem.W.mg_of X G n_L_text, (fun_mk (st := tS 65) l_L_text d_L_text k_L_text).binds fun _ _ _ _ _ _ us hl => match us, hl with | [_], _ => rfl⟩
    f_L_near := ⟨_, _, fun_mk l_L_near d_L_near k_L_near, PySem.W.mg_of X G n_L_near, (fun_mk (st := tS 66) l_L_near d_L_near k_L_near).binds fun _ _ _ _ _ _ us hl => match us, hl with | [_, _], _ => rfl⟩
    f_L_alike := ⟨_, _, fun_mk l_L_alike d_L_alike k_L_alike, PySem.W.mg_of X G n_L_alike, (fun_mk (st := tS 67) l_L_alike d_L_alike k_L_alike).binds fun _ _ _ _ _ _ us hl => match us, hl with | [_, _], _ => rfl⟩
    f_L_there_and_back := ⟨_, _, fun_mk l_L_there_and_back d_L_there_and_back k_L_there_and_back, PySem.W.mg_of X G n_L_there_and_back, (fun_mk (st := tS 68) l_L_there_and_back d_L_there_and_back k_L_there_and_back).binds fun _ _ _ _ _ _ us hl => match us, hl with | [_], _ => rfl⟩
    f_L_refused := ⟨_, _, fun_mk l_L_refused d_L_refused k_L_refused, PySem.W.mg_of X G n_L_refused, (fun_mk (st := tS 69) l_L_refused d_L_refused k_L_refused).binds fun _ _ _ _ _ _ us hl => match us, hl with | [_], _ => rfl⟩
    f_law := ⟨_, _, fun_mk l_law d_law k_law, PySem.W.mg_of X G n_law, (fun_mk (st := tS 70) l_law d_law k_law).binds fun _ _ _ _ _ _ us hl => match us, hl with | [_], _ => rfl⟩
  }
  exact (fn_law T (fun_mk l_law d_law k_law)).imp (fun vs H Q E h => law_sp plain_law vs H Q E h)
end K02
open PySem PySem.W PyProof.Rows
set_option maxHeartbeats 0 in
theorem PySem.Challenge.cw_ratewarrant_k02_whole_read_back_holds : PySem.Challenge.rw_ratewarrant_k02_whole_read_back.Holds := by
  w_on; o_law; k_head; (case hw => w_witness2)
  k_fill
  refine L2.walk_of (l := PySem.Challenge.rw_ratewarrant_k02_whole_read_back) (n := 63) (k := 11) (x := "script") (CX := fun w => L2.CX PySem.Challenge.rw_ratewarrant_k02_whole_read_back.prog w) (sp := fun w => Bv.spLawB _) rfl (by decide) rfl ⟨rfl, by decide, by decide⟩ (fun w h Y => PySem.W.kIn_of Y) ?F (fun _ _ a ns hl _ hS => ⟨a, ns, rfl, hS, hl, fun _ => rfl⟩) (fun w H s e s' h => Bv.no_cx H s e s' h)
  case F =>
    intro w mg fa h KX G hmg
    refine' K02.all_mk KX G hmg ?z_ValueError ?z_abs ?z_all ?z_bool ?z_enumerate ?z_int ?z_isinstance ?z_len ?z_list ?z_min ?z_range ?z_str ?z_sum ?z_tuple ?v_FIGURES ?v_LETTERS ?v_MODULUS ?v_MOST_BLOCKS ?v_MOST_NAME ?v_MOST_PHASES ?v_MOST_QUEUES ?v_MOST_RATE ?v_MOST_START ?v_MOST_TEXT ?v_MOST_TIME ?v_SIGNS ?w_BadLine ?w_BadThing ?w_RateError ?z_super ?z_any ?hn0 ?ht0 ?eC_BadLine ?tC_BadLine ?hC_BadLine ?eC_BadThing ?tC_BadThing ?hC_BadThing ?eC_RateError ?tC_RateError ?hC_RateError ?ga_BadLine ?gg_BadLine ?gc_BadLine ?mo_BadLine ?ga_BadThing ?gg_BadThing ?gc_BadThing ?mo_BadThing ?ij_BadLine ?li_BadLine ?ci_BadLine ?co_BadLine ?vf_BadLine ?ff_BadLine ?cx_BadLine ?ti_BadLine ?xL_BadLine ?rf_BadLine ?sa_BadLine ?kC_BadLine ?mi_BadLine ?su_BadLine ?ve_BadLine ?ii_BadLine ?nf_BadLine_row ?nf_BadLine_reason ?ij_BadThing ?li_BadThing ?ci_BadThing ?co_BadThing ?vf_BadThing ?ff_BadThing ?cx_BadThing ?ti_BadThing ?xL_BadThing ?rf_BadThing ?sa_BadThing ?kC_BadThing ?mi_BadThing ?su_BadThing ?ve_BadThing ?ii_BadThing ?nf_BadThing_part ?sb_BadLine_BadThing ?sb_BadThing_BadLine ?sb_BadThing_BadThing ?sb_BadThing_RateError ?kt_BadThing_BadLine ?kt_BadThing_RateError ?kt_BadThing_ValueError ?n_whole ?l_whole ?d_whole ?k_whole ?n_is_numbers ?l_is_numbers ?d_is_numbers ?k_is_numbers ?n_is_name ?l_is_name ?d_is_name ?k_is_name ?n_is_times ?l_is_times ?d_is_times ?k_is_times ?n_is_deed ?l_is_deed ?d_is_deed ?k_is_deed ?n_is_block ?l_is_block ?d_is_block ?k_is_block ?n_is_rates ?l_is_rates ?d_is_rates ?k_is_rates ?n_is_start ?l_is_start ?d_is_start ?k_is_start ?n_is_queue ?l_is_queue ?d_is_queue ?k_is_queue ?n_is_graph ?l_is_graph ?d_is_graph ?k_is_graph ?n_check_graph ?l_check_graph ?d_check_graph ?k_check_graph ?n_key_values ?l_key_values ?d_key_values ?k_key_values ?n_number_of ?l_number_of ?d_number_of ?k_number_of ?n_numbers_of ?l_numbers_of ?d_numbers_of ?k_numbers_of ?n_joined_words ?l_joined_words ?d_joined_words ?k_joined_words ?n_block_line ?l_block_line ?d_block_line ?k_block_line ?n_queue_line ?l_queue_line ?d_queue_line ?k_queue_line ?n_graph_text ?l_graph_text ?d_graph_text ?k_graph_text ?n_text_lines ?l_text_lines ?d_text_lines ?k_text_lines ?n_place_behind ?l_place_behind ?d_place_behind ?k_place_behind ?n_read_block ?l_read_block ?d_read_block ?k_read_block ?n_queue_parts ?l_queue_parts ?d_queue_parts ?k_queue_parts ?n_number_in ?l_number_in ?d_number_in ?k_number_in ?n_read_queue ?l_read_queue ?d_read_queue ?k_read_queue ?n_read_graph ?l_read_graph ?d_read_graph ?k_read_graph ?n_L_begin ?l_L_begin ?d_L_begin ?k_L_begin ?n_L_draw ?l_L_draw ?d_L_draw ?k_L_draw ?n_L_pick ?l_L_pick ?d_L_pick ?k_L_pick ?n_L_rare ?l_L_rare ?d_L_rare ?k_L_rare ?n_L_shuffled ?l_L_shuffled ?d_L_shuffled ?k_L_shuffled ?n_L_pool ?l_L_pool ?d_L_pool ?k_L_pool ?n_L_is_int ?l_L_is_int ?d_L_is_int ?k_L_is_int ?n_L_free_number ?l_L_free_number ?d_L_free_number ?k_L_free_number ?n_L_free_numbers ?l_L_free_numbers ?d_L_free_numbers ?k_L_free_numbers ?n_L_key_words ?l_L_key_words ?d_L_key_words ?k_L_key_words ?n_L_free_name ?l_L_free_name ?d_L_free_name ?k_L_free_name ?n_L_free_block ?l_L_free_block ?d_L_free_block ?k_L_free_block ?n_L_free_rates ?l_L_free_rates ?d_L_free_rates ?k_L_free_rates ?n_L_free_start ?l_L_free_start ?d_L_free_start ?k_L_free_start ?n_L_free_queue ?l_L_free_queue ?d_L_free_queue ?k_L_free_queue ?n_L_big_graph ?l_L_big_graph ?d_L_big_graph ?k_L_big_graph ?n_L_free_graph ?l_L_free_graph ?d_L_free_graph ?k_L_free_graph ?n_L_words_of ?l_L_words_of ?d_L_words_of ?k_L_words_of ?n_L_block_words ?l_L_block_words ?d_L_block_words ?k_L_block_words ?n_L_queue_words ?l_L_queue_words ?d_L_queue_words ?k_L_queue_words ?n_L_graph_lines ?l_L_graph_lines ?d_L_graph_lines ?k_L_graph_lines ?n_L_text ?l_L_text ?d_L_text ?k_L_text ?n_L_near ?l_L_near ?d_L_near ?k_L_near ?n_L_alike ?l_L_alike ?d_L_alike ?k_L_alike ?n_L_there_and_back ?l_L_there_and_back ?d_L_there_and_back ?k_L_there_and_back ?n_L_refused ?l_L_refused ?d_L_refused ?k_L_refused ?n_law ?l_law ?d_law ?k_law
    (case z_ValueError => k_is)
    (case z_abs => k_is)
    (case z_all => k_is)
    (case z_bool => k_is)
    (case z_enumerate => k_is)
    (case z_int => k_is)
    (case z_isinstance => k_is)
    (case z_len => k_is)
    (case z_list => k_is)
    (case z_min => k_is)
    (case z_range => k_is)
    (case z_str => k_is)
    (case z_sum => k_is)
    (case z_tuple => k_is)
    (case v_FIGURES => k_is)
    (case v_LETTERS => k_is)
    (case v_MODULUS => k_is)
    (case v_MOST_BLOCKS => k_is)
    (case v_MOST_NAME => k_is)
    (case v_MOST_PHASES => k_is)
    (case v_MOST_QUEUES => k_is)
    (case v_MOST_RATE => k_is)
    (case v_MOST_START => k_is)
    (case v_MOST_TEXT => k_is)
    (case v_MOST_TIME => k_is)
    (case v_SIGNS => k_is)
    (case w_BadLine => k_is)
    (case w_BadThing => k_is)
    (case w_RateError => k_is)
    (case z_super => k_is)
    (case z_any => k_is)
    (case hn0 => k_is)
    (case ht0 => k_is)
    (case eC_BadLine => k_is)
    (case tC_BadLine => k_is)
    (case hC_BadLine => k_is)
    (case eC_BadThing => k_is)
    (case tC_BadThing => k_is)
    (case hC_BadThing => k_is)
    (case eC_RateError => k_is)
    (case tC_RateError => k_is)
    (case hC_RateError => k_is)
    (case ga_BadLine => k_is)
    (case gg_BadLine => k_is)
    (case gc_BadLine => k_is)
    (case mo_BadLine => k_is)
    (case ga_BadThing => k_is)
    (case gg_BadThing => k_is)
    (case gc_BadThing => k_is)
    (case mo_BadThing => k_is)
    (case ij_BadLine => k_is)
    (case li_BadLine => k_is)
    (case ci_BadLine => k_is)
    (case co_BadLine => k_is)
    (case vf_BadLine => first | rfl | k_is)
    (case ff_BadLine => first | rfl | decide +kernel | k_is)
    (case cx_BadLine => k_is)
    (case ti_BadLine => k_is)
    (case xL_BadLine => k_is)
    (case rf_BadLine => first | rfl | decide +kernel | k_is)
    (case sa_BadLine => k_is)
    (case kC_BadLine => k_is)
    (case mi_BadLine => k_is)
    (case su_BadLine => first | rfl | kernel_rfl | k_is)
    (case ve_BadLine => k_is)
    (case ii_BadLine => k_is)
    (case nf_BadLine_row => k_is)
    (case nf_BadLine_reason => k_is)
    (case ij_BadThing => k_is)
    (case li_BadThing => k_is)
    (case ci_BadThing => k_is)
    (case co_BadThing => k_is)
    (case vf_BadThing => first | rfl | k_is)
    (case ff_BadThing => first | rfl | decide +kernel | k_is)
    (case cx_BadThing => k_is)
    (case ti_BadThing => k_is)
    (case xL_BadThing => k_is)
    (case rf_BadThing => first | rfl | decide +kernel | k_is)
    (case sa_BadThing => k_is)
    (case kC_BadThing => k_is)
    (case mi_BadThing => k_is)
    (case su_BadThing => first | rfl | kernel_rfl | k_is)
    (case ve_BadThing => k_is)
    (case ii_BadThing => k_is)
    (case nf_BadThing_part => k_is)
    (case sb_BadLine_BadThing => first | rfl | k_is | decide +kernel)
    (case sb_BadThing_BadLine => first | rfl | k_is | decide +kernel)
    (case sb_BadThing_BadThing => first | rfl | k_is | decide +kernel)
    (case sb_BadThing_RateError => first | rfl | k_is | decide +kernel)
    (case kt_BadThing_BadLine => first | rfl | k_is | decide +kernel)
    (case kt_BadThing_RateError => first | rfl | k_is | decide +kernel)
    (case kt_BadThing_ValueError => first | rfl | k_is | decide +kernel)
    (case n_whole => k_is)
    (case l_whole => k_is)
    (case d_whole => k_is)
    (case k_whole => k_is)
    (case n_is_numbers => k_is)
    (case l_is_numbers => k_is)
    (case d_is_numbers => k_is)
    (case k_is_numbers => k_is)
    (case n_is_name => k_is)
    (case l_is_name => k_is)
    (case d_is_name => k_is)
    (case k_is_name => k_is)
    (case n_is_times => k_is)
    (case l_is_times => k_is)
    (case d_is_times => k_is)
    (case k_is_times => k_is)
    (case n_is_deed => k_is)
    (case l_is_deed => k_is)
    (case d_is_deed => k_is)
    (case k_is_deed => k_is)
    (case n_is_block => k_is)
    (case l_is_block => k_is)
    (case d_is_block => k_is)
    (case k_is_block => k_is)
    (case n_is_rates => k_is)
    (case l_is_rates => k_is)
    (case d_is_rates => k_is)
    (case k_is_rates => k_is)
    (case n_is_start => k_is)
    (case l_is_start => k_is)
    (case d_is_start => k_is)
    (case k_is_start => k_is)
    (case n_is_queue => k_is)
    (case l_is_queue => k_is)
    (case d_is_queue => k_is)
    (case k_is_queue => k_is)
    (case n_is_graph => k_is)
    (case l_is_graph => k_is)
    (case d_is_graph => k_is)
    (case k_is_graph => k_is)
    (case n_check_graph => k_is)
    (case l_check_graph => k_is)
    (case d_check_graph => k_is)
    (case k_check_graph => k_is)
    (case n_key_values => k_is)
    (case l_key_values => k_is)
    (case d_key_values => k_is)
    (case k_key_values => k_is)
    (case n_number_of => k_is)
    (case l_number_of => k_is)
    (case d_number_of => k_is)
    (case k_number_of => k_is)
    (case n_numbers_of => k_is)
    (case l_numbers_of => k_is)
    (case d_numbers_of => k_is)
    (case k_numbers_of => k_is)
    (case n_joined_words => k_is)
    (case l_joined_words => k_is)
    (case d_joined_words => k_is)
    (case k_joined_words => k_is)
    (case n_block_line => k_is)
    (case l_block_line => k_is)
    (case d_block_line => k_is)
    (case k_block_line => k_is)
    (case n_queue_line => k_is)
    (case l_queue_line => k_is)
    (case d_queue_line => k_is)
    (case k_queue_line => k_is)
    (case n_graph_text => k_is)
    (case l_graph_text => k_is)
    (case d_graph_text => k_is)
    (case k_graph_text => k_is)
    (case n_text_lines => k_is)
    (case l_text_lines => k_is)
    (case d_text_lines => k_is)
    (case k_text_lines => k_is)
    (case n_place_behind => k_is)
    (case l_place_behind => k_is)
    (case d_place_behind => k_is)
    (case k_place_behind => k_is)
    (case n_read_block => k_is)
    (case l_read_block => k_is)
    (case d_read_block => k_is)
    (case k_read_block => k_is)
    (case n_queue_parts => k_is)
    (case l_queue_parts => k_is)
    (case d_queue_parts => k_is)
    (case k_queue_parts => k_is)
    (case n_number_in => k_is)
    (case l_number_in => k_is)
    (case d_number_in => k_is)
    (case k_number_in => k_is)
    (case n_read_queue => k_is)
    (case l_read_queue => k_is)
    (case d_read_queue => k_is)
    (case k_read_queue => k_is)
    (case n_read_graph => k_is)
    (case l_read_graph => k_is)
    (case d_read_graph => k_is)
    (case k_read_graph => k_is)
    (case n_L_begin => k_is)
    (case l_L_begin => k_is)
    (case d_L_begin => k_is)
    (case k_L_begin => k_is)
    (case n_L_draw => k_is)
    (case l_L_draw => k_is)
    (case d_L_draw => k_is)
    (case k_L_draw => k_is)
    (case n_L_pick => k_is)
    (case l_L_pick => k_is)
    (case d_L_pick => k_is)
    (case k_L_pick => k_is)
    (case n_L_rare => k_is)
    (case l_L_rare => k_is)
    (case d_L_rare => k_is)
    (case k_L_rare => k_is)
    (case n_L_shuffled => k_is)
    (case l_L_shuffled => k_is)
    (case d_L_shuffled => k_is)
    (case k_L_shuffled => k_is)
    (case n_L_pool => k_is)
    (case l_L_pool => k_is)
    (case d_L_pool => k_is)
    (case k_L_pool => k_is)
    (case n_L_is_int => k_is)
    (case l_L_is_int => k_is)
    (case d_L_is_int => k_is)
    (case k_L_is_int => k_is)
    (case n_L_free_number => k_is)
    (case l_L_free_number => k_is)
    (case d_L_free_number => k_is)
    (case k_L_free_number => k_is)
    (case n_L_free_numbers => k_is)
    (case l_L_free_numbers => k_is)
    (case d_L_free_numbers => k_is)
    (case k_L_free_numbers => k_is)
    (case n_L_key_words => k_is)
    (case l_L_key_words => k_is)
    (case d_L_key_words => k_is)
    (case k_L_key_words => k_is)
    (case n_L_free_name => k_is)
    (case l_L_free_name => k_is)
    (case d_L_free_name => k_is)
    (case k_L_free_name => k_is)
    (case n_L_free_block => k_is)
    (case l_L_free_block => k_is)
    (case d_L_free_block => k_is)
    (case k_L_free_block => k_is)
    (case n_L_free_rates => k_is)
    (case l_L_free_rates => k_is)
    (case d_L_free_rates => k_is)
    (case k_L_free_rates => k_is)
    (case n_L_free_start => k_is)
    (case l_L_free_start => k_is)
    (case d_L_free_start => k_is)
    (case k_L_free_start => k_is)
    (case n_L_free_queue => k_is)
    (case l_L_free_queue => k_is)
    (case d_L_free_queue => k_is)
    (case k_L_free_queue => k_is)
    (case n_L_big_graph => k_is)
    (case l_L_big_graph => k_is)
    (case d_L_big_graph => k_is)
    (case k_L_big_graph => k_is)
    (case n_L_free_graph => k_is)
    (case l_L_free_graph => k_is)
    (case d_L_free_graph => k_is)
    (case k_L_free_graph => k_is)
    (case n_L_words_of => k_is)
    (case l_L_words_of => k_is)
    (case d_L_words_of => k_is)
    (case k_L_words_of => k_is)
    (case n_L_block_words => k_is)
    (case l_L_block_words => k_is)
    (case d_L_block_words => k_is)
    (case k_L_block_words => k_is)
    (case n_L_queue_words => k_is)
    (case l_L_queue_words => k_is)
    (case d_L_queue_words => k_is)
    (case k_L_queue_words => k_is)
    (case n_L_graph_lines => k_is)
    (case l_L_graph_lines => k_is)
    (case d_L_graph_lines => k_is)
    (case k_L_graph_lines => k_is)
    (case n_L_text => k_is)
    (case l_L_text => k_is)
    (case d_L_text => k_is)
    (case k_L_text => k_is)
    (case n_L_near => k_is)
    (case l_L_near => k_is)
    (case d_L_near => k_is)
    (case k_L_near => k_is)
    (case n_L_alike => k_is)
    (case l_L_alike => k_is)
    (case d_L_alike => k_is)
    (case k_L_alike => k_is)
    (case n_L_there_and_back => k_is)
    (case l_L_there_and_back => k_is)
    (case d_L_there_and_back => k_is)
    (case k_L_there_and_back => k_is)
    (case n_L_refused => k_is)
    (case l_L_refused => k_is)
    (case d_L_refused => k_is)
    (case k_L_refused => k_is)
    (case n_law => k_is)
    (case l_law => k_is)
    (case d_law => k_is)
    (case k_law => k_is)
