import PyProof.Rows.All
import Wide.All
import OpenK.AllK
import Wide.FinOn
import HandS.ForMost
import HandS.Exc
import HandS.TryOnly
import HandS.CallSlots
import HandS.Wide
import HandS.WideBits
import HandS.TupAny
import HandS.TupMul
import HandS.IsInst
import HandS.Style
import HandS.SortInts
import HandS.Conv
import HandS.Deep
import HandS.Text
import HandS.ExcOwn
import HandS.Iter
import HandS.Zip
import HandS.WordsExc
import HandS.SetBool
import HandS.SetKeys
import HandS.ExcInit
import KE.KExcSuper
import KE.KSuper
import HandS.ExcField
import KE.KExcIs
import HandS.ExcIs
import PyProof.StrOps2
import PyProof.SumWalkG
import PyProof.WalksMore
import HandS.More
import HandS.Replace
import KE.DataMinMax
import HandS.HotCalls
import KE.GoesMore
import HandS.TupLe
import HandS.Codes
import PySem.Challenge.RW_ratewarrant_k04_rates_before_and_makers
set_option Elab.async false
set_option linter.all false
set_option maxRecDepth 100000
set_option maxHeartbeats 4000000
namespace Bv
open PySem PySem.Spec PyProof.Rows L2
/-! ### values -/
inductive PV where
  | non
  | bl (b : Bool)
  | int (i : Int)
  | str (s : Str)
  | tup (xs : List PV)
  | lst (o : Bool) (xs : List PV)
  | dK (kvs : List (Key × PV))
  | dT (kvs : List (List Key × PV))
  | sK (ks : List Key)
  deriving Inhabited
mutual
def PV.own : PV → Bool
  | .tup xs => PV.owns xs
  | .lst o xs => o || PV.owns xs
  | .dK _ => true
  | .dT _ => true
  | .sK _ => true
  | _ => false
def PV.owns : List PV → Bool
  | [] => false
  | x :: r => x.own || PV.owns r
end
abbrev Fp := Addr → Nat
def one (a : Addr) : Fp := fun b => if b = a then 1 else 0
theorem one_self (a : Addr) : one a a = 1 := if_pos rfl
theorem one_ne {a b : Addr} (h : b ≠ a) : one a b = 0 := if_neg h
def FzL (K : PySem.W.Frag) (H : Hp) (a : Addr) (xs : List V) : Prop :=
  (∃ o, H a = some (.frz o (.lst xs))) ∨
    ∃ (o : Obj) (its : Array Value) (n : Nat), K.lookup a = some o ∧ o.cls = .type "list" ∧ o.dict = none ∧ o.data = .seq its n ∧ its.size ≤ sizeLine ∧ Vals xs its.toList
mutual
def Rep (K : PySem.W.Frag) (H : Hp) : PV → V → Fp → Prop
  | .non, v, f => v = .non ∧ ∀ b, f b = 0
  | .bl k, v, f => v = .bl k ∧ ∀ b, f b = 0
  | .int i, v, f => v = .int i ∧ ∀ b, f b = 0
  | .str x, v, f => v = .str x ∧ ∀ b, f b = 0
  | .tup xs, v, f => ∃ a vs, v = .ref a ∧ SqT K H a vs ∧ xs.length ≤ sizeLine ∧ Reps K H xs vs f
  | .lst true xs, v, f => ∃ a vs g, v = .ref a ∧ H a = some (.lst vs) ∧ xs.length ≤ sizeLine ∧ Reps K H xs vs g ∧ ∀ b, f b = g b + one a b
  | .lst false xs, v, f => ∃ a vs, v = .ref a ∧ FzL K H a vs ∧ xs.length ≤ sizeLine ∧ Reps K H xs vs f ∧ ∀ b, f b = 0
  | .dK kvs, v, f => ∃ a ws g, v = .ref a ∧ H a = some (.dK ws) ∧ kvs.length ≤ sizeLine ∧ RepK K H kvs ws g ∧ ∀ b, f b = g b + one a b
  | .dT kvs, v, f => ∃ a ws g, v = .ref a ∧ H a = some (.dT ws) ∧ kvs.length ≤ sizeLine ∧ RepT K H kvs ws g ∧ ∀ b, f b = g b + one a b
  | .sK _, _, _ => False
def Reps (K : PySem.W.Frag) (H : Hp) : List PV → List V → Fp → Prop
  | [], vs, f => vs = [] ∧ ∀ b, f b = 0
  | x :: xs, vs, f => ∃ v ws g h, vs = v :: ws ∧ Rep K H x v g ∧ Reps K H xs ws h ∧ ∀ b, f b = g b + h b
def RepK (K : PySem.W.Frag) (H : Hp) : List (Key × PV) → List (Key × V) → Fp → Prop
  | [], vs, f => vs = [] ∧ ∀ b, f b = 0
  | (k, x) :: xs, vs, f => ∃ v ws g h, vs = (k, v) :: ws ∧ Rep K H x v g ∧ RepK K H xs ws h ∧ ∀ b, f b = g b + h b
def RepT (K : PySem.W.Frag) (H : Hp) : List (List Key × PV) → List (List Key × V) → Fp → Prop
  | [], vs, f => vs = [] ∧ ∀ b, f b = 0
  | (k, x) :: xs, vs, f => ∃ v ws g h, vs = (k, v) :: ws ∧ Rep K H x v g ∧ RepT K H xs ws h ∧ ∀ b, f b = g b + h b
end
/-- what stands at an owned address -/
def MutA (H : Hp) (b : Addr) : Prop := ∃ o, H b = some o ∧ (match o with | .lst _ => True | .dK _ => True | .dT _ => True | .ext _ => True | _ => False)
section
variable {K : PySem.W.Frag} {H H' : Hp}
mutual
theorem Rep.mut : ∀ {x : PV} {v : V} {f : Fp} {b : Addr}, Rep K H x v f → f b ≠ 0 → MutA H b
  | .non, v, f, b, h, n => absurd (h.2 b) n
  | .bl _, v, f, b, h, n => absurd (h.2 b) n
  | .int _, v, f, b, h, n => absurd (h.2 b) n
  | .str _, v, f, b, h, n => absurd (h.2 b) n
  | .tup xs, v, f, b, h, n => by
    obtain ⟨a, vs, _, _, _, r⟩ := h
    exact Reps.mut r n
  | .lst true xs, v, f, b, h, n => by
    obtain ⟨a, vs, g, _, e, _, r, q⟩ := h
    by_cases hb : b = a
    · subst hb; exact ⟨_, e, trivial⟩
    · exact Reps.mut r (by rw [q b, one_ne hb] at n; omega)
  | .lst false xs, v, f, b, h, n => by
    obtain ⟨a, vs, _, _, _, r, q⟩ := h
    exact absurd (q b) n
  | .dK xs, v, f, b, h, n => by
    obtain ⟨a, vs, g, _, e, _, r, q⟩ := h
    by_cases hb : b = a
    · subst hb; exact ⟨_, e, trivial⟩
    · exact RepK.mut r (by rw [q b, one_ne hb] at n; omega)
  | .dT xs, v, f, b, h, n => by
    obtain ⟨a, vs, g, _, e, _, r, q⟩ := h
    by_cases hb : b = a
    · subst hb; exact ⟨_, e, trivial⟩
    · exact RepT.mut r (by rw [q b, one_ne hb] at n; omega)
  | .sK _, _, _, _, h, _ => h.elim
theorem Reps.mut : ∀ {xs : List PV} {vs : List V} {f : Fp} {b : Addr}, Reps K H xs vs f → f b ≠ 0 → MutA H b
  | [], vs, f, b, h, n => absurd (h.2 b) n
  | x :: xs, vs, f, b, h, n => by
    obtain ⟨v, ws, g, k, _, r, rs, q⟩ := h
    by_cases hg : g b = 0
    · exact Reps.mut rs (by rw [q b] at n; omega)
    · exact Rep.mut r hg
theorem RepK.mut : ∀ {xs : List (Key × PV)} {vs : List (Key × V)} {f : Fp} {b : Addr}, RepK K H xs vs f → f b ≠ 0 → MutA H b
  | [], vs, f, b, h, n => absurd (h.2 b) n
  | (k, x) :: xs, vs, f, b, h, n => by
    obtain ⟨v, ws, g, k, _, r, rs, q⟩ := h
    by_cases hg : g b = 0
    · exact RepK.mut rs (by rw [q b] at n; omega)
    · exact Rep.mut r hg
theorem RepT.mut : ∀ {xs : List (List Key × PV)} {vs : List (List Key × V)} {f : Fp} {b : Addr}, RepT K H xs vs f → f b ≠ 0 → MutA H b
  | [], vs, f, b, h, n => absurd (h.2 b) n
  | (k, x) :: xs, vs, f, b, h, n => by
    obtain ⟨v, ws, g, k, _, r, rs, q⟩ := h
    by_cases hg : g b = 0
    · exact RepT.mut rs (by rw [q b] at n; omega)
    · exact Rep.mut r hg
end
/-- what the value x leans on stands as it stood: F tells what may have changed -/
def Kept (H H' : Hp) (F : Fp) : Prop := ∀ b o, H b = some o → F b = 0 → H' b = some o
theorem Kept.refl (H : Hp) (F : Fp) : Kept H H F := fun _ _ h _ => h
theorem sqT_kept {a : Addr} {vs : List V} {F : Fp} (k : Kept H H' F) (m : ∀ b, F b ≠ 0 → MutA H b) (h : SqT K H a vs) : SqT K H' a vs := by
  have z : ∀ o, H a = some o → (match o with | .lst _ => True | .dK _ => True | .dT _ => True | .ext _ => True | _ => False) = False → H' a = some o := fun o e n => by
    refine k a o e ?_
    by_cases hF : F a = 0
    · exact hF
    · obtain ⟨o', e', q⟩ := m a hF
      rw [e] at e'; cases e'
      rw [n] at q; exact q.elim
  rcases h with (h | ⟨o, h⟩) | h
  · exact .inl (.inl (z _ h rfl))
  · exact .inl (.inr ⟨o, z _ h rfl⟩)
  · exact .inr h
theorem fzL_kept {a : Addr} {vs : List V} {F : Fp} (k : Kept H H' F) (m : ∀ b, F b ≠ 0 → MutA H b) (h : FzL K H a vs) : FzL K H' a vs := by
  rcases h with ⟨o, h⟩ | h
  · refine .inl ⟨o, k a _ h ?_⟩
    by_cases hF : F a = 0
    · exact hF
    · obtain ⟨o', e', q⟩ := m a hF
      rw [h] at e'; cases e'
      exact q.elim
  · exact .inr h
mutual
theorem Rep.kept {F : Fp} (k : Kept H H' F) (m : ∀ b, F b ≠ 0 → MutA H b) : ∀ {x : PV} {v : V} {f : Fp}, (∀ b, f b ≠ 0 → F b = 0) → Rep K H x v f → Rep K H' x v f
  | .non, v, f, d, h => h
  | .bl _, v, f, d, h => h
  | .int _, v, f, d, h => h
  | .str _, v, f, d, h => h
  | .tup xs, v, f, d, h => by
    obtain ⟨a, vs, e, t, z, r⟩ := h
    exact ⟨a, vs, e, sqT_kept k m t, z, Reps.kept k m d r⟩
  | .lst true xs, v, f, d, h => by
    obtain ⟨a, vs, g, e, t, z, r, q⟩ := h
    exact ⟨a, vs, g, e, k _ _ t (d a (by rw [q a, one_self]; omega)), z, Reps.kept k m (fun b n => d b (by rw [q b]; omega)) r, q⟩
  | .lst false xs, v, f, d, h => by
    obtain ⟨a, vs, e, t, z, r, q⟩ := h
    exact ⟨a, vs, e, fzL_kept k m t, z, Reps.kept k m d r, q⟩
  | .dK xs, v, f, d, h => by
    obtain ⟨a, vs, g, e, t, z, r, q⟩ := h
    exact ⟨a, vs, g, e, k _ _ t (d a (by rw [q a, one_self]; omega)), z, RepK.kept k m (fun b n => d b (by rw [q b]; omega)) r, q⟩
  | .dT xs, v, f, d, h => by
    obtain ⟨a, vs, g, e, t, z, r, q⟩ := h
    exact ⟨a, vs, g, e, k _ _ t (d a (by rw [q a, one_self]; omega)), z, RepT.kept k m (fun b n => d b (by rw [q b]; omega)) r, q⟩
  | .sK _, _, _, _, h => h
theorem Reps.kept {F : Fp} (k : Kept H H' F) (m : ∀ b, F b ≠ 0 → MutA H b) : ∀ {xs : List PV} {vs : List V} {f : Fp}, (∀ b, f b ≠ 0 → F b = 0) → Reps K H xs vs f → Reps K H' xs vs f
  | [], vs, f, d, h => h
  | x :: xs, vs, f, d, h => by
    obtain ⟨v, ws, g, l, e, r, rs, q⟩ := h
    exact ⟨v, ws, g, l, e, Rep.kept k m (fun b n => d b (by rw [q b]; omega)) r, Reps.kept k m (fun b n => d b (by rw [q b]; omega)) rs, q⟩
theorem RepK.kept {F : Fp} (k : Kept H H' F) (m : ∀ b, F b ≠ 0 → MutA H b) : ∀ {xs : List (Key × PV)} {vs : List (Key × V)} {f : Fp}, (∀ b, f b ≠ 0 → F b = 0) → RepK K H xs vs f → RepK K H' xs vs f
  | [], vs, f, d, h => h
  | (y, x) :: xs, vs, f, d, h => by
    obtain ⟨v, ws, g, l, e, r, rs, q⟩ := h
    exact ⟨v, ws, g, l, e, Rep.kept k m (fun b n => d b (by rw [q b]; omega)) r, RepK.kept k m (fun b n => d b (by rw [q b]; omega)) rs, q⟩
theorem RepT.kept {F : Fp} (k : Kept H H' F) (m : ∀ b, F b ≠ 0 → MutA H b) : ∀ {xs : List (List Key × PV)} {vs : List (List Key × V)} {f : Fp}, (∀ b, f b ≠ 0 → F b = 0) → RepT K H xs vs f → RepT K H' xs vs f
  | [], vs, f, d, h => h
  | (y, x) :: xs, vs, f, d, h => by
    obtain ⟨v, ws, g, l, e, r, rs, q⟩ := h
    exact ⟨v, ws, g, l, e, Rep.kept k m (fun b n => d b (by rw [q b]; omega)) r, RepT.kept k m (fun b n => d b (by rw [q b]; omega)) rs, q⟩
end
mutual
/-- a value without owned parts has no footprint -/
theorem Rep.free : ∀ {x : PV} {v : V} {f : Fp}, Rep K H x v f → x.own = false → ∀ b, f b = 0
  | .non, v, f, h, _ => h.2
  | .bl _, v, f, h, _ => h.2
  | .int _, v, f, h, _ => h.2
  | .str _, v, f, h, _ => h.2
  | .tup xs, v, f, h, n => by
    obtain ⟨a, vs, _, _, _, r⟩ := h
    exact Reps.free r (by simpa [PV.own] using n)
  | .lst true xs, v, f, h, n => by simp [PV.own] at n
  | .lst false xs, v, f, h, n => h.choose_spec.choose_spec.2.2.2.2
  | .dK _, v, f, h, n => by simp [PV.own] at n
  | .dT _, v, f, h, n => by simp [PV.own] at n
  | .sK _, _, _, h, _ => h.elim
theorem Reps.free : ∀ {xs : List PV} {vs : List V} {f : Fp}, Reps K H xs vs f → PV.owns xs = false → ∀ b, f b = 0
  | [], vs, f, h, _ => h.2
  | x :: xs, vs, f, h, n => by
    obtain ⟨v, ws, g, l, e, r, rs, q⟩ := h
    simp only [PV.owns, Bool.or_eq_false_iff] at n
    intro b
    rw [q b, Rep.free r n.1 b, Reps.free rs n.2 b]
end
theorem Reps.length : ∀ {xs : List PV} {vs : List V} {f : Fp}, Reps K H xs vs f → vs.length = xs.length
  | [], vs, f, h => by rw [h.1]; rfl
  | x :: xs, vs, f, h => by
    obtain ⟨v, ws, g, l, e, r, rs, q⟩ := h
    rw [e, List.length_cons, List.length_cons, Reps.length rs]
/-- the footprint read pointwise only -/
theorem Rep.congr : ∀ {x : PV} {v : V} {f f' : Fp}, (∀ b, f' b = f b) → Rep K H x v f → Rep K H x v f' := fun {x v f f'} e h => by
  have : f' = f := funext e
  rw [this]; exact h
theorem Reps.congr : ∀ {x : List PV} {v : List V} {f f' : Fp}, (∀ b, f' b = f b) → Reps K H x v f → Reps K H x v f' := fun {x v f f'} e h => by
  have : f' = f := funext e
  rw [this]; exact h
end
/-! ### slots -/
abbrev Sl := List (Option PV)
def SLR (K : PySem.W.Frag) (H : Hp) : Sl → L2.St → Fp → Prop
  | [], τ, f => τ = [] ∧ ∀ b, f b = 0
  | none :: r, τ, f => ∃ o t, τ = o :: t ∧ SLR K H r t f
  | some x :: r, τ, f => ∃ v t g h, τ = some v :: t ∧ Rep K H x v g ∧ SLR K H r t h ∧ ∀ b, f b = g b + h b
section
variable {K : PySem.W.Frag} {H H' : Hp}
theorem SLR.mut : ∀ {s : Sl} {τ : L2.St} {f : Fp} {b : Addr}, SLR K H s τ f → f b ≠ 0 → MutA H b
  | [], τ, f, b, h, n => absurd (h.2 b) n
  | none :: r, τ, f, b, h, n => by
    obtain ⟨o, t, _, q⟩ := h
    exact SLR.mut q n
  | some x :: r, τ, f, b, h, n => by
    obtain ⟨v, t, g, l, _, p, q, e⟩ := h
    by_cases hg : g b = 0
    · exact SLR.mut q (by rw [e b] at n; omega)
    · exact Rep.mut p hg
theorem SLR.kept {F : Fp} (k : Kept H H' F) (m : ∀ b, F b ≠ 0 → MutA H b) : ∀ {s : Sl} {τ : L2.St} {f : Fp}, (∀ b, f b ≠ 0 → F b = 0) → SLR K H s τ f → SLR K H' s τ f
  | [], τ, f, d, h => h
  | none :: r, τ, f, d, h => by
    obtain ⟨o, t, e, q⟩ := h
    exact ⟨o, t, e, SLR.kept k m d q⟩
  | some x :: r, τ, f, d, h => by
    obtain ⟨v, t, g, l, e, p, q, z⟩ := h
    exact ⟨v, t, g, l, e, Rep.kept k m (fun b n => d b (by rw [z b]; omega)) p, SLR.kept k m (fun b n => d b (by rw [z b]; omega)) q, z⟩
theorem SLR.congr {s : Sl} {τ : L2.St} {f f' : Fp} (e : ∀ b, f' b = f b) (h : SLR K H s τ f) : SLR K H s τ f' := by
  have : f' = f := funext e
  rw [this]; exact h
theorem SLR.length : ∀ {s : Sl} {τ : L2.St} {f : Fp}, SLR K H s τ f → τ.length = s.length
  | [], τ, f, h => by rw [h.1]; rfl
  | none :: r, τ, f, h => by
    obtain ⟨o, t, e, q⟩ := h
    rw [e, List.length_cons, List.length_cons, SLR.length q]
  | some x :: r, τ, f, h => by
    obtain ⟨v, t, g, l, e, p, q, z⟩ := h
    rw [e, List.length_cons, List.length_cons, SLR.length q]
/-- a slot taken out, and put in again -/
theorem SLR.take : ∀ {s : Sl} {τ : L2.St} {f : Fp} {i : Nat} {x : PV}, SLR K H s τ f → s[i]? = some (some x) →
    ∃ v g h, τ[i]? = some (some v) ∧ Rep K H x v g ∧ SLR K H (s.set i none) τ h ∧ (∀ b, f b = g b + h b)
  | [], τ, f, i, x, h, e => by simp at e
  | none :: r, τ, f, 0, x, h, e => by simp at e
  | none :: r, τ, f, i + 1, x, h, e => by
    obtain ⟨o, t, e1, q⟩ := h
    obtain ⟨v, g, l, h1, h2, h3, h4⟩ := SLR.take (i := i) (x := x) q (by simpa using e)
    exact ⟨v, g, l, by rw [e1]; simpa using h1, h2, ⟨o, t, e1, h3⟩, h4⟩
  | some y :: r, τ, f, 0, x, h, e => by
    obtain ⟨v, t, g, l, e1, p, q, z⟩ := h
    have : y = x := by simpa using e
    subst this
    exact ⟨v, g, l, by rw [e1]; rfl, p, ⟨some v, t, e1, q⟩, z⟩
  | some y :: r, τ, f, i + 1, x, h, e => by
    obtain ⟨v, t, g, l, e1, p, q, z⟩ := h
    obtain ⟨w, g', l', h1, h2, h3, h4⟩ := SLR.take (i := i) (x := x) q (by simpa using e)
    exact ⟨w, g', fun b => g b + l' b, by rw [e1]; simpa using h1, h2, ⟨v, t, g, l', e1, p, h3, fun b => rfl⟩, fun b => by dsimp only; rw [z b, h4 b]; omega⟩
theorem SLR.put : ∀ {s : Sl} {τ : L2.St} {f g : Fp} {i : Nat} {x : PV} {v : V}, SLR K H s τ f → s[i]? = some none → Rep K H x v g →
    SLR K H (s.set i (some x)) (τ.set i (some v)) (fun b => g b + f b)
  | [], τ, f, g, i, x, v, h, e, p => by simp at e
  | none :: r, τ, f, g, 0, x, v, h, e, p => by
    obtain ⟨o, t, e1, q⟩ := h
    exact ⟨v, t, g, f, by rw [e1]; rfl, p, q, fun b => rfl⟩
  | none :: r, τ, f, g, i + 1, x, v, h, e, p => by
    obtain ⟨o, t, e1, q⟩ := h
    exact ⟨o, t.set i (some v), by rw [e1]; rfl, SLR.put q (by simpa using e) p⟩
  | some y :: r, τ, f, g, 0, x, v, h, e, p => by simp at e
  | some y :: r, τ, f, g, i + 1, x, v, h, e, p => by
    obtain ⟨w, t, g', l, e1, p', q, z⟩ := h
    exact ⟨w, t.set i (some v), g', fun b => g b + l b, by rw [e1]; rfl, p', SLR.put q (by simpa using e) p, fun b => by dsimp only; rw [z b]; omega⟩
/-- a slot forgotten -/
theorem SLR.forget : ∀ {s : Sl} {τ : L2.St} {f : Fp} (i : Nat), SLR K H s τ f → ∃ h, SLR K H (s.set i none) τ h ∧ ∀ b, h b ≤ f b
  | [], τ, f, i, h => ⟨f, h, fun b => Nat.le_refl _⟩
  | none :: r, τ, f, 0, h => ⟨f, h, fun b => Nat.le_refl _⟩
  | none :: r, τ, f, i + 1, h => by
    obtain ⟨o, t, e1, q⟩ := h
    obtain ⟨l, h1, h2⟩ := SLR.forget i q
    exact ⟨l, ⟨o, t, e1, h1⟩, h2⟩
  | some y :: r, τ, f, 0, h => by
    obtain ⟨v, t, g, l, e1, p, q, z⟩ := h
    exact ⟨l, ⟨some v, t, e1, q⟩, fun b => by rw [z b]; omega⟩
  | some y :: r, τ, f, i + 1, h => by
    obtain ⟨v, t, g, l, e1, p, q, z⟩ := h
    obtain ⟨l', h1, h2⟩ := SLR.forget i q
    exact ⟨fun b => g b + l' b, ⟨v, t, g, l', e1, p, h1, fun b => rfl⟩, fun b => by dsimp only; rw [z b]; have := h2 b; omega⟩
/-- whatever the place holds that is not told -/
theorem SLR.setNone : ∀ {s : Sl} {τ : L2.St} {f : Fp} {i : Nat} (o : Option V), SLR K H s τ f → s[i]? = some none → SLR K H s (τ.set i o) f
  | [], τ, f, i, o, h, e => by simp at e
  | none :: r, τ, f, 0, o, h, e => by
    obtain ⟨o', t, e1, q⟩ := h
    exact ⟨o, t, by rw [e1]; rfl, q⟩
  | none :: r, τ, f, i + 1, o, h, e => by
    obtain ⟨o', t, e1, q⟩ := h
    exact ⟨o', t.set i o, by rw [e1]; rfl, SLR.setNone o q (by simpa using e)⟩
  | some y :: r, τ, f, 0, o, h, e => by simp at e
  | some y :: r, τ, f, i + 1, o, h, e => by
    obtain ⟨w, t, g', l, e1, p', q, z⟩ := h
    exact ⟨w, t.set i o, g', l, by rw [e1]; rfl, p', SLR.setNone o q (by simpa using e), z⟩
end
end Bv
set_option maxHeartbeats 4000000
namespace Bv
open PySem PySem.Spec PyProof.Rows L2
structure XV where
  cls : Str
  fs : List (Str × PV)
inductive R (α : Type) where
  | ok (a : α) (s : Sl)
  | exc (x : XV) (s : Sl)
  | bad
def R.bind {α β : Type} : R α → (α → Sl → R β) → R β
  | .ok a s, k => k a s
  | .exc x s, _ => .exc x s
  | .bad, _ => .bad
@[simp] theorem R.bind_ok {α β : Type} (a : α) (s : Sl) (k : α → Sl → R β) : (R.ok a s).bind k = k a s := rfl
@[simp] theorem R.bind_exc {α β : Type} (x : XV) (s : Sl) (k : α → Sl → R β) : (R.exc x s : R α).bind k = .exc x s := rfl
@[simp] theorem R.bind_bad {α β : Type} (k : α → Sl → R β) : (R.bad : R α).bind k = .bad := rfl
theorem R.bind_assoc {α β γ : Type} (r : R α) (k : α → Sl → R β) (l : β → Sl → R γ) : (r.bind k).bind l = r.bind fun a s => (k a s).bind l := by cases r <;> rfl
abbrev M (α : Type) := Sl → R α
/-- from H, f owned, to H', f' owned -/
structure Frm (H H' : Hp) (f f' : Fp) : Prop where
  keep : ∀ b o, H b = some o → f b = 0 → H' b = some o
  own : ∀ b o, H b = some o → f b = 0 → f' b = 0
theorem Frm.kept {H H' : Hp} {f f' : Fp} (x : Frm H H' f f') : Kept H H' f := x.keep
theorem Frm.refl {H : Hp} {f f' : Fp} (h : ∀ b, f b = 0 → f' b = 0) : Frm H H f f' := ⟨fun _ _ e _ => e, fun b _ _ e => h b e⟩
theorem Frm.trans {H H1 H2 : Hp} {f h1 f1 f2 f3 : Fp} (a : Frm H H1 f h1) (b : Frm H1 H2 f1 f2) (le : ∀ b, h1 b = 0 → f1 b = 0) (lt : ∀ b, h1 b = 0 → f2 b = 0 → f3 b = 0) : Frm H H2 f f3 :=
  ⟨fun c o e z => b.keep c o (a.keep c o e z) (le c (a.own c o e z)), fun c o e z => lt c (a.own c o e z) (b.own c o (a.keep c o e z) (le c (a.own c o e z)))⟩
def RepF (K : PySem.W.Frag) (H : Hp) : List (Str × PV) → List (Str × V) → Prop
  | [], ws => ws = []
  | (n, x) :: r, ws => ∃ v t, ws = (n, v) :: t ∧ Rep K H x v (fun _ => 0) ∧ RepF K H r t
/-- a raised exception -/
def XRep (K : PySem.W.Frag) (mg : Str → Option Value) (H : Hp) (x : XV) (cls : Value) (d : Option Addr) : Prop :=
  ∃ C dd ws, mg x.cls = some (.ref C) ∧ cls = .ref C ∧ d = some dd ∧ H dd = some (.xd ws) ∧ RepF K H x.fs ws
def XPost (X : Cx) (W : WX) (H : Hp) (f : Fp) (σ : L2.St) (x : XV) (s' : Sl) : Prop :=
  ∀ cls d H' f', XRep X.K X.mg H' x cls d → SLR X.K H' s' σ f' → (∀ b, f' b ≤ 1) → Frm H H' f f' → W cls d σ H'
section
variable {X : Cx} {W : WX} {σ : L2.St} {H H1 : Hp} {f f1 h1 : Fp}
theorem XPost.step {x : XV} {s' : Sl} (p : XPost X W H f σ x s') (fr : Frm H H1 f h1) (le : ∀ b, h1 b = 0 → f1 b = 0) (n : ∀ b o, H b = some o → f b = 0 → h1 b = 0 := fun b o e z => fr.own b o e z) : XPost X W H1 f1 σ x s' :=
  fun cls d H' f' r s l q => p cls d H' f' r s l ⟨fun c o e z => q.keep c o (fr.keep c o e z) (le c (fr.own c o e z)), fun c o e z => q.own c o (fr.keep c o e z) (le c (fr.own c o e z))⟩
end
/-- what is wanted of a result -/
def GP {α β : Type} (ρ : Hp → α → β → Fp → Prop) (X : Cx) (W : WX) (H : Hp) (f : Fp) (σ : L2.St) (Q : β → Hp → Prop) : R α → Prop
  | .ok a s' => ∀ v H' g f', ρ H' a v g → SLR X.K H' s' σ f' → (∀ b, g b + f' b ≤ 1) → Frm H H' f (fun b => g b + f' b) → Q v H'
  | .exc x s' => XPost X W H f σ x s'
  | .bad => False
def rdG {α β : Type} (ρ : Hp → α → β → Fp → Prop) (X : Cx) (W : WX) (m : M α) : L2.St → Hp → (β → Hp → Prop) → Prop :=
  fun σ H Q => ∃ s f, SLR X.K H s σ f ∧ (∀ b, f b ≤ 1) ∧ GP ρ X W H f σ Q (m s)
theorem GP.mono {α β : Type} {ρ : Hp → α → β → Fp → Prop} {X : Cx} {W : WX} {H : Hp} {f : Fp} {σ : L2.St} {Q Q' : β → Hp → Prop} {r : R α} (h : GP ρ X W H f σ Q r) (i : ∀ v H', Q v H' → Q' v H') : GP ρ X W H f σ Q' r := by
  cases r with
  | ok a s' => exact fun v H' g f' h1 h2 h3 h4 => i _ _ (h v H' g f' h1 h2 h3 h4)
  | exc x s' => exact h
  | bad => exact h
/-- the relation is kept where nothing that it leans on changes; what it owns stands there -/
structure Stable {α β : Type} (ρ : Hp → α → β → Fp → Prop) : Prop where
  kept : ∀ H H' F a v g, Kept H H' F → (∀ b, F b ≠ 0 → MutA H b) → (∀ b, g b ≠ 0 → F b = 0) → ρ H a v g → ρ H' a v g
  live : ∀ H a v g b, ρ H a v g → g b ≠ 0 → MutA H b
theorem stable_rep (K : PySem.W.Frag) : Stable (Rep K) := ⟨fun _ _ _ _ _ _ k m d h => Rep.kept k m d h, fun _ _ _ _ _ h n => h.mut n⟩
/-- THE STEP: what follows the first part -/
theorem rdG.bind {α β α' β' : Type} {ρ : Hp → α → β → Fp → Prop} {ρ' : Hp → α' → β' → Fp → Prop} {X : Cx} {W : WX} {m : M α} {k : α → Sl → R α'} {σ : L2.St} {H : Hp} {Q : β' → Hp → Prop} {Q1 : β → Hp → Prop}
    (h : rdG ρ' X W (fun s => (m s).bind k) σ H Q)
    (hk : ∀ f a s1 v H1 g f1, (∀ b, f b ≤ 1) → ρ H1 a v g → SLR X.K H1 s1 σ f1 → (∀ b, g b + f1 b ≤ 1) → Frm H H1 f (fun b => g b + f1 b) → GP ρ' X W H f σ Q (k a s1) → Q1 v H1) : rdG ρ X W m σ H Q1 := by
  obtain ⟨s, f, h1, h2, h3⟩ := h
  refine ⟨s, f, h1, h2, ?_⟩
  dsimp only at h3
  cases e : m s with
  | ok a s1 =>
    rw [e] at h3
    exact fun v H' g f' p q r t => hk f a s1 v H' g f' h2 p q r t h3
  | exc x s1 => rw [e] at h3; exact h3
  | bad => rw [e] at h3; exact h3
/-- .. and a second part, the first one's value at hand -/
theorem rdG.next {α β α1 β1 α' β' : Type} {ρ1 : Hp → α1 → β1 → Fp → Prop} {ρ : Hp → α → β → Fp → Prop} {ρ' : Hp → α' → β' → Fp → Prop} {X : Cx} {W : WX} {m : M α} {k : α → Sl → R α'} {σ : L2.St} {H H1 : Hp} {Q : β' → Hp → Prop} {Q1 : β → Hp → Prop}
    {f f1 g1 : Fp} {s1 : Sl} {a1 : α1} {v1 : β1} (st : Stable ρ1) (r1 : ρ1 H1 a1 v1 g1) (hs : SLR X.K H1 s1 σ f1) (le : ∀ b, g1 b + f1 b ≤ 1) (fr : Frm H H1 f (fun b => g1 b + f1 b)) (h : GP ρ' X W H f σ Q ((m s1).bind k))
    (hk : ∀ a s2 v H2 g f2, ρ1 H2 a1 v1 g1 → ρ H2 a v g → SLR X.K H2 s2 σ f2 → (∀ b, g1 b + g b + f2 b ≤ 1) → Frm H H2 f (fun b => g1 b + g b + f2 b) → GP ρ' X W H f σ Q (k a s2) → Q1 v H2) : rdG ρ X W m σ H1 Q1 := by
  have le1 : ∀ b, f1 b ≤ 1 := fun b => by have := le b; omega
  refine ⟨s1, f1, hs, le1, ?_⟩
  have z1 : ∀ b, g1 b + f1 b = 0 → f1 b = 0 := fun b h => by omega
  cases e : m s1 with
  | ok a s2 =>
    rw [e] at h
    intro v H2 g f2 p q r t
    have dj : ∀ b, g1 b ≠ 0 → f1 b = 0 := fun b h => by have := le b; omega
    refine hk a s2 v H2 g f2 (st.kept H1 H2 f1 a1 v1 g1 t.kept (fun b => hs.mut) dj r1) p q (fun b => ?_) ?_ h
    · have z := r b
      by_cases hb : g1 b = 0
      · omega
      · have y := le b
        obtain ⟨o, ho, _⟩ := st.live _ _ _ _ b r1 hb
        have y2 : g b + f2 b = 0 := t.own b o ho (dj b hb)
        omega
    · exact ⟨fun c o e z => t.keep c o (fr.keep c o e z) (z1 c (fr.own c o e z)), fun c o e z => by
        have y1 := fr.own c o e z
        have y2 := t.own c o (fr.keep c o e z) (z1 c y1)
        have y1' : g1 c + f1 c = 0 := y1
        have y2' : g c + f2 c = 0 := y2
        show g1 c + g c + f2 c = 0
        omega⟩
  | exc x s2 =>
    rw [e] at h
    exact XPost.step h fr z1
  | bad => rw [e] at h; exact h
end Bv
set_option maxHeartbeats 4000000
namespace Bv
open PySem PySem.Spec PyProof.Rows L2
/-! ### the judgement of an expression -/
def SE (X : Cx) (W : WX) (e : Expr) (m : M PV) : Prop := PE X e (rdG (Rep X.K) X W m)
theorem PE.weaken {X : Cx} {e : Expr} {t t' : TE} (h : PE X e t) (w : ∀ σ H Q, t' σ H Q → t σ H Q) : PE X e t' := ⟨fun pins s σ H Q I q => h.run pins s σ H Q I (w σ H Q q)⟩
theorem PT.weaken {X : Cx} {e : Expr} {t t' : TT} (h : PT X e t) (w : ∀ σ H Q, t' σ H Q → t σ H Q) : PT X e t' := ⟨fun pins s σ H Q I q => h.run pins s σ H Q I (w σ H Q q)⟩
theorem PA.weaken {X : Cx} {e : List Expr} {t t' : TA} (h : PA X e t) (w : ∀ σ H Q, t' σ H Q → t σ H Q) : PA X e t' := ⟨fun pos pins s σ H Q I q => h.run pos pins s σ H Q I (w σ H Q q)⟩
/-! ### operands: a variable is looked at when the operation is done -/
inductive Pnd where
  | loc (i : Nat)
  | val (x : PV)
def Pnd.get (s : Sl) : Pnd → Option PV
  | .loc i => s[i]?.join
  | .val x => some x
def PRep (K : PySem.W.Frag) (σ : L2.St) (H : Hp) : Pnd → V → Fp → Prop
  | .loc i, v, g => σ[i]? = some (some v) ∧ ∀ b, g b = 0
  | .val x, v, g => Rep K H x v g
theorem stable_prep (K : PySem.W.Frag) (σ : L2.St) : Stable (PRep K σ) := ⟨fun H H' F a v g k m d h => by
  cases a with
  | loc i => exact h
  | val x => exact Rep.kept k m d (show Rep K H x v g from h), fun H a v g b h n => by
  cases a with
  | loc i => exact absurd (h.2 b) n
  | val x => exact Rep.mut (show Rep K H x v g from h) n⟩
def PReps (K : PySem.W.Frag) (σ : L2.St) (H : Hp) : List Pnd → List V → Fp → Prop
  | [], vs, f => vs = [] ∧ ∀ b, f b = 0
  | p :: ps, vs, f => ∃ v ws g h, vs = v :: ws ∧ PRep K σ H p v g ∧ PReps K σ H ps ws h ∧ ∀ b, f b = g b + h b
theorem PReps.congr {K : PySem.W.Frag} {σ : L2.St} {H : Hp} {x : List Pnd} {v : List V} {f f' : Fp} (e : ∀ b, f' b = f b) (h : PReps K σ H x v f) : PReps K σ H x v f' := by
  have : f' = f := funext e
  rw [this]; exact h
def SO (X : Cx) (W : WX) (e : Expr) (o : M Pnd) : Prop := PE X e (fun σ H Q => rdG (PRep X.K σ) X W o σ H Q)
def SA (X : Cx) (W : WX) (es : List Expr) (o : M (List Pnd)) : Prop := PA X es (fun σ H Q => rdG (PReps X.K σ) X W o σ H Q)
def oB (i : Nat) : M Pnd := fun s => .ok (.loc i) s
def oE (m : M PV) : M Pnd := fun s => (m s).bind fun x s' => .ok (.val x) s'
def oNil : M (List Pnd) := fun s => .ok [] s
def oCons (o : M Pnd) (os : M (List Pnd)) : M (List Pnd) := fun s => (o s).bind fun p s1 => (os s1).bind fun ps s2 => .ok (p :: ps) s2
section
variable {X : Cx} {W : WX} {e : Expr} {es : List Expr}
/-- a name, looked at later. The slot must be told now -/
theorem so_B (i : Nat) {x : Str} {pos : Pos} (h : PE X (.Name x pos) (tVar i)) : SO X W (.Name x pos) (fun s => match s[i]? with | some (some _) => oB i s | _ => .bad) := PE.weaken h fun σ H Q q => by
  obtain ⟨s, f, h1, h2, h3⟩ := q
  dsimp only at h3
  split at h3
  · rename_i x' e1
    obtain ⟨v, g, l, k1, k2, k3, k4⟩ := h1.take e1
    refine ⟨v, k1, h3 v H (fun _ => 0) f ⟨k1, fun _ => rfl⟩ h1 (fun b => by have := h2 b; omega) (Frm.refl fun b z => by omega)⟩
  · exact h3.elim
theorem so_E {m : M PV} (h : SE X W e m) : SO X W e (oE m) := PE.weaken h fun σ H Q q => rdG.bind q fun f a s1 v H1 g f1 h0 h1 h2 h3 h4 h5 => h5 v H1 g f1 h1 h2 h3 h4
theorem sa_nil : SA X W [] oNil := PA.weaken pa_nil fun σ H Q q => by
  obtain ⟨s, f, h1, h2, h3⟩ := q
  exact h3 [] H (fun _ => 0) f ⟨rfl, fun _ => rfl⟩ h1 (fun b => by have := h2 b; omega) (Frm.refl fun b z => by omega)
theorem sa_cons {o : M Pnd} {os : M (List Pnd)} (h : SO X W e o) (hs : SA X W es os) (hst : starEach (e :: es) X.env = (false, eval e X.env) :: starEach es X.env := by rfl) : SA X W (e :: es) (oCons o os) :=
  PA.weaken (pa_cons h hs hst) fun σ H Q q => by
    refine rdG.bind (ρ := PRep X.K σ) q fun f a s1 v H1 g f1 h0 h1 h2 h3 h4 h5 => ?_
    refine rdG.next (ρ := PReps X.K σ) (stable_prep X.K σ) h1 h2 h3 h4 h5 fun ps s2 vs H2 g2 f2 k1 k2 k3 k4 k5 k6 => ?_
    exact k6 (v :: vs) H2 (fun b => g b + g2 b) f2 ⟨v, vs, g, g2, rfl, k1, k2, fun _ => rfl⟩ k3 (fun b => by have := k4 b; omega) k5
end
/-! ### what the operands are worth -/
/-- the values, whatever owns what -/
def RW (K : PySem.W.Frag) (H : Hp) : List PV → List V → Prop
  | [], vs => vs = []
  | x :: xs, vs => ∃ v ws g, vs = v :: ws ∧ Rep K H x v g ∧ RW K H xs ws
def Pnd.gets (s : Sl) : List Pnd → Option (List PV)
  | [] => some []
  | p :: ps => match p.get s, Pnd.gets s ps with
    | some x, some xs => some (x :: xs)
    | _, _ => none
theorem gets_rep {K : PySem.W.Frag} {σ : L2.St} {H : Hp} {s : Sl} {f : Fp} (hs : SLR K H s σ f) : ∀ {ps : List Pnd} {vs : List V} {g : Fp} {xs : List PV}, PReps K σ H ps vs g → Pnd.gets s ps = some xs → RW K H xs vs
  | [], vs, g, xs, h, e => by
    cases (Option.some.inj e)
    exact h.1
  | p :: ps, vs, g, xs, h, e => by
    obtain ⟨v, ws, g1, g2, e1, hp, hr, _⟩ := h
    unfold Pnd.gets at e
    cases e2 : p.get s with
    | none => rw [e2] at e; cases e
    | some x =>
      cases e3 : Pnd.gets s ps with
      | none => rw [e2, e3] at e; cases e
      | some ys =>
        rw [e2, e3] at e
        cases (Option.some.inj e)
        have ih := gets_rep hs hr e3
        cases p with
        | val y =>
          cases (Option.some.inj e2)
          exact ⟨v, ws, g1, e1, hp, ih⟩
        | loc i =>
          have e4 : s[i]? = some (some x) := by
            have e2 : s[i]?.join = some x := e2
            cases e5 : s[i]? with
            | none => rw [e5] at e2; cases e2
            | some o =>
              rw [e5] at e2
              have : o = some x := e2
              rw [this]
          obtain ⟨v', g', h', k1, k2, _⟩ := hs.take e4
          have : v' = v := by
            have := k1.symm.trans hp.1
            simpa using this
          subst this
          exact ⟨v', ws, g', e1, k2, ih⟩
/-- new things alone -/
structure Fresh (H H' : Hp) (g : Fp) : Prop where
  keep : ∀ b o, H b = some o → H' b = some o
  le : ∀ b, g b ≤ 1
  new : ∀ b, g b ≠ 0 → H b = none
theorem Fresh.refl {H : Hp} {g : Fp} (h : ∀ b, g b = 0) : Fresh H H g := ⟨fun _ _ e => e, fun b => by rw [h b]; omega, fun b n => absurd (h b) n⟩
theorem Fresh.upd {H : Hp} {a : Addr} {o : HO} (h : H a = none) {g : Fp} (hg : ∀ b, g b ≤ one a b) : Fresh H (upd H a o) g :=
  ⟨fun b u e => by rw [upd_ne (ne_of_none e h)]; exact e, fun b => Nat.le_trans (hg b) (by unfold one; split <;> omega), fun b n => by
    by_cases hb : b = a
    · rw [hb]; exact h
    · have := hg b
      rw [one_ne hb] at this
      omega⟩
/-- an operation on values: from their places vs the result's -/
def VOp (K : PySem.W.Frag) (f : List PV → Option PV) (r : List V → Hp → VK → Prop) : Prop :=
  ∀ H xs vs z Q, RW K H xs vs → f xs = some z → (∀ v H' g, Rep K H' z v g → Fresh H H' g → Q v H') → r vs H Q
def mOp (f : List PV → Option PV) (os : M (List Pnd)) : M PV := fun s => (os s).bind fun ps s' => match Pnd.gets s' ps with
  | some xs => match f xs with | some z => .ok z s' | none => .bad
  | none => .bad
section
variable {X : Cx} {W : WX} {e a b c : Expr} {es : List Expr} {pos : Pos}
/-- behind the operands -/
theorem op_end {f : List PV → Option PV} {r : List V → Hp → VK → Prop} (vo : VOp X.K f r) {σ : L2.St} {H H1 : Hp} {F g f1 : Fp} {ps : List Pnd} {s1 : Sl} {vs : List V} {Q : VK}
    (h1 : PReps X.K σ H1 ps vs g) (h2 : SLR X.K H1 s1 σ f1) (h3 : ∀ b, g b + f1 b ≤ 1) (h4 : Frm H H1 F (fun b => g b + f1 b))
    (h5 : GP (Rep X.K) X W H F σ Q (match Pnd.gets s1 ps with | some xs => (match f xs with | some z => R.ok z s1 | none => .bad) | none => .bad)) : r vs H1 Q := by
  cases e1 : Pnd.gets s1 ps with
  | none => rw [e1] at h5; exact h5.elim
  | some xs =>
    rw [e1] at h5
    dsimp only at h5
    cases e2 : f xs with
    | none => rw [e2] at h5; exact h5.elim
    | some z =>
      rw [e2] at h5
      refine vo H1 xs vs z Q (gets_rep h2 h1 e1) e2 fun v H' gz hz fr => ?_
      have live : ∀ b, f1 b ≠ 0 → H1 b ≠ none := fun b n e => by
        obtain ⟨o, ho, _⟩ := h2.mut n
        rw [e] at ho; cases ho
      refine h5 v H' gz f1 hz (h2.kept (F := fun _ => 0) (fun b o e _ => fr.keep b o e) (fun b n => absurd rfl n) (fun b _ => rfl)) (fun b => ?_) ⟨fun b o e z => fr.keep b o (h4.keep b o e z), fun b o e z => ?_⟩
      · by_cases hb : gz b = 0
        · have := h3 b; omega
        · have n := fr.new b hb
          have := fr.le b
          by_cases hf : f1 b = 0
          · omega
          · exact absurd n (live b hf)
      · have y : g b + f1 b = 0 := h4.own b o e z
        have : gz b = 0 := by
          refine Classical.byContradiction fun hb => ?_
          have n := fr.new b hb
          rw [h4.keep b o e z] at n
          cases n
        show gz b + f1 b = 0
        omega
/-- the operands of a row of readings -/
theorem ops2 {oa ob : M Pnd} {σ : L2.St} {H : Hp} {m : List Pnd → Sl → R PV} {Q : VK} {Q' : List V → Hp → Prop}
    (q : rdG (Rep X.K) X W (fun s => ((oCons oa (oCons ob oNil)) s).bind m) σ H Q)
    (hk : ∀ f a s1 v H1 g f1, (∀ b, f b ≤ 1) → PReps X.K σ H1 a v g → SLR X.K H1 s1 σ f1 → (∀ b, g b + f1 b ≤ 1) → Frm H H1 f (fun b => g b + f1 b) → GP (Rep X.K) X W H f σ Q (m a s1) → Q' v H1) :
    rdG (PRep X.K σ) X W oa σ H (fun x H1 => rdG (PRep X.K σ) X W ob σ H1 (fun y H2 => Q' [x, y] H2)) := by
  have q' : rdG (Rep X.K) X W (fun s => (oa s).bind fun p1 s1 => (ob s1).bind fun p2 s2 => m [p1, p2] s2) σ H Q := by
    have e : (fun s => ((oCons oa (oCons ob oNil)) s).bind m) = (fun s => (oa s).bind fun p1 s1 => (ob s1).bind fun p2 s2 => m [p1, p2] s2) := by
      funext s
      simp only [oCons, oNil, R.bind_assoc, R.bind_ok]
    rw [← e]; exact q
  refine rdG.bind (ρ := PRep X.K σ) q' fun f a s1 v H1 g f1 h0 h1 h2 h3 h4 h5 => ?_
  refine rdG.next (ρ := PRep X.K σ) (stable_prep X.K σ) h1 h2 h3 h4 h5 fun p2 s2 v2 H2 g2 f2 k1 k2 k3 k4 k5 k6 => ?_
  exact hk f [a, p2] s2 [v, v2] H2 (fun b => g b + g2 b) f2 h0 ⟨v, [v2], g, g2, rfl, k1, ⟨v2, [], g2, fun _ => 0, rfl, k2, ⟨rfl, fun _ => rfl⟩, fun b => rfl⟩, fun b => rfl⟩ k3 k4 k5 k6
theorem ops1 {oa : M Pnd} {σ : L2.St} {H : Hp} {m : List Pnd → Sl → R PV} {Q : VK} {Q' : List V → Hp → Prop}
    (q : rdG (Rep X.K) X W (fun s => ((oCons oa oNil) s).bind m) σ H Q)
    (hk : ∀ f a s1 v H1 g f1, (∀ b, f b ≤ 1) → PReps X.K σ H1 a v g → SLR X.K H1 s1 σ f1 → (∀ b, g b + f1 b ≤ 1) → Frm H H1 f (fun b => g b + f1 b) → GP (Rep X.K) X W H f σ Q (m a s1) → Q' v H1) :
    rdG (PRep X.K σ) X W oa σ H (fun x H1 => Q' [x] H1) := by
  have q' : rdG (Rep X.K) X W (fun s => (oa s).bind fun p1 s1 => m [p1] s1) σ H Q := by
    have e : (fun s => ((oCons oa oNil) s).bind m) = (fun s => (oa s).bind fun p1 s1 => m [p1] s1) := by
      funext s
      simp only [oCons, oNil, R.bind_assoc, R.bind_ok]
    rw [← e]; exact q
  refine rdG.bind (ρ := PRep X.K σ) q' fun f a s1 v H1 g f1 h0 h1 h2 h3 h4 h5 => ?_
  exact hk f [a] s1 [v] H1 g f1 h0 ⟨v, [], g, fun _ => 0, rfl, h1, ⟨rfl, fun _ => rfl⟩, fun b => rfl⟩ h2 h3 h4 h5
def r2L (r : R2) : List V → Hp → VK → Prop := fun vs H Q => ∃ x y, vs = [x, y] ∧ r x y H Q
def r1L (r : V → Hp → VK → Prop) : List V → Hp → VK → Prop := fun vs H Q => ∃ x, vs = [x] ∧ r x H Q
theorem se_t2 {t : TE → TE → TE} {r : R2} {f : List PV → Option PV} {oa ob : M Pnd} (hp : ∀ {ta tb : TE}, PE X a ta → PE X b tb → PE X e (tOp r ta tb)) (vo : VOp X.K f (r2L r)) (ha : SO X W a oa) (hb : SO X W b ob) : SE X W e (mOp f (oCons oa (oCons ob oNil))) :=
  PE.weaken (hp ha hb) fun σ H Q q => ops2 (Q' := fun vs H2 => ∃ x y, vs = [x, y] ∧ r x y H2 Q) q (fun F ps s1 vs H1 g f1 _ h1 h2 h3 h4 h5 => op_end (r := r2L r) vo h1 h2 h3 h4 h5) |> fun z => by
    obtain ⟨s, f', z1, z2, z3⟩ := z
    refine ⟨s, f', z1, z2, z3.mono fun v H1 q1 => ?_⟩
    obtain ⟨s', f'', w1, w2, w3⟩ := q1
    refine ⟨s', f'', w1, w2, w3.mono fun v2 H2 q2 => ?_⟩
    obtain ⟨x, y, e1, q3⟩ := q2
    cases e1
    exact q3
theorem se_op2 {op : Operator} {r : R2} {f : List PV → Option PV} {oa ob : M Pnd} (ho : OpR X (binaryOp op) r) (vo : VOp X.K f (r2L r)) (ha : SO X W a oa) (hb : SO X W b ob) : SE X W (.BinOp a op b pos) (mOp f (oCons oa (oCons ob oNil))) :=
  se_t2 (t := fun x _ => x) (pe_op ho) vo ha hb
theorem se_cmp {op : CmpOp} {r : R2} {f : List PV → Option PV} {oa ob : M Pnd} (ho : OpR X (compareOp op) r) (vo : VOp X.K f (r2L r)) (ha : SO X W a oa) (hb : SO X W b ob) (hm : behindInMarks op b = false) : SE X W (.Compare a [op] [b] pos) (mOp f (oCons oa (oCons ob oNil))) :=
  se_t2 (t := fun x _ => x) (fun ha hb => pe_cmpR ho ha hb hm) vo ha hb
theorem se_ix {r : R2} {f : List PV → Option PV} {oa ob : M Pnd} (ho : IxR X r) (vo : VOp X.K f (r2L r)) (ha : SO X W a oa) (hb : SO X W b ob) (hs : PlainIx b) : SE X W (.Subscript a b pos) (mOp f (oCons oa (oCons ob oNil))) :=
  se_t2 (t := fun x _ => x) (fun ha hb => pe_ix ho ha hb hs) vo ha hb
/-- a built-in function called -/
theorem se_blt {x : Str} {p : Pos} {id : String} {r : List V → Hp → VK → Prop} {f : List PV → Option PV} {os : M (List Pnd)} (hc : CallR X (.builtin id) r) (vo : VOp X.K f r) (hg : Gl X x) (hm : X.mg x = none) (hv : bootBuiltins x = some (.builtin id)) (ha : SA X W (e :: es) os)
    (hn : x ≠ "__name__" := by decide) (hdb : (x == ("__debug__" : Str)) = false := by decide)
    (he : starEach (e :: es) X.env = (false, eval e X.env) :: starEach es X.env := by rfl) (hpl : (backTo pos (starEach es X.env)).any (·.1) = false := by rfl) : SE X W (.Call (.Name x p) (e :: es) [] pos) (mOp f os) :=
  PE.weaken (pe_callB hc hg hm hv ha hn hdb he hpl) fun σ H Q q => rdG.bind (ρ := PReps X.K σ) q fun F ps s1 vs H1 g f1 _ h1 h2 h3 h4 h5 => op_end vo h1 h2 h3 h4 h5
theorem se_bty {x : Str} {p : Pos} {T : String} {r : List V → Hp → VK → Prop} {f : List PV → Option PV} {os : M (List Pnd)} (hc : CallR X (.type T) r) (vo : VOp X.K f r) (hg : Gl X x) (hm : X.mg x = none) (hv : bootBuiltins x = some (.type T)) (ha : SA X W (e :: es) os)
    (hn : x ≠ "__name__" := by decide) (hdb : (x == ("__debug__" : Str)) = false := by decide)
    (he : starEach (e :: es) X.env = (false, eval e X.env) :: starEach es X.env := by rfl) (hpl : (backTo pos (starEach es X.env)).any (·.1) = false := by rfl) : SE X W (.Call (.Name x p) (e :: es) [] pos) (mOp f os) :=
  PE.weaken (pe_callTy hc hg hm hv ha hn hdb he hpl) fun σ H Q q => rdG.bind (ρ := PReps X.K σ) q fun F ps s1 vs H1 g f1 _ h1 h2 h3 h4 h5 => op_end vo h1 h2 h3 h4 h5
end
end Bv
set_option maxHeartbeats 4000000
namespace Bv
open PySem PySem.Spec PyProof.Rows L2
abbrev Z0 : Fp := fun _ => 0
section
variable {K : PySem.W.Frag} {H H' : Hp}
theorem Rep.zero {x : PV} {v : V} {g : Fp} (h : Rep K H x v g) (n : x.own = false) : Rep K H x v Z0 := h.congr fun b => (h.free n b).symm
theorem owns_mem : ∀ {xs : List PV} {x : PV}, PV.owns xs = false → x ∈ xs → x.own = false
  | y :: r, x, h, m => by
    simp only [PV.owns, Bool.or_eq_false_iff] at h
    rcases List.mem_cons.mp m with rfl | m
    · exact h.1
    · exact owns_mem h.2 m
theorem owns_of : ∀ {xs : List PV}, (∀ x ∈ xs, x.own = false) → PV.owns xs = false
  | [], _ => rfl
  | y :: r, h => by
    simp only [PV.owns, Bool.or_eq_false_iff]
    exact ⟨h y List.mem_cons_self, owns_of fun x m => h x (List.mem_cons_of_mem _ m)⟩
/-- a row of values without owned parts -/
structure Seq0 (K : PySem.W.Frag) (H : Hp) (xs : List PV) (vs : List V) : Prop where
  len : vs.length = xs.length
  at' : ∀ (i : Nat) (x : PV) (v : V), xs[i]? = some x → vs[i]? = some v → Rep K H x v Z0
theorem Reps.get : ∀ {xs : List PV} {vs : List V} {f : Fp}, Reps K H xs vs f → ∀ (i : Nat) (x : PV) (v : V), xs[i]? = some x → vs[i]? = some v → ∃ g, Rep K H x v g ∧ ∀ b, g b ≤ f b
  | [], vs, f, h, i, x, v, e, _ => by simp at e
  | y :: r, vs, f, h, 0, x, v, e1, e2 => by
    obtain ⟨w, ws, g, l, e, p, q, z⟩ := h
    subst e
    simp at e1 e2
    subst e1 e2
    exact ⟨g, p, fun b => by rw [z b]; omega⟩
  | y :: r, vs, f, h, i + 1, x, v, e1, e2 => by
    obtain ⟨w, ws, g, l, e, p, q, z⟩ := h
    subst e
    obtain ⟨g', p', z'⟩ := Reps.get q i x v (by simpa using e1) (by simpa using e2)
    exact ⟨g', p', fun b => by rw [z b]; have := z' b; omega⟩
theorem Reps.seq {xs : List PV} {vs : List V} {f : Fp} (h : Reps K H xs vs f) (n : PV.owns xs = false) : Seq0 K H xs vs := ⟨h.length, fun i x v e1 e2 => by
  obtain ⟨g, p, _⟩ := h.get i x v e1 e2
  exact p.zero (owns_mem n (List.mem_of_getElem? e1))⟩
theorem Seq0.reps : ∀ {xs : List PV} {vs : List V}, Seq0 K H xs vs → Reps K H xs vs Z0
  | [], vs, h => ⟨List.length_eq_zero_iff.mp h.len, fun _ => rfl⟩
  | x :: r, [], h => by have := h.len; simp at this
  | x :: r, v :: ws, h => ⟨v, ws, Z0, Z0, rfl, h.at' 0 x v rfl rfl, Seq0.reps ⟨by have := h.len; simpa using this, fun i y w e1 e2 => h.at' (i + 1) y w (by simpa using e1) (by simpa using e2)⟩, fun _ => rfl⟩
theorem Seq0.append {xs ys : List PV} {vs ws : List V} (a : Seq0 K H xs vs) (b : Seq0 K H ys ws) : Seq0 K H (xs ++ ys) (vs ++ ws) := ⟨by rw [List.length_append, List.length_append, a.len, b.len], fun i x v e1 e2 => by
  by_cases hi : i < xs.length
  · rw [List.getElem?_append_left hi] at e1
    rw [List.getElem?_append_left (by rw [a.len]; exact hi)] at e2
    exact a.at' i x v e1 e2
  · rw [List.getElem?_append_right (by omega)] at e1
    rw [List.getElem?_append_right (by rw [a.len]; omega), a.len] at e2
    exact b.at' _ x v e1 e2⟩
theorem Seq0.drop {xs : List PV} {vs : List V} (a : Seq0 K H xs vs) (n : Nat) : Seq0 K H (xs.drop n) (vs.drop n) := ⟨by rw [List.length_drop, List.length_drop, a.len], fun i x v e1 e2 => by
  rw [List.getElem?_drop] at e1 e2
  exact a.at' _ x v e1 e2⟩
theorem Seq0.take {xs : List PV} {vs : List V} (a : Seq0 K H xs vs) (n : Nat) : Seq0 K H (xs.take n) (vs.take n) := ⟨by rw [List.length_take, List.length_take, a.len], fun i x v e1 e2 => by
  rw [List.getElem?_take] at e1 e2
  split at e1
  · rename_i h
    rw [if_pos h] at e2
    exact a.at' _ x v e1 e2
  · cases e1⟩
theorem Seq0.reverse {xs : List PV} {vs : List V} (a : Seq0 K H xs vs) : Seq0 K H xs.reverse vs.reverse := ⟨by rw [List.length_reverse, List.length_reverse, a.len], fun i x v e1 e2 => by
  have hi : i < xs.length := by
    have := (List.getElem?_eq_some_iff.mp e1).1
    simpa using this
  rw [List.getElem?_reverse hi] at e1
  rw [List.getElem?_reverse (by rw [a.len]; exact hi), a.len] at e2
  exact a.at' _ x v e1 e2⟩
theorem Seq0.kept {xs : List PV} {vs : List V} (a : Seq0 K H xs vs) (k : ∀ b o, H b = some o → H' b = some o) : Seq0 K H' xs vs := ⟨a.len, fun i x v e1 e2 => (a.at' i x v e1 e2).kept (F := Z0) (fun b o e _ => k b o e) (fun b n => absurd rfl n) (fun b n => absurd rfl n)⟩
theorem Seq0.flat : ∀ {xs : List PV} {vs : List V} (n : Nat), Seq0 K H xs vs → Seq0 K H (List.replicate n xs).flatten (List.replicate n vs).flatten
  | xs, vs, 0, a => ⟨rfl, fun i x v e1 _ => by simp at e1⟩
  | xs, vs, n + 1, a => by
    rw [List.replicate_succ, List.replicate_succ, List.flatten_cons, List.flatten_cons]
    exact a.append (Seq0.flat n a)
theorem keep_upd {p : Addr} {o : HO} (np : H p = none) : ∀ b u, H b = some u → upd H p o b = some u := fun b u e => by rw [upd_ne (ne_of_none e np)]; exact e
/-- a new tuple, a new list -/
theorem newTup {xs : List PV} {vs : List V} {p : Addr} (a : Seq0 K H xs vs) (hz : xs.length ≤ sizeLine) (np : H p = none) : Rep K (upd H p (.tup vs)) (.tup xs) (.ref p) Z0 ∧ Fresh H (upd H p (.tup vs)) Z0 :=
  ⟨⟨p, vs, rfl, SqT.of upd_same, hz, (a.kept (keep_upd np)).reps⟩, Fresh.upd np fun b => Nat.zero_le _⟩
theorem newLst {xs : List PV} {vs : List V} {p : Addr} (a : Seq0 K H xs vs) (hz : xs.length ≤ sizeLine) (np : H p = none) : Rep K (upd H p (.lst vs)) (.lst true xs) (.ref p) (one p) ∧ Fresh H (upd H p (.lst vs)) (one p) :=
  ⟨⟨p, vs, Z0, rfl, upd_same, hz, (a.kept (keep_upd np)).reps, fun b => by simp⟩, Fresh.upd np fun b => Nat.le_refl _⟩
theorem rw1 {x : PV} {vs : List V} (h : RW K H [x] vs) : ∃ v g, vs = [v] ∧ Rep K H x v g := by
  obtain ⟨v, ws, g, rfl, r, e⟩ := h
  have e : ws = [] := e
  subst e
  exact ⟨v, g, rfl, r⟩
theorem rw2 {x y : PV} {vs : List V} (h : RW K H [x, y] vs) : ∃ v w g k, vs = [v, w] ∧ Rep K H x v g ∧ Rep K H y w k := by
  obtain ⟨v, ws, g, rfl, r, e⟩ := h
  obtain ⟨w, k, rfl, r2⟩ := rw1 e
  exact ⟨v, w, g, k, rfl, r, r2⟩
theorem fr0 (H : Hp) : Fresh H H Z0 := Fresh.refl fun _ => rfl
theorem rep_int {i : Int} : Rep K H (.int i) (.int i) Z0 := ⟨rfl, fun _ => rfl⟩
theorem rep_bl {i : Bool} : Rep K H (.bl i) (.bl i) Z0 := ⟨rfl, fun _ => rfl⟩
theorem rep_str {i : Str} : Rep K H (.str i) (.str i) Z0 := ⟨rfl, fun _ => rfl⟩
theorem rep_non : Rep K H .non .non Z0 := ⟨rfl, fun _ => rfl⟩
/-- a sequence's items, whoever owns it -/
theorem Rep.lstAt {o : Bool} {xs : List PV} {v : V} {g : Fp} (h : Rep K H (.lst o xs) v g) : ∃ a vs g', v = .ref a ∧ SqL K H a vs ∧ xs.length ≤ sizeLine ∧ Reps K H xs vs g' := by
  cases o with
  | true =>
    obtain ⟨a, vs, g', rfl, e, z, r, _⟩ := h
    exact ⟨a, vs, g', rfl, SqL.of e, z, r⟩
  | false =>
    obtain ⟨a, vs, rfl, e, z, r, _⟩ := h
    rcases e with ⟨o, e⟩ | e
    · exact ⟨a, vs, g, rfl, .inl (.inr ⟨o, e⟩), z, r⟩
    · exact ⟨a, vs, g, rfl, .inr e, z, r⟩
theorem Rep.tupAt {xs : List PV} {v : V} {g : Fp} (h : Rep K H (.tup xs) v g) : ∃ a vs, v = .ref a ∧ SqT K H a vs ∧ xs.length ≤ sizeLine ∧ Reps K H xs vs g := h
end
abbrev LIM : Nat := 16777216
theorem lim_eq : sizeLine = LIM := sizeLine_eq
/-! ### + -/
def pAdd : List PV → Option PV
  | [.int a, .int b] => some (.int (a + b))
  | [.str a, .str b] => if a.length + b.length ≤ LIM then some (.str (a ++ b)) else none
  | [.tup xs, .tup ys] => if PV.owns xs = false ∧ PV.owns ys = false ∧ xs.length + ys.length ≤ LIM then some (.tup (xs ++ ys)) else none
  | [.lst _ xs, .lst _ ys] => if PV.owns xs = false ∧ PV.owns ys = false ∧ xs.length + ys.length ≤ LIM then some (.lst true (xs ++ ys)) else none
  | _ => none
/-- list + list, whoever holds them -/
def rCatS (K : PySem.W.Frag) : R2 := fun x y H Q => ∃ l b xs zs, x = .ref l ∧ y = .ref b ∧ SqL K H l xs ∧ SqL K H b zs ∧ xs.length + zs.length ≤ sizeLine ∧ ∀ p, H p = none → Q (.ref p) (upd H p (.lst (xs ++ zs)))
theorem op_catS {X : Cx} : OpR X (binaryOp .Add) (rCatS X.K) := by
  intro pins s σ H x y v u Q I rx ry h
  obtain ⟨l, b, xs, zs, rfl, rfl, hH, hB, hz, q⟩ := h
  cases rx
  cases ry
  obtain ⟨its, r, hl, z⟩ := I.list hH
  obtain ⟨its2, r2, hl2, z2⟩ := I.list hB
  have e1 := r.length
  have e2 := r2.length
  obtain ⟨⟨cls, dd, data, sl⟩, n, ho, hc, _, hd⟩ := id hl
  obtain ⟨⟨cls2, dd2, data2, sl2⟩, n2, ho2, hc2, _, hd2⟩ := id hl2
  simp only at hc hd hc2 hd2
  subst hc hd hc2 hd2
  have e : its.toArray ++ its2.toArray = (its ++ its2).toArray := by simp
  refine concat_meets ⟨_, ho, rfl⟩ ⟨_, ho2, rfl⟩ noFill_list_add seq_list_add PySem.F.slot_list_add PySem.F.entry_list_add (PySem.F.args_list_add_2 _ _) (list_addW l b its.toArray its2.toArray n n2 dd dd2 sl sl2 (by rw [List.size_toArray, List.size_toArray]; omega)) ⟨ho, ho2, ?_⟩
  rw [e]
  exact ⟨.ref _, _, I.lnew (t' := s.toks) (r.append r2) (by rw [List.length_append]; omega), rfl, q _ I.fresh⟩
def rAddAll (K : PySem.W.Frag) : R2 := fun x y H Q => rI0 (fun i j => .int (i + j)) x y H Q ∨ (∃ i j, x = .str i ∧ y = .str j ∧ i.length + j.length ≤ sizeLine ∧ Q (.str (i ++ j)) H) ∨ rCatA K x y H Q ∨ rCatS K x y H Q
theorem op_addAll {X : Cx} : OpR X (binaryOp .Add) (rAddAll X.K) := op_add.or (op_add_str.or (op_catA.or op_catS))
theorem vo_add {K : PySem.W.Frag} : VOp K pAdd (r2L (rAddAll K)) := by
  intro H xs vs z Q hr hf q
  match xs, hf with
  | [.int a, .int b], hf =>
    obtain ⟨v, w, g, k, rfl, ⟨rfl, _⟩, ⟨rfl, _⟩⟩ := rw2 hr
    cases (Option.some.inj hf)
    exact ⟨_, _, rfl, .inl ⟨a, b, rfl, rfl, q _ H Z0 rep_int (fr0 H)⟩⟩
  | [.str a, .str b], hf =>
    obtain ⟨v, w, g, k, rfl, ⟨rfl, _⟩, ⟨rfl, _⟩⟩ := rw2 hr
    simp only [pAdd] at hf
    split at hf
    · rename_i hl
      cases (Option.some.inj hf)
      exact ⟨_, _, rfl, .inr (.inl ⟨a, b, rfl, rfl, by rw [lim_eq]; exact hl, q _ H Z0 rep_str (fr0 H)⟩)⟩
    · cases hf
  | [.tup as, .tup bs], hf =>
    obtain ⟨v, w, g, k, rfl, ra, rb⟩ := rw2 hr
    simp only [pAdd] at hf
    split at hf
    · rename_i hl
      obtain ⟨n1, n2, hz⟩ := hl
      cases (Option.some.inj hf)
      obtain ⟨a, va, rfl, ha, za, sa⟩ := ra.tupAt
      obtain ⟨b, vb, rfl, hb, zb, sb⟩ := rb.tupAt
      have ta := sa.seq n1
      have tb := sb.seq n2
      have hz' : (as ++ bs).length ≤ sizeLine := by rw [lim_eq, List.length_append]; exact hz
      refine ⟨_, _, rfl, .inr (.inr (.inl ⟨a, b, va, vb, rfl, rfl, ha, hb, by rw [ta.len, tb.len, lim_eq]; exact hz, fun e => ?_, fun e1 e2 => ?_, fun _ _ p np => ?_⟩))⟩
      · subst e
        have e : as = [] := List.length_eq_zero_iff.mp ta.len.symm
        subst e
        exact q _ H Z0 ⟨b, vb, rfl, hb, by simpa using zb, tb.reps⟩ (fr0 H)
      · subst e2
        have e : bs = [] := List.length_eq_zero_iff.mp tb.len.symm
        subst e
        refine q _ H Z0 ?_ (fr0 H)
        rw [List.append_nil]
        exact ⟨a, va, rfl, ha, za, ta.reps⟩
      · obtain ⟨r, f⟩ := newTup (ta.append tb) hz' np
        exact q _ _ _ r f
    · cases hf
  | [.lst o as, .lst o' bs], hf =>
    obtain ⟨v, w, g, k, rfl, ra, rb⟩ := rw2 hr
    simp only [pAdd] at hf
    split at hf
    · rename_i hl
      obtain ⟨n1, n2, hz⟩ := hl
      cases (Option.some.inj hf)
      obtain ⟨a, va, ga, rfl, ha, za, sa⟩ := ra.lstAt
      obtain ⟨b, vb, gb, rfl, hb, zb, sb⟩ := rb.lstAt
      have ta := sa.seq n1
      have tb := sb.seq n2
      have hz' : (as ++ bs).length ≤ sizeLine := by rw [lim_eq, List.length_append]; exact hz
      refine ⟨_, _, rfl, .inr (.inr (.inr ⟨a, b, va, vb, rfl, rfl, ha, hb, by rw [ta.len, tb.len, lim_eq]; exact hz, fun p np => ?_⟩))⟩
      obtain ⟨r, f⟩ := newLst (ta.append tb) hz' np
      exact q _ _ _ r f
    · cases hf
end Bv
set_option maxHeartbeats 4000000
namespace Bv
open PySem PySem.Spec PyProof.Rows L2
/-! ### ints -/
def pSub : List PV → Option PV
  | [.int a, .int b] => some (.int (a - b))
  | _ => none
noncomputable def small64 (i : Int) : Bool := @decide (-(2 ^ 64) < i ∧ i < 2 ^ 64) (Classical.propDecidable _)
noncomputable def pMul : List PV → Option PV
  | [.int a, .int b] => if small64 a || small64 b then some (.int (a * b)) else none
  | [.tup xs, .int k] => @ite _ (PV.owns xs = false ∧ xs ≠ [] ∧ xs.length ≤ 1000 ∧ 2 ≤ k ∧ k ≤ 1000) (Classical.propDecidable _) (some (.tup (List.replicate k.toNat xs).flatten)) none
  | _ => none
noncomputable def pFdiv : List PV → Option PV
  | [.int a, .int b] => @ite _ (0 < b ∧ b < 1073741824) (Classical.propDecidable _) (some (.int (a / b))) none
  | _ => none
def pMod : List PV → Option PV
  | [.int a, .int b] => if 0 < b then some (.int (a % b)) else none
  | _ => none
noncomputable def pPow : List PV → Option PV
  | [.int a, .int b] => @ite _ (0 ≤ b ∧ b ≤ 1000000 ∧ a.natAbs < 2 ^ 64) (Classical.propDecidable _) (some (.int (a ^ b.toNat))) none
  | _ => none
noncomputable def pShl : List PV → Option PV
  | [.int a, .int b] => @ite _ (0 ≤ b ∧ b ≤ 1000000 ∧ a.natAbs < 2 ^ 64) (Classical.propDecidable _) (some (.int (a * 2 ^ b.toNat))) none
  | _ => none
def pCmp (p : Int → Int → Bool) : List PV → Option PV
  | [.int a, .int b] => some (.bl (p a b))
  | _ => none
def pNeg : List PV → Option PV
  | [.int a] => some (.int (-a))
  | _ => none
section
variable {K : PySem.W.Frag} {X : Cx}
theorem vo_sub : VOp K pSub (r2L (rI0 fun i j => .int (i - j))) := by
  intro H xs vs z Q hr hf q
  match xs, hf with
  | [.int a, .int b], hf =>
    obtain ⟨v, w, g, k, rfl, ⟨rfl, _⟩, ⟨rfl, _⟩⟩ := rw2 hr
    cases (Option.some.inj hf)
    exact ⟨_, _, rfl, a, b, rfl, rfl, q _ H Z0 rep_int (fr0 H)⟩
def rMulAll (K : PySem.W.Frag) : R2 := fun x y H Q => rI CMul (fun i j => .int (i * j)) x y H Q ∨ rRepT K x y H Q
theorem op_mulAll : OpR X (binaryOp .Mult) (rMulAll X.K) := op_mul.or op_repT
theorem small64_iff {i : Int} (h : small64 i = true) : -(2 ^ 64) < i ∧ i < 2 ^ 64 := by
  exact @of_decide_eq_true _ (Classical.propDecidable _) h
theorem vo_mul : VOp K pMul (r2L (rMulAll K)) := by
  intro H xs vs z Q hr hf q
  match xs, hf with
  | [.int a, .int b], hf =>
    obtain ⟨v, w, g, k, rfl, ⟨rfl, _⟩, ⟨rfl, _⟩⟩ := rw2 hr
    simp only [pMul] at hf
    split at hf
    · rename_i hc
      cases (Option.some.inj hf)
      refine ⟨_, _, rfl, .inl ⟨a, b, rfl, rfl, ?_, q _ H Z0 rep_int (fr0 H)⟩⟩
      rcases (Bool.or_eq_true _ _).mp hc with h | h
      · exact .inl (small64_iff h)
      · exact .inr (small64_iff h)
    · cases hf
  | [.tup as, .int kk], hf =>
    obtain ⟨v, w, g, k, rfl, ra, ⟨rfl, _⟩⟩ := rw2 hr
    simp only [pMul] at hf
    split at hf
    · rename_i hc
      obtain ⟨n1, n2, n3, n4, n5⟩ := hc
      cases (Option.some.inj hf)
      obtain ⟨a, va, rfl, ha, za, sa⟩ := ra.tupAt
      have ta := sa.seq n1
      refine ⟨_, _, rfl, .inr ⟨a, _, va, rfl, rfl, ha, fun e => n2 (by
        subst e
        exact List.length_eq_zero_iff.mp ta.len.symm), n4, n5, by rw [ta.len]; exact n3, fun p np => ?_⟩⟩
      obtain ⟨r, f⟩ := newTup (ta.flat kk.toNat) (by
        rw [PyProof.Rows.lm_len_rep_flat, lim_eq]
        have := Nat.mul_le_mul (show kk.toNat ≤ 1000 by omega) n3
        show _ ≤ 16777216
        omega) np
      exact q _ _ _ r f
    · cases hf
theorem vo_fdiv : VOp K pFdiv (r2L (rI CDiv fun i j => .int (i / j))) := by
  intro H xs vs z Q hr hf q
  match xs, hf with
  | [.int a, .int b], hf =>
    obtain ⟨v, w, g, k, rfl, ⟨rfl, _⟩, ⟨rfl, _⟩⟩ := rw2 hr
    simp only [pFdiv] at hf
    split at hf
    · rename_i hc
      cases (Option.some.inj hf)
      exact ⟨_, _, rfl, a, b, rfl, rfl, hc, q _ H Z0 rep_int (fr0 H)⟩
    · cases hf
theorem vo_mod : VOp K pMod (r2L (rI (fun _ j => 0 < j) fun i j => .int (i % j))) := by
  intro H xs vs z Q hr hf q
  match xs, hf with
  | [.int a, .int b], hf =>
    obtain ⟨v, w, g, k, rfl, ⟨rfl, _⟩, ⟨rfl, _⟩⟩ := rw2 hr
    simp only [pMod] at hf
    split at hf
    · rename_i hc
      cases (Option.some.inj hf)
      exact ⟨_, _, rfl, a, b, rfl, rfl, hc, q _ H Z0 rep_int (fr0 H)⟩
    · cases hf
theorem vo_pow : VOp K pPow (r2L (rI CPow fun i j => .int (i ^ j.toNat))) := by
  intro H xs vs z Q hr hf q
  match xs, hf with
  | [.int a, .int b], hf =>
    obtain ⟨v, w, g, k, rfl, ⟨rfl, _⟩, ⟨rfl, _⟩⟩ := rw2 hr
    simp only [pPow] at hf
    split at hf
    · rename_i hc
      cases (Option.some.inj hf)
      exact ⟨_, _, rfl, a, b, rfl, rfl, hc, q _ H Z0 rep_int (fr0 H)⟩
    · cases hf
theorem vo_shl : VOp K pShl (r2L (rI CPow fun i j => .int (i * 2 ^ j.toNat))) := by
  intro H xs vs z Q hr hf q
  match xs, hf with
  | [.int a, .int b], hf =>
    obtain ⟨v, w, g, k, rfl, ⟨rfl, _⟩, ⟨rfl, _⟩⟩ := rw2 hr
    simp only [pShl] at hf
    split at hf
    · rename_i hc
      cases (Option.some.inj hf)
      exact ⟨_, _, rfl, a, b, rfl, rfl, hc, q _ H Z0 rep_int (fr0 H)⟩
    · cases hf
theorem vo_cmp (p : Int → Int → Bool) : VOp K (pCmp p) (r2L (rI0 fun i j => .bl (p i j))) := by
  intro H xs vs z Q hr hf q
  match xs, hf with
  | [.int a, .int b], hf =>
    obtain ⟨v, w, g, k, rfl, ⟨rfl, _⟩, ⟨rfl, _⟩⟩ := rw2 hr
    cases (Option.some.inj hf)
    exact ⟨_, _, rfl, a, b, rfl, rfl, q _ H Z0 rep_bl (fr0 H)⟩
theorem vo_neg : VOp K pNeg (r1L (rU fun i => .int (-i))) := by
  intro H xs vs z Q hr hf q
  match xs, hf with
  | [.int a], hf =>
    obtain ⟨v, g, rfl, ⟨rfl, _⟩⟩ := rw1 hr
    cases (Option.some.inj hf)
    exact ⟨_, rfl, a, rfl, q _ H Z0 rep_int (fr0 H)⟩
end
/-! ### == and in, of data -/
mutual
def toD : PV → Option PyData
  | .non => some .none
  | .bl b => some (.bool b)
  | .int i => some (.int i)
  | .str x => some (.str x)
  | .tup xs => (toDs xs).map .tuple
  | .lst _ xs => (toDs xs).map .list
  | _ => none
def toDs : List PV → Option (List PyData)
  | [] => some []
  | x :: xs => match toD x, toDs xs with
    | some d, some ds => some (d :: ds)
    | _, _ => none
end
section
variable {K : PySem.W.Frag} {H : Hp} {X : Cx}
mutual
theorem dp_of : ∀ {x : PV} {v : V} {f : Fp} {d : PyData}, Rep K H x v f → toD x = some d → Dp K H v d
  | .non, v, f, d, h, e => by
    simp only [toD] at e; cases e; rw [h.1]; exact .non
  | .bl b, v, f, d, h, e => by
    simp only [toD] at e; cases e; rw [h.1]; exact .bl b
  | .int i, v, f, d, h, e => by
    simp only [toD] at e; cases e; rw [h.1]; exact .int i
  | .str x, v, f, d, h, e => by
    simp only [toD] at e; cases e; rw [h.1]; exact .str x
  | .tup xs, v, f, d, h, e => by
    obtain ⟨a, vs, rfl, t, _, r⟩ := h
    simp only [toD, Option.map_eq_some_iff] at e
    obtain ⟨ds, e1, rfl⟩ := e
    exact .tup t (dps_of r e1)
  | .lst o xs, v, f, d, h, e => by
    obtain ⟨a, vs, g, rfl, t, _, r⟩ := h.lstAt
    simp only [toD, Option.map_eq_some_iff] at e
    obtain ⟨ds, e1, rfl⟩ := e
    exact .lst t (dps_of r e1)
  | .dK _, v, f, d, h, e => by simp [toD] at e
  | .dT _, v, f, d, h, e => by simp [toD] at e
  | .sK _, v, f, d, h, e => by simp [toD] at e
theorem dps_of : ∀ {xs : List PV} {vs : List V} {f : Fp} {ds : List PyData}, Reps K H xs vs f → toDs xs = some ds → DpAll K H vs ds
  | [], vs, f, ds, h, e => by
    simp only [toDs] at e; cases e; rw [h.1]; exact .nil
  | x :: xs, vs, f, ds, h, e => by
    obtain ⟨v, ws, g, l, rfl, r, rs, _⟩ := h
    simp only [toDs] at e
    split at e
    · rename_i d1 ds1 e1 e2
      cases e
      exact .cons (dp_of r e1) (dps_of rs e2)
    · cases e
end
end
def shD (x : PV) : Option PyData := match toD x with
  | some d => if SeqAt.shaped d = true then some d else none
  | none => none
theorem shD_ok {x : PV} {d : PyData} (h : shD x = some d) : toD x = some d ∧ SeqAt.shaped d = true := by
  unfold shD at h
  split at h
  · split at h
    · cases h; exact ⟨by assumption, by assumption⟩
    · cases h
  · cases h
def pEq (neg : Bool) : List PV → Option PV
  | [x, y] => match shD x, shD y with
    | some d, some e => some (.bl (if neg then !PyData.eqv d e else PyData.eqv d e))
    | _, _ => none
  | _ => none
def inStr (neg : Bool) (x y : Str) : PV := .bl (if neg then !(!(Builtin.Str.occurrences y x 0 y.length 1).isEmpty) else !(Builtin.Str.occurrences y x 0 y.length 1).isEmpty)
def inSeq (neg : Bool) (x : PV) (ys : List PV) : Option PV := match shD x, toDs ys with
  | some d, some ds => if SeqAt.shaped (.list ds) = true then some (.bl (if neg then !(ds.any fun z => PyData.eqv z d) else ds.any fun z => PyData.eqv z d)) else none
  | _, _ => none
def pIn (neg : Bool) : List PV → Option PV
  | [x, y] => match y with
    | .str b => match x with
      | .str a => some (inStr neg a b)
      | _ => none
    | .lst _ ys => inSeq neg x ys
    | _ => none
  | _ => none
section
variable {K : PySem.W.Frag} {X : Cx}
theorem vo_eq : VOp K (pEq false) (r2L (rEqD K)) := by
  intro H xs vs z Q hr hf q
  match xs, hf with
  | [x, y], hf =>
    obtain ⟨v, w, g, k, rfl, rx, ry⟩ := rw2 hr
    simp only [pEq] at hf
    split at hf
    · rename_i d e e1 e2
      cases hf
      obtain ⟨a1, a2⟩ := shD_ok e1
      obtain ⟨b1, b2⟩ := shD_ok e2
      exact ⟨_, _, rfl, d, e, dp_of rx a1, dp_of ry b1, a2, b2, q _ H Z0 rep_bl (fr0 H)⟩
    · cases hf
theorem vo_ne : VOp K (pEq true) (r2L (rNeD K)) := by
  intro H xs vs z Q hr hf q
  match xs, hf with
  | [x, y], hf =>
    obtain ⟨v, w, g, k, rfl, rx, ry⟩ := rw2 hr
    simp only [pEq] at hf
    split at hf
    · rename_i d e e1 e2
      cases hf
      obtain ⟨a1, a2⟩ := shD_ok e1
      obtain ⟨b1, b2⟩ := shD_ok e2
      exact ⟨_, _, rfl, d, e, dp_of rx a1, dp_of ry b1, a2, b2, q _ H Z0 rep_bl (fr0 H)⟩
    · cases hf
def rInAll (K : PySem.W.Frag) : R2 := fun x y H Q => (∃ i j, x = .str i ∧ y = .str j ∧ Q (.bl (!(Builtin.Str.occurrences j i 0 j.length 1).isEmpty)) H) ∨ rInD K x y H Q
theorem op_inAll (hu : X.A.units + 65 < cLine) : OpR X (compareOp .In) (rInAll X.K) := op_in_str.or (op_inD hu)
theorem inSeq_ok {neg : Bool} {x z : PV} {ys : List PV} (h : inSeq neg x ys = some z) : ∃ d ds, shD x = some d ∧ toDs ys = some ds ∧ SeqAt.shaped (.list ds) = true ∧ z = .bl (if neg then !(ds.any fun z => PyData.eqv z d) else ds.any fun z => PyData.eqv z d) := by
  unfold inSeq at h
  split at h
  · rename_i d ds e1 e2
    split at h
    · rename_i e3
      cases h
      exact ⟨d, ds, e1, e2, e3, rfl⟩
    · cases h
  · cases h
theorem vo_in : VOp K (pIn false) (r2L (rInAll K)) := by
  intro H xs vs z Q hr hf q
  match xs, hf with
  | [x, y], hf =>
    obtain ⟨v, w, g, k, rfl, rx, ry⟩ := rw2 hr
    simp only [pIn] at hf
    split at hf
    · split at hf
      · cases hf
        obtain ⟨rfl, _⟩ := rx
        obtain ⟨rfl, _⟩ := ry
        exact ⟨_, _, rfl, .inl ⟨_, _, rfl, rfl, q _ H Z0 rep_bl (fr0 H)⟩⟩
      · cases hf
    · obtain ⟨d, ds, e1, e2, e3, rfl⟩ := inSeq_ok hf
      obtain ⟨a1, a2⟩ := shD_ok e1
      exact ⟨_, _, rfl, .inr ⟨d, ds, dp_of rx a1, dp_of ry (by simp only [toD, e2, Option.map_some]), a2, e3, q _ H Z0 rep_bl (fr0 H)⟩⟩
    · cases hf
end
/-! ### items, slices -/
def pIx : List PV → Option PV
  | [.tup xs, .int i] => match atI xs i with | some x => if x.own then none else some x | none => none
  | [.lst _ xs, .int i] => match atI xs i with | some x => if x.own then none else some x | none => none
  | [.str x, .int i] => if x.length ≤ LIM then match atI x.cps.toList i with | some c => some (.str ⟨#[c]⟩) | none => none else none
  | _ => none
theorem atI_len {α β : Type} {xs : List α} {ys : List β} {i : Int} {x : α} (h : atI xs i = some x) (e : ys.length = xs.length) : ∃ (j : Nat) (y : β), xs[j]? = some x ∧ ys[j]? = some y ∧ atI ys i = some y := by
  unfold atI at h ⊢
  rw [e]
  cases hj : ixN xs.length i with
  | none => rw [hj] at h; cases h
  | some j =>
    rw [hj] at h
    have h : xs[j]? = some x := h
    have hlt : j < ys.length := by rw [e]; exact (List.getElem?_eq_some_iff.mp h).1
    exact ⟨j, ys[j], h, List.getElem?_eq_getElem hlt, List.getElem?_eq_getElem hlt⟩
section
variable {K : PySem.W.Frag} {X : Cx}
theorem vo_ix : VOp K pIx (r2L (rIx K)) := by
  intro H xs vs z Q hr hf q
  match xs, hf with
  | [.tup as, .int i], hf =>
    obtain ⟨v, w, g, k, rfl, ra, ⟨rfl, _⟩⟩ := rw2 hr
    obtain ⟨a, va, rfl, ha, za, sa⟩ := ra.tupAt
    simp only [pIx] at hf
    cases e : atI as i with
    | none => rw [e] at hf; cases hf
    | some x =>
      rw [e] at hf
      dsimp only at hf
      split at hf
      · cases hf
      · rename_i n
        cases hf
        obtain ⟨j, y, e1, e2, e3⟩ := atI_len (ys := va) e sa.length
        obtain ⟨g', r, _⟩ := sa.get j _ y e1 e2
        exact ⟨_, _, rfl, .inr (.inl ⟨a, va, i, y, rfl, rfl, ha, e3, q _ H Z0 (r.zero (by simpa using n)) (fr0 H)⟩)⟩
  | [.lst o as, .int i], hf =>
    obtain ⟨v, w, g, k, rfl, ra, ⟨rfl, _⟩⟩ := rw2 hr
    obtain ⟨a, va, ga, rfl, ha, za, sa⟩ := ra.lstAt
    simp only [pIx] at hf
    cases e : atI as i with
    | none => rw [e] at hf; cases hf
    | some x =>
      rw [e] at hf
      dsimp only at hf
      split at hf
      · cases hf
      · rename_i n
        cases hf
        obtain ⟨j, y, e1, e2, e3⟩ := atI_len (ys := va) e sa.length
        obtain ⟨g', r, _⟩ := sa.get j _ y e1 e2
        exact ⟨_, _, rfl, .inl ⟨a, va, i, y, rfl, rfl, ha, e3, q _ H Z0 (r.zero (by simpa using n)) (fr0 H)⟩⟩
  | [.str x, .int i], hf =>
    obtain ⟨v, w, g, k, rfl, ⟨rfl, _⟩, ⟨rfl, _⟩⟩ := rw2 hr
    simp only [pIx] at hf
    split at hf
    · rename_i hl
      split at hf
      · rename_i c e
        cases hf
        exact ⟨_, _, rfl, .inr (.inr ⟨x, i, c, rfl, rfl, by rw [lim_eq]; exact hl, e, q _ H Z0 rep_str (fr0 H)⟩)⟩
      · cases hf
    · cases hf
end
def cutP {α : Type} (xs : List α) (lo hi : Option Int) : List α := (xs.drop (HT.sIx xs.length 0 lo)).take (HT.sIx xs.length xs.length hi - HT.sIx xs.length 0 lo)
end Bv
set_option maxHeartbeats 400000
namespace Bv
open PySem PySem.Spec PyProof.Rows L2
/-! ### operations on one value -/
def p1 (f : PV → Option PV) : List PV → Option PV
  | [x] => f x
  | _ => none
theorem vo1 {K : PySem.W.Frag} {f : PV → Option PV} {r : List V → Hp → VK → Prop} (h : ∀ H x v g z Q, Rep K H x v g → f x = some z → (∀ v H' g, Rep K H' z v g → Fresh H H' g → Q v H') → r [v] H Q) : VOp K (p1 f) r := by
  intro H xs vs z Q hr hf q
  match xs, hf with
  | [x], hf =>
    obtain ⟨v, g, rfl, r⟩ := rw1 hr
    exact h H x v g z Q r hf q
/-! ### slices -/
theorem cutP_length {α : Type} (xs : List α) (lo hi : Option Int) : (cutP xs lo hi).length ≤ xs.length := by
  unfold cutP
  rw [List.length_take, List.length_drop]
  omega
def pCut (lo hi : Option Int) : PV → Option PV
  | .tup xs => if PV.owns xs = false then some (.tup (cutP xs lo hi)) else none
  | .lst _ xs => if PV.owns xs = false then some (.lst true (cutP xs lo hi)) else none
  | .str x => if x.length ≤ LIM then some (.str (cutS x lo hi)) else none
  | _ => none
section
variable {K : PySem.W.Frag} {X : Cx} {H : Hp}
theorem cut_seq {xs : List PV} {vs : List V} (a : Seq0 K H xs vs) (lo hi : Option Int) : Seq0 K H (cutP xs lo hi) (cutV vs lo hi) := by
  unfold cutP cutV
  rw [a.len]
  exact (a.drop _).take _
def rSlAll (K : PySem.W.Frag) : V → Option Int → Option Int → Hp → VK → Prop := fun x lo hi H Q => rSlA K x lo hi H Q ∨ rSlL K x lo hi H Q ∨ rSlS x lo hi H Q
theorem sl_all : L2.SlR X (rSlAll X.K) := sl_tupA.or (sl_list.or sl_str)
theorem cut_whole {α : Type} {xs : List α} {lo hi : Option Int} (h1 : HT.sIx xs.length 0 lo = 0) (h2 : HT.sIx xs.length xs.length hi = xs.length) : cutP xs lo hi = xs := by
  unfold cutP
  rw [h1, h2]
  simp
theorem cut_ok {x z : PV} {lo hi : Option Int} {v : V} {g : Fp} {Q : VK} (r : Rep K H x v g) (hf : pCut lo hi x = some z) (q : ∀ v H' g, Rep K H' z v g → Fresh H H' g → Q v H') : rSlAll K v lo hi H Q := by
  cases x with
  | tup xs =>
    simp only [pCut] at hf
    split at hf
    · rename_i n
      cases hf
      obtain ⟨a, va, rfl, ha, za, sa⟩ := r.tupAt
      have ta := sa.seq n
      refine .inl ⟨a, va, rfl, ha, fun hw => ?_, fun hw p np => ?_⟩
      · rw [ta.len] at hw
        rw [cut_whole hw.1 hw.2] at q
        exact q _ H Z0 ⟨a, va, rfl, ha, za, ta.reps⟩ (fr0 H)
      · obtain ⟨r, f⟩ := newTup (cut_seq ta lo hi) (Nat.le_trans (cutP_length xs lo hi) za) np
        exact q _ _ _ r f
    · cases hf
  | lst o xs =>
    simp only [pCut] at hf
    split at hf
    · rename_i n
      cases hf
      obtain ⟨a, va, ga, rfl, ha, za, sa⟩ := r.lstAt
      have ta := sa.seq n
      refine .inr (.inl ⟨a, va, rfl, ha, fun p np => ?_⟩)
      obtain ⟨r, f⟩ := newLst (cut_seq ta lo hi) (Nat.le_trans (cutP_length xs lo hi) za) np
      exact q _ _ _ r f
    · cases hf
  | str x =>
    simp only [pCut] at hf
    split at hf
    · rename_i n
      cases hf
      obtain ⟨rfl, _⟩ := r
      exact .inr (.inr ⟨x, rfl, by rw [lim_eq]; exact n, q _ H Z0 rep_str (fr0 H)⟩)
    · cases hf
  | _ => simp [pCut] at hf
def pSlLo : List PV → Option PV
  | [x, .int i] => pCut (some i) none x
  | _ => none
def pSlHi : List PV → Option PV
  | [x, .int i] => pCut none (some i) x
  | _ => none
variable {W : WX} {a b c e : Expr} {es : List Expr} {pos p2 : Pos}
theorem se_slLo {oa ob : M Pnd} (ha : SO X W a oa) (hb : SO X W b ob) : SE X W (.Subscript a (.Slice (some b) none none p2) pos) (mOp pSlLo (oCons oa (oCons ob oNil))) :=
  PE.weaken (pe_slice sl_all ha (po_some hb) po_none) fun σ H Q q => ops2 (Q' := fun vs H2 => ∃ x i, vs = [x, V.int i] ∧ rSlAll X.K x (some i) none H2 Q) q (fun F ps s1 vs H1 g f1 _ h1 h2 h3 h4 h5 =>
    op_end (r := fun vs H2 Q => ∃ x i, vs = [x, V.int i] ∧ rSlAll X.K x (some i) none H2 Q) (fun H xs vs z Q hr hf q => by
      match xs, hf with
      | [x, .int i], hf =>
        obtain ⟨v, w, g, k, rfl, rx, ⟨rfl, _⟩⟩ := rw2 hr
        exact ⟨v, i, rfl, cut_ok rx hf q⟩) h1 h2 h3 h4 h5) |> fun z => by
    obtain ⟨s, f', z1, z2, z3⟩ := z
    refine ⟨s, f', z1, z2, z3.mono fun v H1 q1 => ?_⟩
    obtain ⟨s', f'', w1, w2, w3⟩ := q1
    refine ⟨s', f'', w1, w2, w3.mono fun v2 H2 q2 => ?_⟩
    obtain ⟨x, i, e1, q3⟩ := q2
    cases e1
    exact ⟨i, rfl, q3⟩
theorem se_slHi {oa ob : M Pnd} (ha : SO X W a oa) (hb : SO X W b ob) : SE X W (.Subscript a (.Slice none (some b) none p2) pos) (mOp pSlHi (oCons oa (oCons ob oNil))) :=
  PE.weaken (pe_slice sl_all ha po_none (po_some hb)) fun σ H Q q => ops2 (Q' := fun vs H2 => ∃ x i, vs = [x, V.int i] ∧ rSlAll X.K x none (some i) H2 Q) q (fun F ps s1 vs H1 g f1 _ h1 h2 h3 h4 h5 =>
    op_end (r := fun vs H2 Q => ∃ x i, vs = [x, V.int i] ∧ rSlAll X.K x none (some i) H2 Q) (fun H xs vs z Q hr hf q => by
      match xs, hf with
      | [x, .int i], hf =>
        obtain ⟨v, w, g, k, rfl, rx, ⟨rfl, _⟩⟩ := rw2 hr
        exact ⟨v, i, rfl, cut_ok rx hf q⟩) h1 h2 h3 h4 h5) |> fun z => by
    obtain ⟨s, f', z1, z2, z3⟩ := z
    refine ⟨s, f', z1, z2, z3.mono fun v H1 q1 => ?_⟩
    obtain ⟨s', f'', w1, w2, w3⟩ := q1
    refine ⟨s', f'', w1, w2, w3.mono fun v2 H2 q2 => ?_⟩
    obtain ⟨x, i, e1, q3⟩ := q2
    cases e1
    exact ⟨i, rfl, q3⟩
/-! ### built-in functions -/
def pLen1 : PV → Option PV
  | .str x => if x.length ≤ LIM then some (.int x.length) else none
  | .tup xs => some (.int xs.length)
  | .lst _ xs => some (.int xs.length)
  | _ => none
def pLen := p1 pLen1
theorem vo_len : VOp K pLen (fun xs H Q => ∃ x n, xs = [x] ∧ LenV K x H n ∧ Q (.int n) H) := by
  refine vo1 fun H x v g z Q r hf q => ?_
  cases x with
  | str y =>
    simp only [pLen1] at hf
    split at hf
    · rename_i hl
      cases hf
      obtain ⟨rfl, _⟩ := r
      exact ⟨_, _, rfl, ⟨by rw [lim_eq]; exact hl, rfl⟩, q _ H Z0 rep_int (fr0 H)⟩
    · cases hf
  | tup ys =>
    cases (Option.some.inj hf)
    obtain ⟨a, va, rfl, ha, za, sa⟩ := r.tupAt
    exact ⟨_, ys.length, rfl, .inr ⟨va, ha, sa.length.symm⟩, q _ H Z0 rep_int (fr0 H)⟩
  | lst o ys =>
    cases (Option.some.inj hf)
    obtain ⟨a, va, ga, rfl, ha, za, sa⟩ := r.lstAt
    exact ⟨_, ys.length, rfl, .inl ⟨va, ha, sa.length.symm⟩, q _ H Z0 rep_int (fr0 H)⟩
  | _ => simp [pLen1] at hf
def pTuple1 : PV → Option PV
  | .tup xs => if PV.owns xs = false then some (.tup xs) else none
  | .lst _ xs => if PV.owns xs = false then some (.tup xs) else none
  | _ => none
def pTuple := p1 pTuple1
theorem vo_tuple : VOp K pTuple (fun xs H Q => ∃ p ys, xs = [.ref p] ∧ ((SqL K H p ys ∧ ∀ l, H l = none → Q (.ref l) (upd H l (.tup ys))) ∨ (SqT K H p ys ∧ Q (.ref p) H))) := by
  refine vo1 fun H x v g z Q r hf q => ?_
  cases x with
  | tup ys =>
    simp only [pTuple1] at hf
    split at hf
    · rename_i n
      cases hf
      obtain ⟨a, va, rfl, ha, za, sa⟩ := r.tupAt
      exact ⟨a, va, rfl, .inr ⟨ha, q _ H Z0 ⟨a, va, rfl, ha, za, (sa.seq n).reps⟩ (fr0 H)⟩⟩
    · cases hf
  | lst o ys =>
    simp only [pTuple1] at hf
    split at hf
    · rename_i n
      cases hf
      obtain ⟨a, va, ga, rfl, ha, za, sa⟩ := r.lstAt
      refine ⟨a, va, rfl, .inl ⟨ha, fun p np => ?_⟩⟩
      obtain ⟨r, f⟩ := newTup (sa.seq n) za np
      exact q _ _ _ r f
    · cases hf
  | _ => simp [pTuple1] at hf
def pList1 : PV → Option PV
  | .tup xs => if PV.owns xs = false then some (.lst true xs) else none
  | .lst _ xs => if PV.owns xs = false then some (.lst true xs) else none
  | _ => none
def pList := p1 pList1
theorem vo_list : VOp K pList (fun xs H Q => ∃ p ys, xs = [.ref p] ∧ (SqL K H p ys ∨ SqT K H p ys) ∧ ∀ l, H l = none → Q (.ref l) (upd H l (.lst ys))) := by
  refine vo1 fun H x v g z Q r hf q => ?_
  cases x with
  | tup ys =>
    simp only [pList1] at hf
    split at hf
    · rename_i n
      cases hf
      obtain ⟨a, va, rfl, ha, za, sa⟩ := r.tupAt
      refine ⟨a, va, rfl, .inr ha, fun p np => ?_⟩
      obtain ⟨r, f⟩ := newLst (sa.seq n) za np
      exact q _ _ _ r f
    · cases hf
  | lst o ys =>
    simp only [pList1] at hf
    split at hf
    · rename_i n
      cases hf
      obtain ⟨a, va, ga, rfl, ha, za, sa⟩ := r.lstAt
      refine ⟨a, va, rfl, .inl ha, fun p np => ?_⟩
      obtain ⟨r, f⟩ := newLst (sa.seq n) za np
      exact q _ _ _ r f
    · cases hf
  | _ => simp [pList1] at hf
/-- the boolsP, the intsP, the textsP of a row -/
def boolsP : List PV → Option (List Bool)
  | [] => some []
  | .bl b :: r => (boolsP r).map (b :: ·)
  | _ => none
def intsP : List PV → Option (List Int)
  | [] => some []
  | .int b :: r => (intsP r).map (b :: ·)
  | _ => none
theorem bools_ok : ∀ {xs : List PV} {bs : List Bool} {vs : List V} {f : Fp}, boolsP xs = some bs → Reps K H xs vs f → vs = bs.map V.bl
  | [], bs, vs, f, e, h => by cases e; exact h.1
  | .bl b :: r, bs, vs, f, e, h => by
    simp only [boolsP, Option.map_eq_some_iff] at e
    obtain ⟨cs, e1, rfl⟩ := e
    obtain ⟨v, ws, g, l, rfl, ⟨rfl, _⟩, rs, _⟩ := h
    rw [bools_ok e1 rs]; rfl
  | .non :: r, _, _, _, e, _ => by cases e
  | .int _ :: r, _, _, _, e, _ => by cases e
  | .str _ :: r, _, _, _, e, _ => by cases e
  | .tup _ :: r, _, _, _, e, _ => by cases e
  | .lst _ _ :: r, _, _, _, e, _ => by cases e
  | .dK _ :: r, _, _, _, e, _ => by cases e
  | .dT _ :: r, _, _, _, e, _ => by cases e
  | .sK _ :: r, _, _, _, e, _ => by cases e
theorem ints_ok : ∀ {xs : List PV} {bs : List Int} {vs : List V} {f : Fp}, intsP xs = some bs → Reps K H xs vs f → vs = bs.map V.int
  | [], bs, vs, f, e, h => by cases e; exact h.1
  | .int b :: r, bs, vs, f, e, h => by
    simp only [intsP, Option.map_eq_some_iff] at e
    obtain ⟨cs, e1, rfl⟩ := e
    obtain ⟨v, ws, g, l, rfl, ⟨rfl, _⟩, rs, _⟩ := h
    rw [ints_ok e1 rs]; rfl
  | .non :: r, _, _, _, e, _ => by cases e
  | .bl _ :: r, _, _, _, e, _ => by cases e
  | .str _ :: r, _, _, _, e, _ => by cases e
  | .tup _ :: r, _, _, _, e, _ => by cases e
  | .lst _ _ :: r, _, _, _, e, _ => by cases e
  | .dK _ :: r, _, _, _, e, _ => by cases e
  | .dT _ :: r, _, _, _, e, _ => by cases e
  | .sK _ :: r, _, _, _, e, _ => by cases e
def pAll1 : PV → Option PV
  | .lst _ xs => (boolsP xs).map fun bs => .bl (bs.all id)
  | _ => none
def pAll := p1 pAll1
def pAny1 : PV → Option PV
  | .lst _ xs => (boolsP xs).map fun bs => .bl (bs.any id)
  | _ => none
def pAny := p1 pAny1
theorem vo_all : VOp K pAll (rAll K) := by
  refine vo1 fun H x v g z Q r hf q => ?_
  cases x with
  | lst o ys =>
    simp only [pAll1, Option.map_eq_some_iff] at hf
    obtain ⟨bs, e, rfl⟩ := hf
    obtain ⟨a, va, ga, rfl, ha, za, sa⟩ := r.lstAt
    exact ⟨a, bs, rfl, by rw [← bools_ok e sa]; exact ha, q _ H Z0 rep_bl (fr0 H)⟩
  | _ => simp [pAll1] at hf
theorem vo_any : VOp K pAny (rAny K) := by
  refine vo1 fun H x v g z Q r hf q => ?_
  cases x with
  | lst o ys =>
    simp only [pAny1, Option.map_eq_some_iff] at hf
    obtain ⟨bs, e, rfl⟩ := hf
    obtain ⟨a, va, ga, rfl, ha, za, sa⟩ := r.lstAt
    exact ⟨a, bs, rfl, by rw [← bools_ok e sa]; exact ha, q _ H Z0 rep_bl (fr0 H)⟩
  | _ => simp [pAny1] at hf
def pInt1 : List PV → Option PV
  | [.int i] => some (.int i)
  | [.bl k] => some (.int (if k then 1 else 0))
  | [.str a] => match PySem.intText? a with | some n => if a.length ≤ 640 then some (.int n) else none | none => none
  | _ => none
theorem vo_int1 : VOp K pInt1 (fun xs H Q => ((∃ i, xs = [.int i] ∧ Q (.int i) H) ∨ ∃ k, xs = [.bl k] ∧ Q (.int (if k then 1 else 0)) H) ∨ ∃ a n, xs = [.str a] ∧ PySem.intText? a = some n ∧ a.length ≤ 640 ∧ Q (.int n) H) := by
  intro H xs vs z Q hr hf q
  match xs, hf with
  | [.int i], hf =>
    obtain ⟨v, g, rfl, ⟨rfl, _⟩⟩ := rw1 hr
    cases (Option.some.inj hf)
    exact .inl (.inl ⟨i, rfl, q _ H Z0 rep_int (fr0 H)⟩)
  | [.bl i], hf =>
    obtain ⟨v, g, rfl, ⟨rfl, _⟩⟩ := rw1 hr
    cases (Option.some.inj hf)
    exact .inl (.inr ⟨i, rfl, q _ H Z0 rep_int (fr0 H)⟩)
  | [.str a], hf =>
    obtain ⟨v, g, rfl, ⟨rfl, _⟩⟩ := rw1 hr
    simp only [pInt1] at hf
    split at hf
    · rename_i n e
      split at hf
      · rename_i hl
        cases hf
        exact .inr ⟨a, n, rfl, e, hl, q _ H Z0 rep_int (fr0 H)⟩
      · cases hf
    · cases hf
def pAbs : List PV → Option PV
  | [.int i] => some (.int (if i < 0 then -i else i))
  | _ => none
theorem vo_abs : VOp K pAbs (fun xs H Q => ∃ i, xs = [.int i] ∧ Q (.int (if i < 0 then -i else i)) H) := by
  intro H xs vs z Q hr hf q
  match xs, hf with
  | [.int i], hf =>
    obtain ⟨v, g, rfl, ⟨rfl, _⟩⟩ := rw1 hr
    cases (Option.some.inj hf)
    exact ⟨i, rfl, q _ H Z0 rep_int (fr0 H)⟩
def pStr : List PV → Option PV
  | [.int i] => if i.natAbs.log2 < 1920 then some (.str (toString i)) else none
  | _ => none
theorem vo_str : VOp K pStr (fun xs H Q => ∃ i, xs = [.int i] ∧ i.natAbs.log2 < 1920 ∧ Q (.str (toString i)) H) := by
  intro H xs vs z Q hr hf q
  match xs, hf with
  | [.int i], hf =>
    obtain ⟨v, g, rfl, ⟨rfl, _⟩⟩ := rw1 hr
    simp only [pStr] at hf
    split at hf
    · rename_i hl
      cases hf
      exact ⟨i, rfl, hl, q _ H Z0 rep_str (fr0 H)⟩
    · cases hf
end
/-! ### isinstance of built-in types -/
def tyOf : PV → Option String
  | .non => some "NoneType"
  | .bl _ => some "bool"
  | .int _ => some "int"
  | .str _ => some "str"
  | .tup _ => some "tuple"
  | .lst _ _ => some "list"
  | .dK _ => some "dict"
  | .dT _ => some "dict"
  | _ => none
def isTy (T : String) (t : String) : Bool := t == T || (T == "int" && t == "bool")
def pIsi1 (T : String) (x : PV) : Option PV := (tyOf x).map fun t => .bl (isTy T t)
def pIsi (T : String) := p1 (pIsi1 T)
section
variable {K : PySem.W.Frag} {X : Cx} {H : Hp} {W : WX} {a : Expr}
theorem tyX_of {x : PV} {v : V} {g : Fp} {t : String} (r : Rep K H x v g) (e : tyOf x = some t) : TyX K H v (.type t) := by
  cases x with
  | non => cases e; rw [r.1]; exact .base .non
  | bl b => cases e; rw [r.1]; exact .base (.bl b)
  | int b => cases e; rw [r.1]; exact .base (.int b)
  | str b => cases e; rw [r.1]; exact .base (.str b)
  | tup xs =>
    cases e
    obtain ⟨a, va, rfl, ha, _, _⟩ := r.tupAt
    rcases ha with (h | ⟨o, h⟩) | ⟨o, its, n, hk, hc, _⟩
    · exact .base (.tup h)
    · exact .fTuple h
    · exact .kTuple hk hc
  | lst o xs =>
    cases e
    obtain ⟨a, va, ga, rfl, ha, _, _⟩ := r.lstAt
    rcases ha with (h | ⟨o, h⟩) | ⟨o, its, n, hk, hc, _⟩
    · exact .base (.lst h)
    · exact .base (.frz h)
    · exact .kList hk hc
  | dK xs =>
    cases e
    obtain ⟨a, ws, g, rfl, h, _⟩ := r
    exact .base (.dK h)
  | dT xs =>
    cases e
    obtain ⟨a, ws, g, rfl, h, _⟩ := r
    exact .base (.dT h)
  | sK _ => exact r.elim
def rIsi1 (K : PySem.W.Frag) (T : String) : List V → Hp → VK → Prop := fun vs H Q => ∃ x, vs = [x] ∧ rIsi K [x, .ty T] H Q
theorem vo_isi {T : String} (hT : ∀ x t, tyOf x = some t → kitB t T = some (isTy T t)) : VOp K (pIsi T) (rIsi1 K T) := by
  refine vo1 fun H x v g z Q r hf q => ?_
  simp only [pIsi1, Option.map_eq_some_iff] at hf
  obtain ⟨t, e, rfl⟩ := hf
  exact ⟨v, rfl, v, .ty T, .type t, .type T, isTy T t, rfl, .ty T, tyX_of r e, kit_ty (hT x t e), q _ H Z0 rep_bl (fr0 H)⟩
theorem kit_all {T : String} (h : kitB "NoneType" T = some (isTy T "NoneType") ∧ kitB "bool" T = some (isTy T "bool") ∧ kitB "int" T = some (isTy T "int") ∧ kitB "str" T = some (isTy T "str") ∧ kitB "tuple" T = some (isTy T "tuple") ∧ kitB "list" T = some (isTy T "list") ∧ kitB "dict" T = some (isTy T "dict")) :
    ∀ x t, tyOf x = some t → kitB t T = some (isTy T t) := by
  intro x t e
  obtain ⟨h1, h2, h3, h4, h5, h6, h7⟩ := h
  cases x <;> simp only [tyOf, Option.some.injEq, reduceCtorEq] at e <;> subst e <;> assumption
theorem kit_int : ∀ x t, tyOf x = some t → kitB t "int" = some (isTy "int" t) := kit_all (by decide +kernel)
theorem kit_bool : ∀ x t, tyOf x = some t → kitB t "bool" = some (isTy "bool" t) := kit_all (by decide +kernel)
theorem kit_str : ∀ x t, tyOf x = some t → kitB t "str" = some (isTy "str" t) := kit_all (by decide +kernel)
theorem kit_tuple : ∀ x t, tyOf x = some t → kitB t "tuple" = some (isTy "tuple" t) := kit_all (by decide +kernel)
theorem se_isi {T : String} {x : Str} {p p2 pos : Pos} {oa : M Pnd} (hT : ∀ x t, tyOf x = some t → kitB t T = some (isTy T t)) (hg : Gl X "isinstance") (hm : X.mg "isinstance" = none) (hg2 : Gl X x) (hm2 : X.mg x = none) (hv2 : bootBuiltins x = some (.type T))
    (ha : SO X W a oa) (hn2 : x ≠ "__name__" := by decide) (hdb2 : (x == ("__debug__" : Str)) = false := by decide)
    (he : starEach [a, .Name x p2] X.env = (false, eval a X.env) :: starEach [.Name x p2] X.env := by rfl) (hpl : (backTo pos (starEach [.Name x p2] X.env)).any (·.1) = false := by rfl) (he2 : starEach [.Name x p2] X.env = (false, eval (.Name x p2) X.env) :: starEach [] X.env := by rfl) :
    SE X W (.Call (.Name "isinstance" p) [a, .Name x p2] [] pos) (mOp (pIsi T) (oCons oa oNil)) :=
  PE.weaken (pe_callB call_isi hg hm (by decide +kernel) (pa_cons ha (pa_cons (pe_bltn (v := .ty T) hg2 hm2 hv2 rfl hn2 hdb2) pa_nil he2) he) (by decide) (by decide) he hpl) fun σ H Q q => ops1 (Q' := fun vs H2 => rIsi1 X.K T vs H2 Q) q (fun F ps s1 vs H1 g f1 _ h1 h2 h3 h4 h5 => op_end (vo_isi hT) h1 h2 h3 h4 h5) |> fun z => by
    obtain ⟨s, f', z1, z2, z3⟩ := z
    refine ⟨s, f', z1, z2, z3.mono fun v H1 q1 => ?_⟩
    obtain ⟨x, e1, q3⟩ := q1
    cases e1
    exact q3
end
end Bv
set_option maxHeartbeats 400000
namespace Bv
open PySem PySem.Spec PyProof.Rows L2
/-! ### names and constants -/
def mC (x : PV) : M PV := fun s => .ok x s
section
variable {X : Cx} {W : WX} {e : Expr} {es : List Expr}
theorem se_C {x : PV} {v : V} (h : PE X e (tC v)) (r : ∀ H, Rep X.K H x v Z0) : SE X W e (mC x) := PE.weaken h fun σ H Q q => by
  obtain ⟨s, f, h1, h2, h3⟩ := q
  exact h3 v H Z0 f (r H) h1 (fun b => by have := h2 b; simpa using this) (Frm.refl fun b z => by simpa using z)
theorem se_int {i : Int} {j pos} : SE X W (.Constant (.int i) j pos) (mC (.int i)) := se_C pe_int fun _ => rep_int
theorem se_bl {i : Bool} {j pos} : SE X W (.Constant (.bool i) j pos) (mC (.bl i)) := se_C pe_bl fun _ => rep_bl
theorem se_str {i : Str} {j pos} : SE X W (.Constant (.str i) j pos) (mC (.str i)) := se_C pe_str fun _ => rep_str
theorem se_non {j pos} : SE X W (.Constant .none j pos) (mC .non) := se_C pe_non fun _ => rep_non
/-! ### rows of values, displays -/
def SV (X : Cx) (W : WX) (es : List Expr) (m : M (List PV)) : Prop := PA X es (rdG (Reps X.K) X W m)
def vNil : M (List PV) := fun s => .ok [] s
def vCons (m : M PV) (ms : M (List PV)) : M (List PV) := fun s => (m s).bind fun x s1 => (ms s1).bind fun xs s2 => .ok (x :: xs) s2
theorem sv_nil : SV X W [] vNil := PA.weaken pa_nil fun σ H Q q => by
  obtain ⟨s, f, h1, h2, h3⟩ := q
  exact h3 [] H Z0 f ⟨rfl, fun _ => rfl⟩ h1 (fun b => by have := h2 b; simpa using this) (Frm.refl fun b z => by simpa using z)
theorem sv_cons {m : M PV} {ms : M (List PV)} (h : SE X W e m) (hs : SV X W es ms) (hst : starEach (e :: es) X.env = (false, eval e X.env) :: starEach es X.env := by rfl) : SV X W (e :: es) (vCons m ms) :=
  PA.weaken (pa_cons h hs hst) fun σ H Q q => by
    refine rdG.bind (ρ := Rep X.K) q fun f a s1 v H1 g f1 h0 h1 h2 h3 h4 h5 => ?_
    refine rdG.next (ρ := Reps X.K) (stable_rep X.K) h1 h2 h3 h4 h5 fun ps s2 vs H2 g2 f2 k1 k2 k3 k4 k5 k6 => ?_
    exact k6 (v :: vs) H2 (fun b => g b + g2 b) f2 ⟨v, vs, g, g2, rfl, k1, k2, fun _ => rfl⟩ k3 (fun b => by have := k4 b; omega) k5
def mTup (ms : M (List PV)) : M PV := fun s => (ms s).bind fun xs s' => if xs.length ≤ LIM then .ok (.tup xs) s' else .bad
def mLst (ms : M (List PV)) : M PV := fun s => (ms s).bind fun xs s' => if xs.length ≤ LIM then .ok (.lst true xs) s' else .bad
theorem live_of {K : PySem.W.Frag} {H : Hp} {s : Sl} {τ : L2.St} {f : Fp} {p : Addr} (h : SLR K H s τ f) (n : H p = none) : f p = 0 := by
  refine Classical.byContradiction fun c => ?_
  obtain ⟨o, ho, _⟩ := h.mut c
  rw [n] at ho; cases ho
theorem live_reps {K : PySem.W.Frag} {H : Hp} {xs : List PV} {vs : List V} {f : Fp} {p : Addr} (h : Reps K H xs vs f) (n : H p = none) : f p = 0 := by
  refine Classical.byContradiction fun c => ?_
  obtain ⟨o, ho, _⟩ := h.mut c
  rw [n] at ho; cases ho
theorem keptZ {H H' : Hp} (k : ∀ b o, H b = some o → H' b = some o) : Kept H H' Z0 := fun b o e _ => k b o e
theorem SLR.keptZ {K : PySem.W.Frag} {H H' : Hp} {s : Sl} {τ : L2.St} {f : Fp} (h : SLR K H s τ f) (k : ∀ b o, H b = some o → H' b = some o) : SLR K H' s τ f := h.kept (Bv.keptZ k) (fun _ n => absurd rfl n) (fun _ _ => rfl)
theorem Reps.keptZ {K : PySem.W.Frag} {H H' : Hp} {s : List PV} {τ : List V} {f : Fp} (h : Reps K H s τ f) (k : ∀ b o, H b = some o → H' b = some o) : Reps K H' s τ f := h.kept (Bv.keptZ k) (fun _ n => absurd rfl n) (fun _ _ => rfl)
theorem Rep.keptZ {K : PySem.W.Frag} {H H' : Hp} {s : PV} {τ : V} {f : Fp} (h : Rep K H s τ f) (k : ∀ b o, H b = some o → H' b = some o) : Rep K H' s τ f := h.kept (Bv.keptZ k) (fun _ n => absurd rfl n) (fun _ _ => rfl)
theorem se_tup {ms : M (List PV)} {pos : Pos} {x1} (h : SV X W es ms) : SE X W (.Tuple es x1 pos) (mTup ms) := PE.weaken (pe_tup h) fun σ H Q q => by
  refine rdG.bind (ρ := Reps X.K) q fun f xs s1 vs H1 g f1 h0 h1 h2 h3 h4 h5 => ?_
  split at h5
  · rename_i hl
    refine ⟨by rw [h1.length, lim_eq]; exact hl, fun p np => ?_⟩
    have k := keep_upd (o := .tup vs) np
    exact h5 (.ref p) _ g f1 ⟨p, vs, rfl, SqT.of upd_same, by rw [lim_eq]; exact hl, h1.keptZ k⟩ (h2.keptZ k) h3 ⟨fun b o e z => k b o (h4.keep b o e z), h4.own⟩
  · exact h5.elim
theorem se_lst {ms : M (List PV)} {pos : Pos} (h : SV X W es ms) : SE X W (.List es pos) (mLst ms) := PE.weaken (pe_lst h) fun σ H Q q => by
  refine rdG.bind (ρ := Reps X.K) q fun f xs s1 vs H1 g f1 h0 h1 h2 h3 h4 h5 => ?_
  split at h5
  · rename_i hl
    refine ⟨by rw [h1.length, lim_eq]; exact hl, fun p np => ?_⟩
    have k := keep_upd (o := .lst vs) np
    refine h5 (.ref p) _ (fun b => g b + one p b) f1 ⟨p, vs, g, rfl, upd_same, by rw [lim_eq]; exact hl, h1.keptZ k, fun _ => rfl⟩ (h2.keptZ k) (fun b => ?_) ⟨fun b o e z => k b o (h4.keep b o e z), fun b o e z => ?_⟩
    · by_cases hb : b = p
      · subst hb
        have := live_of h2 np
        have := live_reps h1 np
        rw [one_self]; omega
      · rw [one_ne hb]; have := h3 b; omega
    · have y : g b + f1 b = 0 := h4.own b o e z
      have : b ≠ p := fun z' => by
        subst z'
        rw [h4.keep _ o e z] at np; cases np
      show g b + one p b + f1 b = 0
      rw [one_ne this]; omega
  · exact h5.elim
end
/-! ### tests -/
def BRep (_ : Hp) (b c : Bool) (g : Fp) : Prop := b = c ∧ ∀ x, g x = 0
def ST (X : Cx) (W : WX) (e : Expr) (m : M Bool) : Prop := PT X e (rdG BRep X W m)
def mT (m : M PV) : M Bool := fun s => (m s).bind fun x s' => match x with | .bl b => .ok b s' | _ => .bad
def mAnd (a b : M Bool) : M Bool := fun s => (a s).bind fun c s' => if c then b s' else .ok false s'
def mOr (a b : M Bool) : M Bool := fun s => (a s).bind fun c s' => if c then .ok true s' else b s'
def mNot (a : M Bool) : M Bool := fun s => (a s).bind fun c s' => .ok (!c) s'
def mIte {α : Type} (c : M Bool) (a b : M α) : M α := fun s => (c s).bind fun d s' => if d then a s' else b s'
section
variable {X : Cx} {W : WX} {e a b c : Expr} {rest : List Expr} {pos : Pos}
theorem gp_same {α β : Type} {ρ : Hp → α → β → Fp → Prop} {H H1 : Hp} {f g f1 : Fp} {σ : L2.St} {Q : β → Hp → Prop} {r : R α} (z : ∀ b, g b = 0) (fr : Frm H H1 f (fun b => g b + f1 b)) (h : GP ρ X W H f σ Q r) : GP ρ X W H1 f1 σ Q r := by
  have z1 : ∀ b, g b + f1 b = 0 → f1 b = 0 := fun b h => by omega
  cases r with
  | ok a s' => exact fun v H' g' f' h1 h2 h3 h4 => h v H' g' f' h1 h2 h3 ⟨fun c o e y => h4.keep c o (fr.keep c o e y) (z1 c (fr.own c o e y)), fun c o e y => h4.own c o (fr.keep c o e y) (z1 c (fr.own c o e y))⟩
  | exc x s' => exact XPost.step h fr z1
  | bad => exact h
theorem gp_ok {α β : Type} {ρ : Hp → α → β → Fp → Prop} {H H1 : Hp} {f g f1 : Fp} {σ : L2.St} {Q : β → Hp → Prop} {x : α} {s1 : Sl} {v : β} (h : GP ρ X W H f σ Q (.ok x s1)) (r : ρ H1 x v Z0) (z : ∀ b, g b = 0) (hs : SLR X.K H1 s1 σ f1) (le : ∀ b, g b + f1 b ≤ 1) (fr : Frm H H1 f (fun b => g b + f1 b)) : Q v H1 :=
  h v H1 Z0 f1 r hs (fun b => by have := le b; show 0 + f1 b ≤ 1; omega) ⟨fr.keep, fun c o e y => by have : g c + f1 c = 0 := fr.own c o e y; show 0 + f1 c = 0; omega⟩
/-- a bool's value as a test -/
theorem test_of {m : M PV} {σ : L2.St} {H : Hp} {Q : Bool → Hp → Prop} (q : rdG BRep X W (mT m) σ H Q) : rdG (Rep X.K) X W m σ H (fun x H1 => ∃ c, x = .bl c ∧ Q c H1) := by
  refine rdG.bind (ρ := Rep X.K) q fun f x s1 v H1 g f1 h0 h1 h2 h3 h4 h5 => ?_
  cases x with
  | bl d =>
    obtain ⟨rfl, z⟩ := h1
    exact ⟨d, rfl, gp_ok h5 ⟨rfl, fun _ => rfl⟩ z h2 h3 h4⟩
  | _ => exact h5.elim
theorem st_val {m : M PV} (h : SE X W e m) (he : ∀ whole, isTrue e X.env whole = (do let v ← whole; standAt e.pos; holding [v] (truthy v)) := by intro _; rfl) : ST X W e (mT m) := PT.weaken (pt_val h he) fun σ H Q q => test_of q
theorem st_cmp {op : CmpOp} {r : R2} {f : List PV → Option PV} {oa ob : M Pnd} (ho : OpR X (compareOp op) r) (vo : VOp X.K f (r2L r)) (ha : SO X W a oa) (hb : SO X W b ob) (hm : behindInMarks op b = false) : ST X W (.Compare a [op] [b] pos) (mT (mOp f (oCons oa (oCons ob oNil)))) :=
  PT.weaken (pt_cmpR ho ha hb hm) fun σ H Q q => by
    have z := ops2 (Q' := fun vs H2 => ∃ x y, vs = [x, y] ∧ r x y H2 (fun x H1 => ∃ c, x = .bl c ∧ Q c H1)) (test_of q) (fun F ps s1 vs H1 g f1 _ h1 h2 h3 h4 h5 => op_end (r := r2L r) vo h1 h2 h3 h4 h5)
    obtain ⟨s, f', z1, z2, z3⟩ := z
    refine ⟨s, f', z1, z2, z3.mono fun v H1 q1 => ?_⟩
    obtain ⟨s', f'', w1, w2, w3⟩ := q1
    refine ⟨s', f'', w1, w2, w3.mono fun v2 H2 q2 => ?_⟩
    obtain ⟨x, y, e1, q3⟩ := q2
    cases e1
    exact q3
def SW (X : Cx) (W : WX) (e : Expr) (m : M Bool) : Prop := PW X e (rdG BRep X W m)
theorem PW.weaken {X : Cx} {e : Expr} {t t' : TT} (h : PW X e t) (w : ∀ σ H Q, t' σ H Q → t σ H Q) : PW X e t' := ⟨fun wh pins s σ H Q I q => h.run wh pins s σ H Q I (w σ H Q q)⟩
theorem sw_and1 {m : M Bool} (h : ST X W a m) : SW X W (.BoolOp .And [a] pos) m := pw_and1 h
theorem sw_or1 {m : M Bool} (h : ST X W a m) : SW X W (.BoolOp .Or [a] pos) m := pw_or1 h
theorem sw_and {m n : M Bool} (h : ST X W a m) (hb : SW X W (.BoolOp .And (b :: rest) pos) n) : SW X W (.BoolOp .And (a :: b :: rest) pos) (mAnd m n) := PW.weaken (pw_and h hb) fun σ H Q q => by
  refine rdG.bind (ρ := BRep) q fun f x s1 v H1 g f1 h0 h1 h2 h3 h4 h5 => ?_
  obtain ⟨rfl, z⟩ := h1
  cases x with
  | true => exact ⟨s1, f1, h2, fun b => by have := h3 b; omega, gp_same z h4 h5⟩
  | false => exact gp_ok h5 ⟨rfl, fun _ => rfl⟩ z h2 h3 h4
theorem sw_or {m n : M Bool} (h : ST X W a m) (hb : SW X W (.BoolOp .Or (b :: rest) pos) n) : SW X W (.BoolOp .Or (a :: b :: rest) pos) (mOr m n) := PW.weaken (pw_or h hb) fun σ H Q q => by
  refine rdG.bind (ρ := BRep) q fun f x s1 v H1 g f1 h0 h1 h2 h3 h4 h5 => ?_
  obtain ⟨rfl, z⟩ := h1
  cases x with
  | false => exact ⟨s1, f1, h2, fun b => by have := h3 b; omega, gp_same z h4 h5⟩
  | true => exact gp_ok h5 ⟨rfl, fun _ => rfl⟩ z h2 h3 h4
theorem st_bool {m : M Bool} (h : SW X W e m) : ST X W e m := h.pt
theorem st_not {m : M Bool} (h : ST X W a m) : ST X W (.UnaryOp .Not a pos) (mNot m) := PT.weaken (pt_not h) fun σ H Q q => by
  refine rdG.bind (ρ := BRep) q fun f x s1 v H1 g f1 h0 h1 h2 h3 h4 h5 => ?_
  obtain ⟨rfl, z⟩ := h1
  exact gp_ok h5 ⟨rfl, fun _ => rfl⟩ z h2 h3 h4
/-- .. as values -/
def mAndV (a b : M PV) : M PV := fun s => (a s).bind fun x s' => match x with | .bl c => if c then b s' else .ok (.bl false) s' | _ => .bad
def mOrV (a b : M PV) : M PV := fun s => (a s).bind fun x s' => match x with | .bl c => if c then .ok (.bl true) s' else b s' | _ => .bad
def mNotV (a : M PV) : M PV := fun s => (a s).bind fun x s' => match x with | .bl c => .ok (.bl (!c)) s' | _ => .bad
theorem se_one {op : BoolOp} {m : M PV} (h : SE X W a m) : SE X W (.BoolOp op [a] pos) m := pe_one h
theorem se_and {m n : M PV} (h : SE X W a m) (hb : SE X W (.BoolOp .And (b :: rest) pos) n) : SE X W (.BoolOp .And (a :: b :: rest) pos) (mAndV m n) := PE.weaken (pe_and h hb) fun σ H Q q => by
  refine rdG.bind (ρ := Rep X.K) q fun f x s1 v H1 g f1 h0 h1 h2 h3 h4 h5 => ?_
  cases x with
  | bl d =>
    obtain ⟨rfl, z⟩ := h1
    refine ⟨d, rfl, ?_⟩
    cases d with
    | true => exact ⟨s1, f1, h2, fun b => by have := h3 b; omega, gp_same z h4 h5⟩
    | false => exact gp_ok h5 rep_bl z h2 h3 h4
  | _ => exact h5.elim
theorem se_not {m : M PV} (h : SE X W a m) : SE X W (.UnaryOp .Not a pos) (mNotV m) := PE.weaken (pe_not h) fun σ H Q q => by
  refine rdG.bind (ρ := Rep X.K) q fun f x s1 v H1 g f1 h0 h1 h2 h3 h4 h5 => ?_
  cases x with
  | bl d =>
    obtain ⟨rfl, z⟩ := h1
    exact ⟨d, rfl, gp_ok h5 rep_bl z h2 h3 h4⟩
  | _ => exact h5.elim
/-- -x -/
theorem se_neg {oa : M Pnd} (ha : SO X W a oa) : SE X W (.UnaryOp .USub a pos) (mOp pNeg (oCons oa oNil)) :=
  PE.weaken (pe_un un_neg ha) fun σ H Q q => by
    have z := ops1 (Q' := fun vs H2 => ∃ x, vs = [x] ∧ rU (fun i => .int (-i)) x H2 Q) q (fun F ps s1 vs H1 g f1 _ h1 h2 h3 h4 h5 => op_end (r := r1L (rU fun i => .int (-i))) vo_neg h1 h2 h3 h4 h5)
    obtain ⟨s, f', z1, z2, z3⟩ := z
    refine ⟨s, f', z1, z2, z3.mono fun v H1 q1 => ?_⟩
    obtain ⟨x, e1, q3⟩ := q1
    cases e1
    exact q3
end
end Bv
set_option maxHeartbeats 400000
namespace Bv
open PySem PySem.Spec PyProof.Rows L2
/-! ### a < b < c of ints -/
def intOf (s : Sl) (p : Pnd) : Option Int := match p.get s with | some (.int i) => some i | _ => none
def mChain (p p' : Int → Int → Bool) (oa ob oc : M Pnd) : M PV := fun s => (oa s).bind fun pa s1 => (ob s1).bind fun pb s2 =>
  match intOf s2 pa, intOf s2 pb with
  | some i, some j => if p i j then (oc s2).bind fun pc s3 => match intOf s3 pb, intOf s3 pc with | some j', some k => .ok (.bl (p' j' k)) s3 | _, _ => .bad
    else .ok (.bl false) s2
  | _, _ => .bad
section
variable {X : Cx} {W : WX} {a b c e : Expr} {pos : Pos}
theorem intOf_rep {K : PySem.W.Frag} {σ : L2.St} {H : Hp} {s : Sl} {f g : Fp} {p : Pnd} {v : V} {i : Int} (hs : SLR K H s σ f) (hp : PRep K σ H p v g) (h : intOf s p = some i) : v = .int i ∧ ∀ b, g b = 0 := by
  unfold intOf at h
  split at h
  · rename_i j e
    cases h
    cases p with
    | val y =>
      have e : y = .int i := Option.some.inj e
      subst e
      exact hp
    | loc n =>
      have e2 : s[n]?.join = some (.int i) := e
      have e3 : s[n]? = some (some (.int i)) := by
        cases e5 : s[n]? with
        | none => rw [e5] at e2; cases e2
        | some o => rw [e5] at e2; rw [show o = some (.int i) from e2]
      obtain ⟨v', g', h', k1, k2, _⟩ := hs.take e3
      have : v' = v := by
        have := k1.symm.trans hp.1
        simpa using this
      subst this
      exact ⟨k2.1, hp.2⟩
  · cases h
theorem chain_core {p p' : Int → Int → Bool} {oa ob oc : M Pnd} {σ : L2.St} {H : Hp} {Q : VK} (q : rdG (Rep X.K) X W (mChain p p' oa ob oc) σ H Q) :
    tChain (rI0 fun i j => .bl (p i j)) (rI0 fun i j => .bl (p' i j)) (fun σ H Q => rdG (PRep X.K σ) X W oa σ H Q) (fun σ H Q => rdG (PRep X.K σ) X W ob σ H Q) (fun σ H Q => rdG (PRep X.K σ) X W oc σ H Q) σ H Q := by
  refine rdG.bind (ρ := PRep X.K σ) q fun f pa s1 v H1 g f1 h0 h1 h2 h3 h4 h5 => ?_
  refine rdG.next (ρ := PRep X.K σ) (stable_prep X.K σ) h1 h2 h3 h4 h5 fun pb s2 w H2 g2 f2 k1 k2 k3 k4 k5 k6 => ?_
  cases ei : intOf s2 pa with
  | none => rw [ei] at k6; exact k6.elim
  | some i =>
    cases ej : intOf s2 pb with
    | none => rw [ei, ej] at k6; exact k6.elim
    | some j =>
      rw [ei, ej] at k6
      dsimp only at k6
      obtain ⟨rfl, z1⟩ := intOf_rep k3 k1 ei
      obtain ⟨rfl, z2⟩ := intOf_rep k3 k2 ej
      refine ⟨i, j, rfl, rfl, p i j, rfl, ?_⟩
      have k5' : Frm H H2 f (fun b => g2 b + f2 b) := ⟨k5.keep, fun b o e z => by have : g b + g2 b + f2 b = 0 := k5.own b o e z; show g2 b + f2 b = 0; omega⟩
      cases hp : p i j with
      | false =>
        rw [hp] at k6
        rw [if_neg Bool.false_ne_true]
        exact gp_ok k6 rep_bl z2 k3 (fun b => by have := k4 b; omega) k5'
      | true =>
        rw [hp] at k6
        rw [if_pos rfl]
        refine rdG.next (ρ := PRep X.K σ) (stable_prep X.K σ) k2 k3 (fun b => by have := k4 b; omega) k5' k6 fun pc s3 u H3 g3 f3 l1 l2 l3 l4 l5 l6 => ?_
        cases ej' : intOf s3 pb with
        | none => rw [ej'] at l6; exact l6.elim
        | some j' =>
          cases ek : intOf s3 pc with
          | none => rw [ej', ek] at l6; exact l6.elim
          | some k =>
            rw [ej', ek] at l6
            obtain ⟨e1, z3⟩ := intOf_rep l3 l1 ej'
            obtain ⟨rfl, z4⟩ := intOf_rep l3 l2 ek
            cases e1
            refine ⟨j, k, rfl, rfl, ?_⟩
            exact gp_ok (g := fun b => g2 b + g3 b) l6 rep_bl (fun b => by show g2 b + g3 b = 0; rw [z2 b, z4 b]) l3 (fun b => by have := l4 b; show g2 b + g3 b + f3 b ≤ 1; omega) ⟨l5.keep, fun b o e z => by have := l5.own b o e z; exact this⟩
theorem se_chain {op op' : CmpOp} {p p' : Int → Int → Bool} {oa ob oc : M Pnd} (ho : OpR X (compareOp op) (rI0 fun i j => .bl (p i j))) (ho' : OpR X (compareOp op') (rI0 fun i j => .bl (p' i j))) (ha : SO X W a oa) (hb : SO X W b ob) (hc : SO X W c oc)
    (hm : lastMarks [op, op'] [b, c] = false := by with_unfolding_all rfl) : SE X W (.Compare a [op, op'] [b, c] pos) (mChain p p' oa ob oc) := PE.weaken (pe_chain ho ho' ha hb hc hm) fun σ H Q q => chain_core q
theorem st_chain {op op' : CmpOp} {p p' : Int → Int → Bool} {oa ob oc : M Pnd} (ho : OpR X (compareOp op) (rI0 fun i j => .bl (p i j))) (ho' : OpR X (compareOp op') (rI0 fun i j => .bl (p' i j))) (ha : SO X W a oa) (hb : SO X W b ob) (hc : SO X W c oc)
    (hm : lastMarks [op, op'] [b, c] = false := by with_unfolding_all rfl) : ST X W (.Compare a [op, op'] [b, c] pos) (mT (mChain p p' oa ob oc)) := PT.weaken (pt_chain ho ho' ha hb hc hm) fun σ H Q q => chain_core (test_of q)
end
/-! ### calls -/
inductive CR where
  | ok (x : PV) (ys : List PV)
  | exc (e : XV) (ys : List PV)
  | bad
def CPost (K : PySem.W.Frag) (mg : Str → Option Value) (H : Hp) (f : Fp) (vs : List V) (Q : VK) (E : XK) : CR → Prop
  | .ok x ys => ∀ v H' g f', Rep K H' x v g → Reps K H' ys vs f' → (∀ b, g b + f' b ≤ 1) → Frm H H' f (fun b => g b + f' b) → Q v H'
  | .exc e ys => ∀ cls d H' f', XRep K mg H' e cls d → Reps K H' ys vs f' → (∀ b, f' b ≤ 1) → Frm H H' f f' → E cls d H'
  | .bad => False
def spB (K : PySem.W.Frag) (mg : Str → Option Value) (np : Nat) (C : List PV → CR) : Sp := fun vs H Q E => ∃ xs f, xs.length = np ∧ Reps K H xs vs f ∧ (∀ b, f b ≤ 1) ∧ CPost K mg H f vs Q E (C xs)
/-- a def as it stands, with what it is worth -/
structure FB (P : Program) (w : World) (K : PySem.W.Frag) (mg : Str → Option Value) (base : Heap) (k : Nat) (x : Str) (np : Nat) (C : List PV → CR) : Prop where
  ex : ∃ (f : Addr) (fd : FuncData) (ps : List Str), ps.length = np ∧ mg x = some (.ref f) ∧ PySem.W.keepIn K (.ref f) = true ∧ Binds K fd ps [] ∧ FnOk P w K mg base (L2.CX P w) k f fd ps (spB K mg np C)
/-- what is owned is handed on for the call -/
def takeP : List Pnd → Sl → Option (List PV × Sl)
  | [], s => some ([], s)
  | .val x :: r, s => match takeP r s with | some (xs, s') => some (x :: xs, s') | none => none
  | .loc i :: r, s => match s[i]? with
    | some (some x) => match takeP r (if x.own then s.set i none else s) with | some (xs, s') => some (x :: xs, s') | none => none
    | _ => none
def putP : List Pnd → List PV → Sl → Sl
  | .loc i :: r, y :: ys, s => putP r ys (match s[i]? with | some none => s.set i (some y) | _ => s)
  | .val _ :: r, _ :: ys, s => putP r ys s
  | _, _, s => s
theorem set_same {α : Type} {l : List α} {i : Nat} {x : α} (h : l[i]? = some x) : l.set i x = l := by
  apply List.ext_getElem?
  intro j
  rw [List.getElem?_set]
  split
  · rename_i e
    subst e
    have := (List.getElem?_eq_some_iff.mp h).1
    rw [if_pos this, h]
  · rfl
section
variable {K : PySem.W.Frag} {σ : L2.St} {H : Hp}
theorem take_ok : ∀ {ps : List Pnd} {vs : List V} {g f : Fp} {s s' : Sl} {xs : List PV}, PReps K σ H ps vs g → SLR K H s σ f → takeP ps s = some (xs, s') →
    ∃ fa f', Reps K H xs vs fa ∧ SLR K H s' σ f' ∧ xs.length = ps.length ∧ ∀ b, fa b + f' b = g b + f b
  | [], vs, g, f, s, s', xs, hp, hs, e => by
    cases (Option.some.inj e)
    exact ⟨Z0, f, ⟨hp.1, fun _ => rfl⟩, hs, rfl, fun b => by rw [hp.2 b]⟩
  | .val x :: r, vs, g, f, s, s', xs, hp, hs, e => by
    obtain ⟨v, ws, g1, g2, rfl, h1, h2, hg⟩ := hp
    simp only [takeP] at e
    cases e1 : takeP r s with
    | none => rw [e1] at e; cases e
    | some p =>
      obtain ⟨ys, s1⟩ := p
      rw [e1] at e
      cases (Option.some.inj e)
      obtain ⟨fa, f', k1, k2, k3, k4⟩ := take_ok h2 hs e1
      exact ⟨fun b => g1 b + fa b, f', ⟨v, ws, g1, fa, rfl, h1, k1, fun _ => rfl⟩, k2, by simp [k3], fun b => by have := k4 b; rw [hg b]; dsimp only; omega⟩
  | .loc i :: r, vs, g, f, s, s', xs, hp, hs, e => by
    obtain ⟨v, ws, g1, g2, rfl, h1, h2, hg⟩ := hp
    simp only [takeP] at e
    split at e
    · rename_i x e0
      obtain ⟨v', gx, hx, l1, l2, l3, l4⟩ := hs.take e0
      have ev : v' = v := by have := l1.symm.trans h1.1; simpa using this
      subst ev
      cases e1 : takeP r (if x.own then s.set i none else s) with
      | none => rw [e1] at e; cases e
      | some p =>
        obtain ⟨ys, s1⟩ := p
        rw [e1] at e
        cases (Option.some.inj e)
        cases ho : x.own with
        | true =>
          rw [ho, if_pos rfl] at e1
          obtain ⟨fa, f', k1, k2, k3, k4⟩ := take_ok h2 l3 e1
          exact ⟨fun b => gx b + fa b, f', ⟨v', ws, gx, fa, rfl, l2, k1, fun _ => rfl⟩, k2, by simp [k3], fun b => by have := k4 b; have := l4 b; have := h1.2 b; rw [hg b]; dsimp only; omega⟩
        | false =>
          rw [ho, if_neg Bool.false_ne_true] at e1
          obtain ⟨fa, f', k1, k2, k3, k4⟩ := take_ok h2 hs e1
          exact ⟨fa, f', ⟨v', ws, Z0, fa, rfl, l2.zero ho, k1, fun b => by simp⟩, k2, by simp [k3], fun b => by have := k4 b; have := h1.2 b; rw [hg b]; omega⟩
    · cases e
theorem put_ok : ∀ {ps : List Pnd} {vs : List V} {g f fa : Fp} {s : Sl} {ys : List PV} {H0 : Hp}, PReps K σ H0 ps vs g → SLR K H s σ f → Reps K H ys vs fa → (∀ b, fa b + f b ≤ 1) →
    ∃ f', SLR K H (putP ps ys s) σ f' ∧ ∀ b, f' b ≤ fa b + f b
  | [], vs, g, f, fa, s, ys, H0, hp, hs, hy, le => by
    cases ys <;> exact ⟨f, hs, fun b => by omega⟩
  | .val x :: r, vs, g, f, fa, s, [], H0, hp, hs, hy, le => ⟨f, hs, fun b => by omega⟩
  | .loc x :: r, vs, g, f, fa, s, [], H0, hp, hs, hy, le => ⟨f, hs, fun b => by omega⟩
  | .val x :: r, vs, g, f, fa, s, y :: ys, H0, hp, hs, hy, le => by
    obtain ⟨v, ws, g1, g2, rfl, h1, h2, hg⟩ := hp
    obtain ⟨v', ws', a1, a2, e, k1, k2, hk⟩ := hy
    cases e
    obtain ⟨f', l1, l2⟩ := put_ok h2 hs k2 (fun b => by have := le b; have := hk b; omega)
    exact ⟨f', l1, fun b => by have := l2 b; have := hk b; omega⟩
  | .loc i :: r, vs, g, f, fa, s, y :: ys, H0, hp, hs, hy, le => by
    obtain ⟨v, ws, g1, g2, rfl, h1, h2, hg⟩ := hp
    obtain ⟨v', ws', a1, a2, e, k1, k2, hk⟩ := hy
    cases e
    simp only [putP]
    cases e0 : s[i]? with
    | none =>
      obtain ⟨f', l1, l2⟩ := put_ok h2 hs k2 (fun b => by have := le b; have := hk b; omega)
      exact ⟨f', l1, fun b => by have := l2 b; have := hk b; omega⟩
    | some o =>
      cases o with
      | some z =>
        obtain ⟨f', l1, l2⟩ := put_ok h2 hs k2 (fun b => by have := le b; have := hk b; omega)
        exact ⟨f', l1, fun b => by have := l2 b; have := hk b; omega⟩
      | none =>
        have hs' := SLR.put hs e0 k1
        rw [set_same h1.1] at hs'
        obtain ⟨f', l1, l2⟩ := put_ok h2 hs' k2 (fun b => by have := le b; have := hk b; omega)
        exact ⟨f', l1, fun b => by have := l2 b; have := hk b; omega⟩
end
section
variable {X : Cx} {W : WX} {e : Expr} {es : List Expr} {pos p : Pos} {x : Str}
/-- the call's own end -/
theorem call_end {C : List PV → CR} {np : Nat} {σ : L2.St} {H H1 : Hp} {F g f1 : Fp} {ps : List Pnd} {s1 : Sl} {vs : List V} {Q : VK} (hl : ps.length = np) (hF : ∀ b, F b ≤ 1)
    (h1 : PReps X.K σ H1 ps vs g) (h2 : SLR X.K H1 s1 σ f1) (h3 : ∀ b, g b + f1 b ≤ 1) (h4 : Frm H H1 F (fun b => g b + f1 b))
    (h5 : GP (Rep X.K) X W H F σ Q (match takeP ps s1 with
      | some (xs, s2) => match C xs with
        | .ok x ys => .ok x (putP ps ys s2)
        | .exc e ys => .exc e (putP ps ys s2)
        | .bad => .bad
      | none => .bad)) : spB X.K X.mg np C vs H1 Q (WE W σ) := by
  cases e1 : takeP ps s1 with
  | none => rw [e1] at h5; exact h5.elim
  | some pr =>
    obtain ⟨xs, s2⟩ := pr
    rw [e1] at h5
    dsimp only at h5
    obtain ⟨fa, f', k1, k2, k3, k4⟩ := take_ok h1 h2 e1
    have le : ∀ b, fa b + f' b ≤ 1 := fun b => by have := k4 b; have := h3 b; omega
    refine ⟨xs, fa, k3.trans hl, k1, fun b => by have := le b; omega, ?_⟩
    have own : ∀ b o, H b = some o → F b = 0 → fa b = 0 ∧ f' b = 0 := fun b o e z => by
      have : g b + f1 b = 0 := h4.own b o e z
      have := k4 b
      omega
    cases e2 : C xs with
    | bad => rw [e2] at h5; exact h5.elim
    | ok y ys =>
      rw [e2] at h5
      intro v H' gv fa' r1 r2 r3 fr
      have st : SLR X.K H' s2 σ f' := k2.kept fr.kept (fun b n => k1.mut n) (fun b n => by have := le b; omega)
      have le2 : ∀ b, gv b + fa' b + f' b ≤ 1 := fun b => by
        by_cases hf : f' b = 0
        · have := r3 b; omega
        · obtain ⟨o, ho, _⟩ := k2.mut hf
          have : gv b + fa' b = 0 := fr.own b o ho (by have := le b; omega)
          have := le b
          omega
      obtain ⟨f'', l1, l2⟩ := put_ok h1 st r2 (fun b => by have := le2 b; omega)
      exact h5 v H' gv f'' r1 l1 (fun b => by have := l2 b; have := le2 b; omega) ⟨fun b o e z => fr.keep b o (h4.keep b o e z) (own b o e z).1, fun b o e z => by
        have y1 : gv b + fa' b = 0 := fr.own b o (h4.keep b o e z) (own b o e z).1
        have := l2 b
        have := (own b o e z).2
        show gv b + f'' b = 0
        omega⟩
    | exc y ys =>
      rw [e2] at h5
      intro cls d H' fa' r1 r2 r3 fr
      have st : SLR X.K H' s2 σ f' := k2.kept fr.kept (fun b n => k1.mut n) (fun b n => by have := le b; omega)
      have le2 : ∀ b, fa' b + f' b ≤ 1 := fun b => by
        by_cases hf : f' b = 0
        · have := r3 b; omega
        · obtain ⟨o, ho, _⟩ := k2.mut hf
          have : fa' b = 0 := fr.own b o ho (by have := le b; omega)
          have := le b
          omega
      obtain ⟨f'', l1, l2⟩ := put_ok h1 st r2 le2
      exact h5 cls d H' f'' r1 l1 (fun b => by have := l2 b; have := le2 b; omega) ⟨fun b o e z => fr.keep b o (h4.keep b o e z) (own b o e z).1, fun b o e z => by
        have y1 : fa' b = 0 := fr.own b o (h4.keep b o e z) (own b o e z).1
        have := l2 b
        have := (own b o e z).2
        omega⟩
/-- f(..): how many operands are known where they are made -/
def mCallN (np : Nat) (C : List PV → CR) (os : M (List Pnd)) : M PV := fun s => (os s).bind fun ps s1 => if ps.length = np then (match takeP ps s1 with
  | some (xs, s2) => match C xs with
    | .ok x ys => .ok x (putP ps ys s2)
    | .exc e ys => .exc e (putP ps ys s2)
    | .bad => .bad
  | none => .bad) else .bad
theorem se_call {k np : Nat} {C : List PV → CR} {os : M (List Pnd)} (tk : Takes X W) (F : FB X.prog X.w X.K X.mg X.base k x np C) (hr : Room k X.A) (hg : Gl X x) (ha : SA X W (e :: es) os)
    (hdb : (x == ("__debug__" : Str)) = false := by decide) (he : starEach (e :: es) X.env = (false, eval e X.env) :: starEach es X.env := by rfl) (hpl : (backTo pos (starEach es X.env)).any (·.1) = false := by rfl) :
    SE X W (.Call (.Name x p) (e :: es) [] pos) (mCallN np C os) := by
  obtain ⟨f, fd, ps, h1, h2, h3, h4, h5⟩ := F.ex
  refine PE.weaken (pe_callS h5 hr hg h2 h3 h4 (fun σ => passAt tk σ) ha hdb he hpl) fun σ H Q q => ?_
  refine rdG.bind (ρ := PReps X.K σ) q fun F ps s1 vs H1 g f1 h0 k1 k2 k3 k4 k5 => ?_
  split at k5
  · rename_i hl
    have z := call_end hl h0 k1 k2 k3 k4 k5
    first
      | exact z
      | (rw [List.append_nil]; exact z)
  · exact k5.elim
end
end Bv
set_option maxHeartbeats 400000
namespace Bv
open PySem PySem.Spec PyProof.Rows L2
/-! ### targets -/
section
variable {K : PySem.W.Frag} {H : Hp}
theorem getElem?_set_none {s : Sl} {i : Nat} (h : i < s.length) : (s.set i none)[i]? = some none := List.getElem?_set_self h
/-- a slot stored -/
theorem SLR.store {s : Sl} {τ : L2.St} {f g : Fp} {x : PV} {v : V} (i : Nat) (h : SLR K H s τ f) (r : Rep K H x v g) : ∃ f', SLR K H (s.set i (some x)) (τ.set i (some v)) f' ∧ ∀ b, f' b ≤ g b + f b := by
  by_cases hi : i < s.length
  · obtain ⟨l, h1, h2⟩ := SLR.forget i h
    have h3 := SLR.put h1 (getElem?_set_none hi) r
    rw [List.set_set] at h3
    exact ⟨_, h3, fun b => by have := h2 b; omega⟩
  · refine ⟨f, ?_, fun b => by omega⟩
    rw [List.set_eq_of_length_le (by omega), List.set_eq_of_length_le (by rw [h.length]; omega)]
    exact h
end
/-- a target: what storing x into it leaves; ix: the slots that it may store into -/
structure TgOk (X : Cx) (tg : Expr) (t : PV → Sl → Option Sl) (ix : List Nat) : Prop where
  ex : ∃ g, PG X tg g ∧ ∀ (x : PV) (s s1 : Sl) (v : V) (σ : L2.St) (H : Hp) (f gx : Fp) (Q : L2.St → Hp → Prop), t x s = some s1 → Rep X.K H x v gx → SLR X.K H s σ f →
    (∀ σ' f', SLR X.K H s1 σ' f' → (∀ b, f' b ≤ gx b + f b) → (∀ j, j ∉ ix → σ'[j]? = σ[j]?) → σ'.length = σ.length → Q σ' H) → g v σ H Q
def t1 (i : Nat) (x : PV) (s : Sl) : Option Sl := some (s.set i (some x))
def tN (is : List Nat) (x : PV) (s : Sl) : Option Sl := match x with
  | .tup xs => if xs.length = is.length then some ((is.zip xs).foldl (fun s p => s.set p.1 (some p.2)) s) else none
  | _ => none
section
variable {X : Cx} {pos : Pos}
theorem tg_name (i : Nat) {x : Str} (h : PG X (.Name x pos) (gName i)) : TgOk X (.Name x pos) (t1 i) [i] := ⟨gName i, h, fun x s s1 v σ H f gx Q e r hs q => by
  cases (Option.some.inj e)
  obtain ⟨f', h1, h2⟩ := hs.store i r
  exact q _ f' h1 h2 (fun j hj => List.getElem?_set_ne (fun z => hj (by simp [z]))) (List.length_set)⟩
/-- several names, one after another -/
inductive PNs (X : Cx) : List Expr → List Nat → TGs → Prop where
  | nil : PNs X [] [] gNil
  | cons {x : Str} {p : Pos} {es : List Expr} {i : Nat} {is : List Nat} {t : TGs} (h : PG X (.Name x p) (gName i)) (r : PNs X es is t) (hs : (assignEach (.Name x p :: es) X.env).map (·.2) = assign (.Name x p) X.env :: (assignEach es X.env).map (·.2)) : PNs X (.Name x p :: es) (i :: is) (gCons (gName i) t)
theorem PNs.pgs : ∀ {es : List Expr} {is : List Nat} {t : TGs}, PNs X es is t → PGs X es t
  | _, _, _, .nil => pgs_nil
  | _, _, _, .cons h r hs => pgs_cons h r.pgs hs
theorem PNs.run : ∀ {es : List Expr} {is : List Nat} {t : TGs}, PNs X es is t → ∀ {xs : List PV} {vs : List V} {s : Sl} {σ : L2.St} {H : Hp} {f gx : Fp} {Q : L2.St → Hp → Prop}, xs.length = is.length → Reps X.K H xs vs gx → SLR X.K H s σ f →
    (∀ σ' f', SLR X.K H ((is.zip xs).foldl (fun s p => s.set p.1 (some p.2)) s) σ' f' → (∀ b, f' b ≤ gx b + f b) → (∀ j, j ∉ is → σ'[j]? = σ[j]?) → σ'.length = σ.length → Q σ' H) → t vs σ H Q
  | _, _, _, .nil, [], vs, s, σ, H, f, gx, Q, hl, r, hs, q => ⟨r.1, q σ f hs (fun b => by omega) (fun _ _ => rfl) rfl⟩
  | _, _, _, .cons (i := i) (is := is) h rr hsx, x :: xs, vs, s, σ, H, f, gx, Q, hl, r, hs, q => by
    obtain ⟨v, ws, g1, g2, rfl, r1, r2, hg⟩ := r
    obtain ⟨f1, h1, h2⟩ := hs.store i r1
    refine ⟨v, ws, rfl, ?_⟩
    refine PNs.run rr (xs := xs) (vs := ws) (s := s.set i (some x)) (σ := σ.set i (some v)) (f := f1) (gx := g2) (by simpa using hl) r2 h1 fun σ' f' k1 k2 k3 k4 => ?_
    refine q σ' f' (by simpa using k1) (fun b => by have := k2 b; have := h2 b; have := hg b; omega) (fun j hj => ?_) (by rw [k4, List.length_set])
    have hj' : j ≠ i ∧ j ∉ is := by simpa using hj
    rw [k3 j hj'.2, List.getElem?_set_ne (Ne.symm hj'.1)]
  | _, _, _, .cons _ _ _, [], vs, s, σ, H, f, gx, Q, hl, r, hs, q => by simp at hl
  | _, _, _, .nil, _ :: _, vs, s, σ, H, f, gx, Q, hl, r, hs, q => by simp at hl
theorem tg_tup {es : List Expr} {k : Nat} {is : List Nat} {t : TGs} (hc : X.calm = true) (h : PNs X es is t) (hn : (assignEach es X.env).length = is.length) (hst : (assignEach es X.env).findIdx? (·.1) = none) : TgOk X (.Tuple es k pos) (tN is) is :=
  ⟨gTup X.K is.length t, pg_tup hc h.pgs hn hst, fun x s s1 v σ H f gx Q e r hs q => by
    unfold tN at e
    split at e
    · rename_i xs
      split at e
      · rename_i hl
        cases (Option.some.inj e)
        obtain ⟨a, va, rfl, ha, za, sa⟩ := r.tupAt
        exact ⟨a, va, rfl, ha, by rw [sa.length, hl], h.run hl sa hs q⟩
      · cases e
    · cases e⟩
end
/-! ### what is walked -/
structure ItOk (K : PySem.W.Frag) (J : It) (xs : List PV) (g : Fp) (IR : Hp → Prop) : Prop where
  go : ∀ i H, IR H → i < xs.length → J.go i H
  stop : ∀ H, IR H → J.stop xs.length H
  yld : ∀ i H v H' x, IR H → xs[i]? = some x → J.yld i H v H' → Rep K H' x v Z0 ∧ ∀ b o, H b = some o → H' b = some o
  st : ∀ H H' F, Kept H H' F → (∀ b, F b ≠ 0 → MutA H b) → (∀ b, g b ≠ 0 → F b = 0) → IR H → IR H'
def VIt (K : PySem.W.Frag) (it : List PV → Option (List PV)) (r : List V → Hp → (It → Hp → Prop) → Prop) : Prop :=
  ∀ H vals vs g xs R, Reps K H vals vs g → it vals = some xs → (∀ J IR, ItOk K J xs g IR → IR H → R J H) → r vs H R
def SI (X : Cx) (W : WX) (tg iter : Expr) (os : M (List Pnd)) (r : List V → Hp → (It → Hp → Prop) → Prop) : Prop := PI X tg iter (fun σ H R => rdG (PReps X.K σ) X W os σ H (fun vs H1 => r vs H1 R))
theorem PI.weaken {X : Cx} {tg e : Expr} {t t' : TI} (h : PI X tg e t) (w : ∀ σ H R, t' σ H R → t σ H R) : PI X tg e t' := ⟨fun pins s σ H R I q => h.run pins s σ H R I (w σ H R q)⟩
section
variable {K : PySem.W.Frag} {X : Cx} {W : WX} {tg l a b : Expr} {p pos : Pos}
/-- a list, a tuple, a text -/
def rSeqI (K : PySem.W.Frag) (x : V) (H : Hp) (R : It → Hp → Prop) : Prop :=
  (∃ a, x = .ref a ∧ (∃ xs, SqL K H a xs) ∧ R (Itl K a) H) ∨ (∃ a, x = .ref a ∧ (∃ xs, SqT K H a xs) ∧ R (Itt K a) H) ∨ ∃ y, x = .str y ∧ R (Its y) H
theorem thnPI {tl : TE} (hl : PE X l tl) : PI X tg l (fun σ H R => tl σ H fun x H1 => rSeqI X.K x H1 R) := by
  refine ⟨fun pins s σ H R I h => ?_⟩
  refine thn (hl.run pins s σ H _ I h) fun v s1 ⟨x, H1, I1, r1, q1⟩ => ?_
  have pk : ∀ {t : TE} {w : TI}, PI X tg l w → True := fun _ => trivial
  rcases q1 with ⟨a, e, ⟨xs, hq⟩, q⟩ | ⟨a, e, ⟨xs, hq⟩, q⟩ | ⟨y, e, q⟩
  · subst e
    cases r1
    obtain ⟨its, rv, pl, hz⟩ := I1.list hq
    refine wpAny_pyIter_list pl.isList ?_
    refine ⟨s1.heap.objs.size, [s1.heap.objs.size], _, _, H1, rfl, I1.kept (t' := s1.toks) fun b o e => Heap.get?_push_of_some _ e, turn_list a _, ⟨_, Heap.get?_push_size _ rfl, rfl, rfl⟩, fun b hb => ?_, q⟩
    have e : b = s1.heap.objs.size := by simpa using hb
    subst e
    exact I1.fpOk (Nat.le_refl _) (I1.hok.fresh (Nat.le_refl _))
  · subst e
    cases r1
    obtain ⟨its, rv, pl, hz⟩ := I1.tuple hq
    refine wpAny_pyIter_tuple (show s1.heap.IsTuple a its.toArray from pl) ?_
    refine ⟨s1.heap.objs.size, [s1.heap.objs.size], _, _, H1, rfl, I1.kept (t' := s1.toks) fun b o e => Heap.get?_push_of_some _ e, turn_tuple a _, ⟨_, Heap.get?_push_size _ rfl, rfl, rfl⟩, fun b hb => ?_, q⟩
    have e : b = s1.heap.objs.size := by simpa using hb
    subst e
    exact I1.fpOk (Nat.le_refl _) (I1.hok.fresh (Nat.le_refl _))
  · subst e
    obtain ⟨t, rfl⟩ := r1
    cases ha : y.cps.all (· < 128)
    · exact wpAny_pyIter_wide ha (pi_one (tk := s1.toks) I1 _ (turn_str _ y t "str_iterator" (.inr rfl)) ⟨_, Heap.get?_push_size _ rfl, rfl, rfl⟩ q)
    · exact wpAny_pyIter_ascii ha (pi_one (tk := s1.toks) I1 _ (turn_str _ y t "str_ascii_iterator" (.inl rfl)) ⟨_, Heap.get?_push_size _ rfl, rfl, rfl⟩ q)
def itSeq1 : PV → Option (List PV)
  | .tup xs => if PV.owns xs = false then some xs else none
  | .lst _ xs => if PV.owns xs = false then some xs else none
  | .str y => some (y.cps.toList.map fun c => .str ⟨#[c]⟩)
  | _ => none
def itSeq : List PV → Option (List PV)
  | [x] => itSeq1 x
  | _ => none
theorem si_seq {o : M Pnd} (h : SO X W l o) : SI X W tg l (oCons o oNil) (fun vs H R => ∃ x, vs = [x] ∧ rSeqI X.K x H R) := PI.weaken (thnPI h) fun σ H R q => by
  obtain ⟨s, f, h1, h2, h3⟩ := q
  refine ⟨s, f, h1, h2, ?_⟩
  unfold oCons at h3
  cases e1 : o s with
  | ok p1 s1 =>
    rw [e1] at h3
    intro v H' g f' k1 k2 k3 k4
    obtain ⟨x, e, q⟩ := h3 [v] H' g f' ⟨v, [], g, Z0, rfl, k1, ⟨rfl, fun _ => rfl⟩, fun _ => rfl⟩ k2 k3 k4
    cases e
    exact q
  | exc x s1 => rw [e1] at h3; exact h3
  | bad => rw [e1] at h3; exact h3
theorem vi_seq : VIt K itSeq (fun vs H R => ∃ x, vs = [x] ∧ rSeqI K x H R) := by
  intro H vals vs g xs R hr hf q
  match vals, hf with
  | [x], hf =>
    obtain ⟨v, ws, g1, g2, rfl, r, ⟨rfl, z2⟩, hg⟩ := hr
    have hgg : ∀ b, g b = g1 b := fun b => by rw [hg b, z2 b]; rfl
    have r : Rep K H x v g := r.congr hgg
    refine ⟨v, rfl, ?_⟩
    cases x with
    | tup ys =>
      simp only [itSeq, itSeq1] at hf
      split at hf
      · rename_i n
        cases hf
        obtain ⟨a, va, rfl, ha, za, sa⟩ := id r.tupAt
        refine .inr (.inl ⟨a, rfl, ⟨va, ha⟩, q _ (fun H' => Rep K H' (.tup xs) (.ref a) g) ⟨fun i H' hi hlt => ?_, fun H' hi => ?_, fun i H' v H2 x hi hx hy => ?_, fun H' H2 F k m d hi => hi.kept k m d⟩ r⟩)
        · obtain ⟨a', vb, e, hb, _, sb⟩ := hi.tupAt
          cases e
          have : i < vb.length := by rw [sb.length]; exact hlt
          exact ⟨vb, vb[i], hb, List.getElem?_eq_getElem this⟩
        · obtain ⟨a', vb, e, hb, _, sb⟩ := hi.tupAt
          cases e
          exact ⟨vb, hb, by rw [sb.length]; exact Nat.le_refl _⟩
        · obtain ⟨a', vb, e, hb, _, sb⟩ := hi.tupAt
          cases e
          obtain ⟨rfl, hv⟩ := hy
          exact ⟨(sb.seq n).at' i x v hx (hv vb hb), fun _ _ e => e⟩
      · cases hf
    | lst o ys =>
      simp only [itSeq, itSeq1] at hf
      split at hf
      · rename_i n
        cases hf
        obtain ⟨a, va, ga, rfl, ha, za, sa⟩ := id r.lstAt
        refine .inl ⟨a, rfl, ⟨va, ha⟩, q _ (fun H' => Rep K H' (.lst o xs) (.ref a) g) ⟨fun i H' hi hlt => ?_, fun H' hi => ?_, fun i H' v H2 x hi hx hy => ?_, fun H' H2 F k m d hi => hi.kept k m d⟩ r⟩
        · obtain ⟨a', vb, gb, e, hb, _, sb⟩ := hi.lstAt
          cases e
          have : i < vb.length := by rw [sb.length]; exact hlt
          exact ⟨vb, vb[i], hb, List.getElem?_eq_getElem this⟩
        · obtain ⟨a', vb, gb, e, hb, _, sb⟩ := hi.lstAt
          cases e
          exact ⟨vb, hb, by rw [sb.length]; exact Nat.le_refl _⟩
        · obtain ⟨a', vb, gb, e, hb, _, sb⟩ := hi.lstAt
          cases e
          obtain ⟨rfl, hv⟩ := hy
          exact ⟨(sb.seq n).at' i x v hx (hv vb hb), fun _ _ e => e⟩
      · cases hf
    | str y =>
      cases (Option.some.inj hf)
      obtain ⟨rfl, _⟩ := r
      refine .inr (.inr ⟨y, rfl, q _ (fun _ => True) ⟨fun i H' hi hlt => ?_, fun H' hi => ?_, fun i H' v H2 x hi hx hy => ?_, fun _ _ _ _ _ _ _ => trivial⟩ trivial⟩)
      · show i < y.cps.size
        simpa using hlt
      · show y.cps.size ≤ _
        simp
      · obtain ⟨rfl, c, e1, rfl⟩ := hy
        rw [List.getElem?_map] at hx
        have e2 : y.cps.toList[i]? = some c := by rw [Array.getElem?_toList]; exact e1
        rw [e2] at hx
        cases hx
        exact ⟨rep_str, fun _ _ e => e⟩
    | _ => simp [itSeq, itSeq1] at hf
noncomputable def itRng1 : List PV → Option (List PV)
  | [.int j] => @ite _ (-(2 ^ 62) ≤ j ∧ j < 2 ^ 62) (Classical.propDecidable _) (some ((List.range j.toNat).map fun (k : Nat) => .int (k : Int))) none
  | _ => none
theorem it_rng {lo : Int} {n : Nat} {g : Fp} : ItOk K (Itr lo n) ((List.range n).map fun k => .int (lo + (k : Nat))) g (fun _ => True) :=
  ⟨fun i H' hi hlt => by show i < n; simpa using hlt, fun H' hi => by show n ≤ _; simp, fun i H' v H2 x hi hx hy => by
    obtain ⟨rfl, rfl⟩ := hy
    rw [List.getElem?_map] at hx
    cases h : (List.range n)[i]? with
    | none => rw [h] at hx; cases hx
    | some k =>
      rw [h] at hx
      have : k = i := by
        have := List.getElem?_eq_some_iff.mp h
        simpa using this.2.symm
      subst this
      cases hx
      exact ⟨rep_int, fun _ _ e => e⟩, fun _ _ _ _ _ _ _ => trivial⟩
theorem si_rng1 {o : M Pnd} (h : SO X W a o) (hg : Gl X "range") (hm : X.mg "range" = none) (hst : starEach [a] X.env = (false, eval a X.env) :: starEach [] X.env) (hs : starEach [a] X.env = [(false, eval a X.env)]) : SI X W tg (.Call (.Name "range" p) [a] [] pos) (oCons o oNil) (fun vs H R => ∃ j : Int, vs = [.int j] ∧ -(2 ^ 62) ≤ j ∧ j < 2 ^ 62 ∧ R (Itr 0 j.toNat) H) :=
  pi_range1 hg hm (sa_cons h sa_nil hst) hs
theorem vi_rng1 : VIt K itRng1 (fun vs H R => ∃ j : Int, vs = [.int j] ∧ -(2 ^ 62) ≤ j ∧ j < 2 ^ 62 ∧ R (Itr 0 j.toNat) H) := by
  intro H vals vs g xs R hr hf q
  match vals, hf with
  | [.int j], hf =>
    obtain ⟨v, ws, g1, g2, rfl, ⟨rfl, _⟩, ⟨rfl, _⟩, _⟩ := hr
    simp only [itRng1] at hf
    split at hf
    · rename_i hl
      cases hf
      refine ⟨j, rfl, hl.1, hl.2, q _ (fun _ => True) ?_ trivial⟩
      have := it_rng (K := K) (lo := 0) (n := j.toNat) (g := g)
      simpa using this
    · cases hf
end
end Bv
set_option maxHeartbeats 400000
namespace Bv
open PySem PySem.Spec PyProof.Rows L2
/-! ### comprehensions -/
def wipeS (s : Sl) : List Nat → Sl
  | [] => s
  | v :: vs => (wipeS s vs).set v none
def compL (t : PV → Sl → Option Sl) (cond : M Bool) (el : M PV) (own : List Nat) : List PV → Sl → List PV → R (List PV)
  | [], s, acc => .ok acc s
  | x :: r, s, acc => match t x s with
    | none => .bad
    | some s1 => match cond s1 with
      | .ok true s2 => match el s2 with
        | .ok y s3 => compL t cond el own r (wipeS s3 own) (acc ++ [y])
        | _ => .bad
      | .ok false s2 => compL t cond el own r (wipeS s2 own) acc
      | _ => .bad
def mComp (os : M (List Pnd)) (it : List PV → Option (List PV)) (t : PV → Sl → Option Sl) (cond : M Bool) (el : M PV) (own : List Nat) : M PV := fun s => (os s).bind fun ps s1 => match takeP ps s1 with
  | none => .bad
  | some (vals, s2) => match it vals with
    | none => .bad
    | some xs => if xs.length ≤ LIM then (match compL t cond el own xs (wipeS s2 own) [] with
      | .ok acc s3 => .ok (.lst true acc) (putP ps vals s3)
      | _ => .bad) else .bad
def mYes : M Bool := fun s => .ok true s
section
variable {K : PySem.W.Frag} {H : Hp}
theorem SLR.wipe {s : Sl} {τ : L2.St} : ∀ {vs : List Nat} {f : Fp}, SLR K H s τ f → ∃ f', SLR K H (wipeS s vs) (L2.wipe τ vs) f' ∧ ∀ b, f' b ≤ f b
  | [], f, h => ⟨f, h, fun b => Nat.le_refl _⟩
  | v :: vs, f, h => by
    obtain ⟨f1, h1, h2⟩ := SLR.wipe (vs := vs) h
    obtain ⟨f2, h3, h4⟩ := SLR.forget v h1
    by_cases hv : v < (wipeS s vs).length
    · exact ⟨f2, SLR.setNone none h3 (getElem?_set_none hv), fun b => by have := h2 b; have := h4 b; omega⟩
    · refine ⟨f2, ?_, fun b => by have := h2 b; have := h4 b; omega⟩
      unfold L2.wipe wipeS
      rw [List.set_eq_of_length_le (l := L2.wipe τ vs) (by rw [h1.length]; omega)]
      exact h3
theorem wipeS_length (s : Sl) : ∀ vs : List Nat, (wipeS s vs).length = s.length
  | [] => rfl
  | v :: vs => by unfold wipeS; rw [List.length_set, wipeS_length s vs]
theorem wipeS_none (s : Sl) : ∀ (vs : List Nat) (i : Nat), i ∈ vs → i < s.length → (wipeS s vs)[i]? = some none
  | v :: vs, i, h, hi => by
    unfold wipeS
    by_cases e : v = i
    · subst e
      exact List.getElem?_set_self (by rw [wipeS_length]; exact hi)
    · rw [List.getElem?_set_ne e]
      rcases List.mem_cons.mp h with z | z
      · exact absurd z.symm e
      · exact wipeS_none s vs i z hi
/-- back from the wiped places -/
theorem SLR.unwipe {s : Sl} {τ : L2.St} {f : Fp} : ∀ (us : List Nat), (∀ i ∈ us, i < s.length → s[i]? = some none) → SLR K H s (L2.wipe τ us) f → SLR K H s τ f
  | [], _, h => h
  | v :: us, hn, h => by
    refine SLR.unwipe us (fun i hi => hn i (List.mem_cons_of_mem _ hi)) ?_
    by_cases hv : v < s.length
    · have e : L2.wipe τ us = ((L2.wipe τ us).set v none).set v ((L2.wipe τ us)[v]?.join) := by
        rw [List.set_set]
        cases q : (L2.wipe τ us)[v]? with
        | none =>
          have h1 : ((L2.wipe τ us).set v none).length = s.length := h.length
          rw [List.length_set] at h1
          have := List.getElem?_eq_none_iff.mp q
          omega
        | some o =>
          have : (some o : Option (Option V)).join = o := by cases o <;> rfl
          rw [this, set_same q]
      rw [e]
      exact SLR.setNone _ h (hn v List.mem_cons_self hv)
    · have h1 := h.length
      unfold L2.wipe at h h1
      rw [List.length_set] at h1
      rw [List.set_eq_of_length_le (l := L2.wipe τ us) (by omega)] at h
      exact h
theorem wipe_agree {τ τ' : L2.St} : ∀ (vs : List Nat), (∀ j, j ∉ vs → τ'[j]? = τ[j]?) → τ'.length = τ.length → L2.wipe τ' vs = L2.wipe τ vs := fun vs h hl => by
  apply List.ext_getElem?
  intro j
  have key : ∀ (σ : L2.St) (us : List Nat), (L2.wipe σ us)[j]? = if j ∈ us then σ[j]?.map (fun _ => none) else σ[j]? := by
    intro σ us
    induction us with
    | nil => simp [L2.wipe]
    | cons v us ih =>
      unfold L2.wipe
      rw [List.getElem?_set]
      by_cases e : v = j
      · subst e
        rw [if_pos rfl]
        rw [L2.wipe_length]
        simp only [List.mem_cons, true_or, if_true]
        by_cases hv : v < σ.length
        · rw [if_pos hv, List.getElem?_eq_getElem hv]; rfl
        · rw [if_neg hv, List.getElem?_eq_none (by omega)]; rfl
      · rw [if_neg e, ih]
        have : (j ∈ v :: us) = (j ∈ us) := by
          simp only [List.mem_cons, eq_iff_iff]
          exact ⟨fun z => z.elim (fun y => absurd y.symm e) id, .inr⟩
        simp only [this]
  rw [key, key]
  by_cases hj : j ∈ vs
  · rw [if_pos hj, if_pos hj]
    by_cases hlt : j < τ.length
    · rw [List.getElem?_eq_getElem hlt, List.getElem?_eq_getElem (by omega)]; rfl
    · rw [List.getElem?_eq_none (by omega), List.getElem?_eq_none (by omega)]
  · rw [if_neg hj, if_neg hj, h j hj]
theorem wipe_wipe (τ : L2.St) (vs : List Nat) : L2.wipe (L2.wipe τ vs) vs = L2.wipe τ vs := wipe_agree vs (fun j hj => by
  have key : ∀ (us : List Nat), j ∉ us → (L2.wipe τ us)[j]? = τ[j]? := by
    intro us
    induction us with
    | nil => intro _; rfl
    | cons v us ih =>
      intro h
      unfold L2.wipe
      rw [List.getElem?_set_ne (fun e => h (by simp [e])), ih (fun z => h (List.mem_cons_of_mem _ z))]
  exact key vs hj) (L2.wipe_length _ _)
theorem Reps.snoc : ∀ {xs : List PV} {vs : List V} {f g : Fp} {x : PV} {v : V}, Reps K H xs vs f → Rep K H x v g → Reps K H (xs ++ [x]) (vs ++ [v]) (fun b => f b + g b)
  | [], vs, f, g, x, v, h, r => by
    obtain ⟨rfl, z⟩ := h
    exact ⟨v, [], g, Z0, rfl, r, ⟨rfl, fun _ => rfl⟩, fun b => by show f b + g b = g b + 0; rw [z b]; omega⟩
  | y :: ys, vs, f, g, x, v, h, r => by
    obtain ⟨w, ws, g1, g2, rfl, h1, h2, hg⟩ := h
    exact ⟨w, ws ++ [v], g1, fun b => g2 b + g b, rfl, h1, Reps.snoc h2 r, fun b => by show f b + g b = g1 b + (g2 b + g b); rw [hg b]; omega⟩
end
section
variable {X : Cx} {W : WX} {tg iter elt : Expr} {ifs : List Expr} {scope : Scope} {own : List (Str × Nat)} {pos : Pos}
abbrev W0 : WX := fun _ _ _ _ => False
/-- the tests of a clause -/
def SIf (X : Cx) (W : WX) (ifs : List Expr) (m : M Bool) : Prop := PTs X ifs (rdG BRep X W m)
theorem sif_nil : SIf X W [] mYes := ⟨fun pins s σ H Q I h => by
  obtain ⟨s', f, h1, h2, h3⟩ := h
  exact pts_nil.run pins s σ H Q I (h3 true H Z0 f ⟨rfl, fun _ => rfl⟩ h1 (fun b => by have := h2 b; simpa using this) (Frm.refl fun b z => by simpa using z))⟩
theorem sif_one {c : Expr} {m : M Bool} (h : ST X W c m) : SIf X W [c] m := pts_one h
theorem comp_core {os : M (List Pnd)} {r : List V → Hp → (It → Hp → Prop) → Prop} {it : List PV → Option (List PV)} {t : PV → Sl → Option Sl} {ix : List Nat} {cond : M Bool} {el : M PV} {g : TG} (vi : VIt X.K it r)
    (ht : ∀ (x : PV) (s s1 : Sl) (v : V) (σ : L2.St) (H : Hp) (f gx : Fp) (Q : L2.St → Hp → Prop), t x s = some s1 → Rep X.K H x v gx → SLR X.K H s σ f →
      (∀ σ' f', SLR X.K H s1 σ' f' → (∀ b, f' b ≤ gx b + f b) → (∀ j, j ∉ ix → σ'[j]? = σ[j]?) → σ'.length = σ.length → Q σ' H) → g v σ H Q) (hix : ∀ i ∈ ix, i ∈ own.map (·.2))
    {σ : L2.St} {H : Hp} {Q : VK} (q : rdG (Rep X.K) X W (mComp os it t cond el (own.map (·.2))) σ H Q) :
    tLc (fun σ H R => rdG (PReps X.K σ) X W os σ H (fun vs H1 => r vs H1 R)) g (rdG BRep X W0 cond) (rdG (Rep X.K) X W0 el) (own.map (·.2)) σ H Q := by
  refine rdG.bind (ρ := PReps X.K σ) q fun F ps s1 vs H1 g1 f1 h0 h1 h2 h3 h4 h5 => ?_
  cases e1 : takeP ps s1 with
  | none => rw [e1] at h5; exact h5.elim
  | some pr =>
    obtain ⟨vals, s2⟩ := pr
    rw [e1] at h5
    dsimp only at h5
    cases e2 : it vals with
    | none => rw [e2] at h5; exact h5.elim
    | some xs =>
      rw [e2] at h5
      dsimp only at h5
      split at h5
      · rename_i hlim
        obtain ⟨fa, f', k1, k2, k3, k4⟩ := take_ok h1 h2 e1
        refine vi H1 vals vs fa xs _ k1 e2 fun J IR ok hIR D hD => ?_
        obtain ⟨f2, w1, w2⟩ := k2.wipe (vs := own.map (·.2))
        have keep0 := keep_upd (H := H1) (p := D) (o := .lst []) hD
        have dead : ∀ b o, H b = some o → F b = 0 → H1 b = some o ∧ fa b + f' b = 0 ∧ b ≠ D := fun b o e z => by
          have y := h4.keep b o e z
          have y2 : g1 b + f1 b = 0 := h4.own b o e z
          refine ⟨y, by rw [k4 b]; exact y2, fun z => ?_⟩
          subst z
          rw [y] at hD; cases hD
        have faD : fa D = 0 := live_reps k1 hD
        have f2D : f2 D = 0 := by have := live_of k2 hD; have := w2 D; omega
        refine ⟨fun i m Hc => i + m = xs.length ∧ ∃ s fs acc va ga, SLR X.K Hc s (L2.wipe σ (own.map (·.2))) fs ∧ Hc D = some (.lst va) ∧ Reps X.K Hc acc va ga ∧ acc.length ≤ i ∧ (∀ b, fa b + ga b + fs b + one D b ≤ 1) ∧ IR Hc ∧ Reps X.K Hc vals vs fa ∧
            (∀ i ∈ own.map (·.2), i < s.length → s[i]? = some none) ∧ (∀ b o, H b = some o → F b = 0 → Hc b = some o ∧ fa b + ga b + fs b = 0 ∧ b ≠ D) ∧
            compL t cond el (own.map (·.2)) (xs.drop i) s acc = compL t cond el (own.map (·.2)) xs (wipeS s2 (own.map (·.2))) [],
          ⟨xs.length, by omega, wipeS s2 (own.map (·.2)), f2, [], [], Z0, w1.keptZ keep0, upd_same, ⟨rfl, fun _ => rfl⟩, Nat.zero_le _, fun b => ?_, ?_, k1.keptZ keep0, fun i hi hl => wipeS_none _ _ _ hi (by rw [wipeS_length] at hl; exact hl), fun b o e z => ?_, rfl⟩, fun i m Hc hW => ?_⟩
        · by_cases hb : b = D
          · subst hb; rw [one_self]; show fa b + 0 + f2 b + 1 ≤ 1; omega
          · rw [one_ne hb]; have := k4 b; have := h3 b; have := w2 b; show fa b + 0 + f2 b + 0 ≤ 1; omega
        · exact ok.st H1 _ Z0 (keptZ keep0) (fun _ n => absurd rfl n) (fun _ _ => rfl) hIR
        · obtain ⟨y1, y2, y3⟩ := dead b o e z
          refine ⟨by rw [upd_ne y3]; exact y1, ?_, y3⟩
          have := w2 b
          show fa b + 0 + f2 b = 0
          omega
        · obtain ⟨him, s, fs, acc, va, ga, a1, a2, a3, a4, a5, a6, a7, a8, a9, a10⟩ := hW
          by_cases hi : i < xs.length
          · -- a turn
            refine .inr ⟨ok.go i Hc a6 hi, fun Hn => i + 1 + (m - 1) = xs.length ∧ ∃ s fs acc va ga, SLR X.K Hn s (L2.wipe σ (own.map (·.2))) fs ∧ Hn D = some (.lst va) ∧ Reps X.K Hn acc va ga ∧ acc.length ≤ i + 1 ∧ (∀ b, fa b + ga b + fs b + one D b ≤ 1) ∧ IR Hn ∧ Reps X.K Hn vals vs fa ∧
                (∀ i ∈ own.map (·.2), i < s.length → s[i]? = some none) ∧ (∀ b o, H b = some o → F b = 0 → Hn b = some o ∧ fa b + ga b + fs b = 0 ∧ b ≠ D) ∧
                compL t cond el (own.map (·.2)) (xs.drop (i + 1)) s acc = compL t cond el (own.map (·.2)) xs (wipeS s2 (own.map (·.2))) [], fun Hn hn => ⟨m - 1, by omega, hn⟩, fun v Hy hy => ?_⟩
            have hx : xs[i]? = some xs[i] := List.getElem?_eq_getElem hi
            obtain ⟨rx, ky⟩ := ok.yld i Hc v Hy xs[i] a6 hx hy
            have ed : xs.drop i = xs[i] :: xs.drop (i + 1) := List.drop_eq_getElem_cons hi
            rw [ed] at a10
            simp only [compL] at a10
            -- what stands when the item has come
            have b1 := a1.keptZ ky
            have b2 := ky _ _ a2
            have b3 := a3.keptZ ky
            have b6 : IR Hy := ok.st Hc Hy Z0 (keptZ ky) (fun _ n => absurd rfl n) (fun _ _ => rfl) a6
            have b7 := a7.keptZ ky
            have notbad : ∀ {Pp : Prop}, compL t cond el (own.map (·.2)) xs (wipeS s2 (own.map (·.2))) [] = .bad → Pp := fun e => by rw [e] at h5; exact h5.elim
            cases et : t xs[i] s with
            | none => rw [et] at a10; exact notbad a10.symm
            | some s3 =>
              rw [et] at a10
              dsimp only at a10
              refine ht xs[i] s s3 v _ Hy fs Z0 _ et rx b1 fun σ3 f3 c1 c2 c3 c4 => ?_
              have f3le : ∀ b, f3 b ≤ fs b := fun b => by have : f3 b ≤ 0 + fs b := c2 b; omega
              refine ⟨?_, ?_⟩
              · rw [wipe_agree (own.map (·.2)) (fun j hj => c3 j fun z => hj (hix j z)) c4, wipe_wipe]
              -- the test
              have ow : ∀ b, fa b + ga b + one D b ≠ 0 → f3 b = 0 := fun b n => by have := a5 b; have := f3le b; omega
              refine ⟨s3, f3, c1, fun b => by have := a5 b; have := f3le b; omega, ?_⟩
              cases ec : cond s3 with
              | bad => rw [ec] at a10; exact notbad a10.symm
              | exc z s4 => rw [ec] at a10; exact notbad a10.symm
              | ok c s4 =>
                rw [ec] at a10
                intro cb H4 gc f4 d1 d2 d3 d4
                obtain ⟨rfl, zc⟩ := d1
                have k4' : Kept Hy H4 f3 := d4.kept
                have mu3 : ∀ b, f3 b ≠ 0 → MutA Hy b := fun b n => c1.mut n
                have D4 : H4 D = some (.lst va) := k4' D _ b2 (ow D (by rw [one_self]; omega))
                have acc4 : Reps X.K H4 acc va ga := b3.kept k4' mu3 fun b n => ow b (by omega)
                have val4 : Reps X.K H4 vals vs fa := b7.kept k4' mu3 fun b n => ow b (by omega)
                have ir4 : IR H4 := ok.st Hy H4 f3 k4' mu3 (fun b n => ow b (by omega)) b6
                have own4 : ∀ b, fa b + ga b + f4 b + one D b ≤ 1 := fun b => by
                  by_cases hb : fa b + ga b + one D b = 0
                  · have := d3 b; omega
                  · have hz := ow b hb
                    have there : ∃ o, Hy b = some o := by
                      by_cases e1 : fa b = 0
                      · by_cases e2 : ga b = 0
                        · have : b = D := by
                            refine Classical.byContradiction fun z => ?_
                            rw [one_ne z] at hb; omega
                          subst this; exact ⟨_, b2⟩
                        · obtain ⟨o, ho, _⟩ := b3.mut e2; exact ⟨o, ho⟩
                      · obtain ⟨o, ho, _⟩ := b7.mut e1; exact ⟨o, ho⟩
                    obtain ⟨o, ho⟩ := there
                    have : gc b + f4 b = 0 := d4.own b o ho hz
                    have := a5 b
                    omega
                have dead4 : ∀ b o, H b = some o → F b = 0 → H4 b = some o ∧ fa b + ga b + f4 b = 0 ∧ b ≠ D := fun b o e z => by
                  obtain ⟨y1, y2, y3⟩ := a9 b o e z
                  have z3 : f3 b = 0 := by have := f3le b; omega
                  have y4 := ky b o y1
                  have : gc b + f4 b = 0 := d4.own b o y4 z3
                  exact ⟨d4.keep b o y4 z3, by omega, y3⟩
                cases c with
                | false =>
                  rw [if_neg Bool.false_ne_true]
                  dsimp only at a10
                  obtain ⟨f5, m1, m2⟩ := d2.wipe (vs := own.map (·.2))
                  rw [wipe_agree (own.map (·.2)) (fun j hj => c3 j fun z => hj (hix j z)) c4, wipe_wipe] at m1
                  exact ⟨by omega, wipeS s4 (own.map (·.2)), f5, acc, va, ga, m1, D4, acc4, by omega, fun b => by have := own4 b; have := m2 b; omega, ir4, val4,
                    fun i hi hl => wipeS_none _ _ _ hi (by rw [wipeS_length] at hl; exact hl), fun b o e z => by
                      obtain ⟨y1, y2, y3⟩ := dead4 b o e z
                      have := m2 b
                      exact ⟨y1, by omega, y3⟩, a10⟩
                | true =>
                  rw [if_pos rfl]
                  dsimp only at a10
                  refine ⟨s4, f4, d2, fun b => by have := d3 b; omega, ?_⟩
                  cases ee : el s4 with
                  | bad => rw [ee] at a10; exact notbad a10.symm
                  | exc z s5 => rw [ee] at a10; exact notbad a10.symm
                  | ok y s5 =>
                    rw [ee] at a10
                    dsimp only at a10
                    intro vy H5 gy f5 n1 n2 n3 n4
                    have ow4 : ∀ b, fa b + ga b + one D b ≠ 0 → f4 b = 0 := fun b n => by have := own4 b; omega
                    have mu4 : ∀ b, f4 b ≠ 0 → MutA H4 b := fun b n => d2.mut n
                    have D5 : H5 D = some (.lst va) := n4.kept D _ D4 (ow4 D (by rw [one_self]; omega))
                    have acc5 : Reps X.K H5 acc va ga := acc4.kept n4.kept mu4 fun b n => ow4 b (by omega)
                    have val5 : Reps X.K H5 vals vs fa := val4.kept n4.kept mu4 fun b n => ow4 b (by omega)
                    have ir5 : IR H5 := ok.st H4 H5 f4 n4.kept mu4 (fun b n => ow4 b (by omega)) ir4
                    have own5 : ∀ b, fa b + ga b + gy b + f5 b + one D b ≤ 1 := fun b => by
                      by_cases hb : fa b + ga b + one D b = 0
                      · have := n3 b; omega
                      · have hz := ow4 b hb
                        have there : ∃ o, H4 b = some o := by
                          by_cases e1 : fa b = 0
                          · by_cases e2 : ga b = 0
                            · have : b = D := by
                                refine Classical.byContradiction fun z => ?_
                                rw [one_ne z] at hb; omega
                              subst this; exact ⟨_, D4⟩
                            · obtain ⟨o, ho, _⟩ := acc4.mut e2; exact ⟨o, ho⟩
                          · obtain ⟨o, ho, _⟩ := val4.mut e1; exact ⟨o, ho⟩
                        obtain ⟨o, ho⟩ := there
                        have : gy b + f5 b = 0 := n4.own b o ho hz
                        have := own4 b
                        omega
                    -- the list grows
                    have up : Kept H5 (upd H5 D (.lst (va ++ [vy]))) (one D) := fun b o e z => by
                      have : b ≠ D := fun e' => by rw [e', one_self] at z; omega
                      rw [upd_ne this]; exact e
                    have muD : ∀ b, one D b ≠ 0 → MutA H5 b := fun b n => by
                      have : b = D := Classical.byContradiction fun z => n (one_ne z)
                      subst this; exact ⟨_, D5, trivial⟩
                    have oneD : ∀ {b : Addr}, fa b + ga b + gy b + f5 b ≠ 0 → one D b = 0 := fun {b} n => by have := own5 b; omega
                    obtain ⟨f6, m1, m2⟩ := n2.wipe (vs := own.map (·.2))
                    rw [wipe_agree (own.map (·.2)) (fun j hj => c3 j fun z => hj (hix j z)) c4, wipe_wipe] at m1
                    have hlen : acc.length < sizeLine := by rw [lim_eq]; omega
                    refine ⟨va, D5, by rw [acc5.length]; exact hlen, by omega, wipeS s5 (own.map (·.2)), f6, acc ++ [y], va ++ [vy], fun b => ga b + gy b, m1.kept up muD fun b n => oneD (by have := m2 b; omega), upd_same,
                      (acc5.snoc n1).kept up muD fun b n => oneD (by omega), by simp; omega, fun b => by have := own5 b; have := m2 b; show fa b + (ga b + gy b) + f6 b + one D b ≤ 1; omega,
                      ok.st H5 _ (one D) up muD (fun b n => oneD (by omega)) ir5, val5.kept up muD fun b n => oneD (by omega), fun i hi hl => wipeS_none _ _ _ hi (by rw [wipeS_length] at hl; exact hl), fun b o e z => ?_, a10⟩
                    obtain ⟨y1, y2, y3⟩ := dead4 b o e z
                    have z4 : f4 b = 0 := by omega
                    have y5 := n4.keep b o y1 z4
                    have : gy b + f5 b = 0 := n4.own b o y1 z4
                    have := m2 b
                    exact ⟨by rw [upd_ne y3]; exact y5, by show fa b + (ga b + gy b) + f6 b = 0; omega, y3⟩
          · -- the end
            have ei : i = xs.length := by omega
            subst ei
            refine .inl ⟨ok.stop Hc a6, ?_⟩
            rw [List.drop_length] at a10
            simp only [compL] at a10
            rw [← a10] at h5
            have u1 := a1.unwipe (own.map (·.2)) a8
            obtain ⟨f6, l1, l2⟩ := put_ok h1 u1 a7 (fun b => by have := a5 b; omega)
            refine h5 (.ref D) Hc (fun b => ga b + one D b) f6 ⟨D, va, ga, rfl, a2, by rw [lim_eq]; omega, a3, fun _ => rfl⟩ l1 (fun b => by have := a5 b; have := l2 b; show ga b + one D b + f6 b ≤ 1; omega) ⟨fun b o e z => (a9 b o e z).1, fun b o e z => ?_⟩
            obtain ⟨y1, y2, y3⟩ := a9 b o e z
            have := l2 b
            have : one D b = 0 := one_ne y3
            show ga b + one D b + f6 b = 0
            omega
      · exact h5.elim
end
end Bv
set_option maxHeartbeats 400000
namespace Bv
open PySem PySem.Spec PyProof.Rows L2
section
variable {X : Cx} {W : WX} {tg iter elt e a : Expr} {ifs : List Expr} {scope : Scope} {own : List (Str × Nat)} {pos : Pos}
/-- names stored one after another -/
inductive NmT : List Nat → TGs → Prop where
  | nil : NmT [] gNil
  | cons {i : Nat} {is : List Nat} {t : TGs} (r : NmT is t) : NmT (i :: is) (gCons (gName i) t)
theorem NmT.run {K : PySem.W.Frag} : ∀ {is : List Nat} {t : TGs}, NmT is t → ∀ {xs : List PV} {vs : List V} {s : Sl} {σ : L2.St} {H : Hp} {f gx : Fp} {Q : L2.St → Hp → Prop}, xs.length = is.length → Reps K H xs vs gx → SLR K H s σ f →
    (∀ σ' f', SLR K H ((is.zip xs).foldl (fun s p => s.set p.1 (some p.2)) s) σ' f' → (∀ b, f' b ≤ gx b + f b) → (∀ j, j ∉ is → σ'[j]? = σ[j]?) → σ'.length = σ.length → Q σ' H) → t vs σ H Q
  | _, _, .nil, [], vs, s, σ, H, f, gx, Q, hl, r, hs, q => ⟨r.1, q σ f hs (fun b => by omega) (fun _ _ => rfl) rfl⟩
  | _, _, .cons (i := i) (is := is) rr, x :: xs, vs, s, σ, H, f, gx, Q, hl, r, hs, q => by
    obtain ⟨v, ws, g1, g2, rfl, r1, r2, hg⟩ := r
    obtain ⟨f1, h1, h2⟩ := hs.store i r1
    refine ⟨v, ws, rfl, ?_⟩
    refine NmT.run rr (xs := xs) (vs := ws) (s := s.set i (some x)) (σ := σ.set i (some v)) (f := f1) (gx := g2) (by simpa using hl) r2 h1 fun σ' f' k1 k2 k3 k4 => ?_
    refine q σ' f' (by simpa using k1) (fun b => by have := k2 b; have := h2 b; have := hg b; omega) (fun j hj => ?_) (by rw [k4, List.length_set])
    have hj' : j ≠ i ∧ j ∉ is := by simpa using hj
    rw [k3 j hj'.2, List.getElem?_set_ne (Ne.symm hj'.1)]
  | _, _, .cons _, [], vs, s, σ, H, f, gx, Q, hl, r, hs, q => by simp at hl
  | _, _, .nil, _ :: _, vs, s, σ, H, f, gx, Q, hl, r, hs, q => by simp at hl
/-- every block of a comprehension that starts in X -/
abbrev Blk (X : Cx) (scope : Scope) (P : Cx → Prop) : Prop := ∀ (s : Shared) (H : Hp) (C : Addr) (cl : List (Str × Addr)) (fp : List Addr), P (X.blk s H scope (compEnvC scope cl C X.env) fp)
/-- a target of a block: its reading does not hang on the block -/
structure TgB (X : Cx) (scope : Scope) (tg : Expr) (t : PV → Sl → Option Sl) (ix : List Nat) : Prop where
  ex : ∃ g, Blk X scope (fun Y => PG Y tg g) ∧ ∀ (x : PV) (s s1 : Sl) (v : V) (σ : L2.St) (H : Hp) (f gx : Fp) (Q : L2.St → Hp → Prop), t x s = some s1 → Rep X.K H x v gx → SLR X.K H s σ f →
    (∀ σ' f', SLR X.K H s1 σ' f' → (∀ b, f' b ≤ gx b + f b) → (∀ j, j ∉ ix → σ'[j]? = σ[j]?) → σ'.length = σ.length → Q σ' H) → g v σ H Q
theorem tgb_name (i : Nat) {x : Str} {p : Pos} (h : Blk X scope (fun Y => PG Y (.Name x p) (gName i))) : TgB X scope (.Name x p) (t1 i) [i] := ⟨gName i, h, fun x s s1 v σ H f gx Q e r hs q => by
  cases (Option.some.inj e)
  obtain ⟨f', h1, h2⟩ := hs.store i r
  exact q _ f' h1 h2 (fun j hj => List.getElem?_set_ne (fun z => hj (by simp [z]))) (List.length_set)⟩
/-- several names of a block -/
inductive BNs (X : Cx) (scope : Scope) : List Expr → List Nat → TGs → Prop where
  | nil : BNs X scope [] [] gNil
  | cons {x : Str} {p : Pos} {es : List Expr} {i : Nat} {is : List Nat} {t : TGs} (h : Blk X scope (fun Y => PG Y (.Name x p) (gName i))) (r : BNs X scope es is t) (hs : Blk X scope (fun Y => (assignEach (.Name x p :: es) Y.env).map (·.2) = assign (.Name x p) Y.env :: (assignEach es Y.env).map (·.2))) : BNs X scope (.Name x p :: es) (i :: is) (gCons (gName i) t)
theorem BNs.pns : ∀ {es : List Expr} {is : List Nat} {t : TGs}, BNs X scope es is t → Blk X scope (fun Y => PNs Y es is t)
  | _, _, _, .nil => fun _ _ _ _ _ => .nil
  | _, _, _, .cons h r hs => fun s H C cl fp => .cons (h s H C cl fp) (BNs.pns r s H C cl fp) (hs s H C cl fp)
theorem BNs.nm : ∀ {es : List Expr} {is : List Nat} {t : TGs}, BNs X scope es is t → NmT is t
  | _, _, _, .nil => .nil
  | _, _, _, .cons _ r _ => .cons r.nm
theorem tgb_tup {es : List Expr} {k : Nat} {is : List Nat} {t : TGs} {p : Pos} (hc : X.calm = true) (h : BNs X scope es is t) (hn : Blk X scope (fun Y => (assignEach es Y.env).length = is.length)) (hst : Blk X scope (fun Y => (assignEach es Y.env).findIdx? (·.1) = none)) : TgB X scope (.Tuple es k p) (tN is) is :=
  ⟨gTup X.K is.length t, fun s H C cl fp => pg_tup (X := X.blk s H scope (compEnvC scope cl C X.env) fp) hc (h.pns s H C cl fp).pgs (hn s H C cl fp) (hst s H C cl fp), fun x s s1 v σ H f gx Q e r hs q => by
    unfold tN at e
    split at e
    · rename_i xs
      split at e
      · rename_i hl
        cases (Option.some.inj e)
        obtain ⟨a, va, rfl, ha, za, sa⟩ := r.tupAt
        exact ⟨a, va, rfl, ha, by rw [sa.length, hl], h.nm.run hl sa hs q⟩
      · cases e
    · cases e⟩
theorem se_comp {os : M (List Pnd)} {r : List V → Hp → (It → Hp → Prop) → Prop} {it : List PV → Option (List PV)} {t : PV → Sl → Option Sl} {ix : List Nat} {cond : M Bool} {el : M PV}
    (hc : X.calm = true) (hN : X.N.Nodup) (hi : SI X W tg iter os r) (vi : VIt X.K it r) (ok : BlkOk X.N X.env.scope scope own) (ht : TgB X scope tg t ix) (hix : ∀ i ∈ ix, i ∈ own.map (·.2))
    (hcond : Blk X scope (fun Y => SIf Y W0 ifs cond)) (hel : Blk X scope (fun Y => SE Y W0 elt el)) (hs : ∀ x, foldedSetIterable iter X.env x = pure x := by intro _; rfl) :
    SE X W (.ListComp elt [⟨tg, iter, ifs, 0⟩] scope pos) (mComp os it t cond el (own.map (·.2))) := by
  obtain ⟨g, hg, hgt⟩ := ht.ex
  exact PE.weaken (pe_lc (tt := rdG BRep X W0 cond) (te := rdG (Rep X.K) X W0 el) hc hN hi ok hg hcond hel hs) fun σ H Q q => comp_core vi hgt hix q
end
/-! ### methods that change a list -/
/-- the receiver is the slot i, which owns a list -/
def mMeth (i : Nat) (f : PV → List PV → Option (PV × PV)) (ms : M (List PV)) : M PV := fun s => match s[i]? with
  | some (some (.lst true _)) => (ms s).bind fun ys s1 => match s1[i]? with
    | some (some (.lst true xs)) => match f (.lst true xs) ys with
      | some (z, x') => .ok z (s1.set i (some x'))
      | none => .bad
    | _ => .bad
  | _ => .bad
def VMt (K : PySem.W.Frag) (f : PV → List PV → Option (PV × PV)) (r : V → List V → Hp → VK → Prop) : Prop :=
  ∀ H x v gx ys ws gy z x' Q, Rep K H (.lst true x) v gx → Reps K H ys ws gy → (∀ b, gx b + gy b ≤ 1) → f (.lst true x) ys = some (z, x') →
    (∀ vz H' gz gx', Rep K H' z vz gz → Rep K H' x' v gx' → (∀ b, gz b + gx' b ≤ gx b + gy b) → Kept H H' gx → Q vz H') → r v ws H Q
def fApp : PV → List PV → Option (PV × PV)
  | .lst true xs, [y] => if xs.length < LIM then some (.non, .lst true (xs ++ [y])) else none
  | _, _ => none
noncomputable def fPopAt : PV → List PV → Option (PV × PV)
  | .lst true xs, [.int i] => @ite _ (-(2 ^ 63) ≤ i ∧ i < 2 ^ 63) (Classical.propDecidable _) (match seqIndex? i xs.length with
    | some k => match xs[k]? with | some y => some (y, .lst true (xs.eraseIdx k)) | none => none
    | none => none) none
  | _, _ => none
section
variable {K : PySem.W.Frag} {H : Hp}
theorem kept_upd {D : Addr} {o : HO} : Kept H (upd H D o) (one D) := fun b u e z => by
  have : b ≠ D := fun e' => by rw [e', one_self] at z; omega
  rw [upd_ne this]; exact e
theorem mut_one {D : Addr} {vs : List V} (h : H D = some (.lst vs)) : ∀ b, one D b ≠ 0 → MutA H b := fun b n => by
  have : b = D := Classical.byContradiction fun z => n (one_ne z)
  subst this; exact ⟨_, h, trivial⟩
theorem vm_app : VMt K fApp rAppend := by
  intro H x v gx ys ws gy z x' Q r rs le e q
  match ys, e with
  | [y], e =>
    obtain ⟨w, us, g1, g2, rfl, ry, ⟨rfl, z2⟩, hg⟩ := rs
    obtain ⟨a, va, g, rfl, ha, hz, ra, hga⟩ := r
    simp only [fApp] at e
    split at e
    · rename_i hl
      cases e
      refine ⟨a, va, w, rfl, rfl, ha, by rw [ra.length, lim_eq]; exact hl, ?_⟩
      have mu := mut_one ha
      have dj : ∀ b, g b + g1 b ≠ 0 → one a b = 0 := fun b n => by have := le b; have := hga b; have := hg b; omega
      exact q .non _ Z0 (fun b => (g b + g1 b) + one a b) rep_non ⟨a, va ++ [w], fun b => g b + g1 b, rfl, upd_same, by rw [List.length_append, List.length_singleton, lim_eq]; omega, (ra.snoc ry).kept kept_upd mu dj, fun _ => rfl⟩
        (fun b => by have := hga b; have := hg b; have : g2 b = 0 := z2 b; show 0 + (g b + g1 b + one a b) ≤ _; omega)
        (fun b o e z => kept_upd b o e (by have := hga b; omega))
    · cases e
theorem Reps.erase : ∀ {xs : List PV} {vs : List V} {f : Fp} {k : Nat} {x : PV}, Reps K H xs vs f → xs[k]? = some x → ∃ v g h, vs[k]? = some v ∧ Rep K H x v g ∧ Reps K H (xs.eraseIdx k) (vs.eraseIdx k) h ∧ ∀ b, f b = g b + h b
  | [], vs, f, k, x, h, e => by simp at e
  | y :: r, vs, f, 0, x, h, e => by
    obtain ⟨w, ws, g1, g2, rfl, h1, h2, hg⟩ := h
    have : y = x := by simpa using e
    subst this
    exact ⟨w, g1, g2, rfl, h1, h2, hg⟩
  | y :: r, vs, f, k + 1, x, h, e => by
    obtain ⟨w, ws, g1, g2, rfl, h1, h2, hg⟩ := h
    obtain ⟨v, g, h, k1, k2, k3, k4⟩ := Reps.erase (k := k) h2 (by simpa using e)
    exact ⟨v, g, fun b => g1 b + h b, by simpa using k1, k2, ⟨w, ws.eraseIdx k, g1, h, rfl, h1, k3, fun _ => rfl⟩, fun b => by have := hg b; have := k4 b; show f b = g b + (g1 b + h b); omega⟩
theorem vm_popAt : VMt K fPopAt rPopAt := by
  intro H x v gx ys ws gy z x' Q r rs le e q
  match ys, e with
  | [.int i], e =>
    obtain ⟨w, us, g1, g2, rfl, ⟨rfl, _⟩, ⟨rfl, z2⟩, hg⟩ := rs
    obtain ⟨a, va, g, rfl, ha, hz, ra, hga⟩ := r
    simp only [fPopAt] at e
    split at e
    · rename_i hl
      cases e1 : seqIndex? i x.length with
      | none => rw [e1] at e; cases e
      | some k =>
        rw [e1] at e
        dsimp only at e
        cases e2 : x[k]? with
        | none => rw [e2] at e; cases e
        | some y =>
          rw [e2] at e
          cases e
          obtain ⟨vy, gy', gr, k1, k2, k3, k4⟩ := ra.erase e2
          refine ⟨a, va, i, k, vy, rfl, rfl, ha, hl.1, hl.2, by rw [ra.length]; exact e1, k1, ?_⟩
          have mu := mut_one ha
          have dj : ∀ b, g b ≠ 0 → one a b = 0 := fun b n => by have := le b; have := hga b; omega
          exact q vy _ gy' (fun b => gr b + one a b) (k2.kept kept_upd mu fun b n => dj b (by have := k4 b; omega)) ⟨a, _, gr, rfl, upd_same, by have := len_erase x k; omega, k3.kept kept_upd mu fun b n => dj b (by have := k4 b; omega), fun _ => rfl⟩
            (fun b => by have := hga b; have := k4 b; show gy' b + (gr b + one a b) ≤ _; omega) (fun b o e z => kept_upd b o e (by have := hga b; omega))
    · cases e
end
section
variable {X : Cx} {W : WX} {e : Expr} {es : List Expr} {x : Str} {p apos pos : Pos} {name : Str} {id : String} {r : V → List V → Hp → VK → Prop} {f : PV → List PV → Option (PV × PV)}
/-- behind the arguments -/
theorem meth_end {i : Nat} (vm : VMt X.K f r) {ms : M (List PV)} {σ : L2.St} {H : Hp} {Q : VK} {s : Sl} {F : Fp} (h1 : SLR X.K H s σ F) (h2 : ∀ b, F b ≤ 1) (h3 : GP (Rep X.K) X W H F σ Q (mMeth i f ms s)) :
    ∃ a, σ[i]? = some (some (.ref a)) ∧ tyV X.K "list" (.ref a) H ∧ rdG (Reps X.K) X W ms σ H (fun ws H2 => r (.ref a) ws H2 Q) := by
  unfold mMeth at h3
  split at h3
  · rename_i xs0 e0
    obtain ⟨v, g0, h0, k1, k2, k3, k4⟩ := h1.take e0
    obtain ⟨a, va, g, rfl, ha, hz, ra, hga⟩ := k2
    refine ⟨a, k1, .inl ⟨rfl, _, .inl (.inl ha)⟩, s, F, h1, h2, ?_⟩
    cases em : ms s with
    | bad => rw [em] at h3; exact h3
    | exc y s1 => rw [em] at h3; exact h3
    | ok ys s1 =>
      rw [em] at h3
      simp only [R.bind_ok] at h3
      intro ws H2 gy f2 l1 l2 l3 l4
      split at h3
      · rename_i xs1 e1
        obtain ⟨v', gx, hx, m1, m2, m3, m4⟩ := l2.take e1
        have ev : v' = .ref a := by have := m1.symm.trans k1; simpa using this
        subst ev
        split at h3
        · rename_i z x' ef
          refine vm H2 xs1 (.ref a) gx ys ws gy z x' Q m2 l1 (fun b => by have := l3 b; have := m4 b; omega) ef fun vz H' gz gx' n1 n2 n3 n4 => ?_
          have hs' : SLR X.K H' (s1.set i none) σ hx := m3.kept n4 (fun b n => m2.mut n) (fun b n => by have := l3 b; have := m4 b; omega)
          have hi : i < s1.length := (List.getElem?_eq_some_iff.mp e1).1
          have hp := SLR.put hs' (getElem?_set_none hi) n2
          rw [List.set_set, set_same m1] at hp
          refine h3 vz H' gz (fun b => gx' b + hx b) n1 hp (fun b => by have := n3 b; have := l3 b; have := m4 b; show gz b + (gx' b + hx b) ≤ 1; omega) ⟨fun b o e z => ?_, fun b o e z => ?_⟩
          · have y := l4.keep b o e z
            have : gy b + f2 b = 0 := l4.own b o e z
            exact n4 b o y (by have := m4 b; omega)
          · have : gy b + f2 b = 0 := l4.own b o e z
            have := n3 b
            have := m4 b
            show gz b + (gx' b + hx b) = 0
            omega
        · exact h3.elim
      · exact h3.elim
  · exact h3.elim
/-- x.m(e, ..) of a list in a slot -/
theorem se_meth (i : Nat) {ms : M (List PV)} (slot : Slot "list" name id) (hty : typeOf (.builtin id) = pure (.type "method_descriptor")) (hm : MtR X id r) (vm : VMt X.K f r) (ho : PE X (.Name x p) (tVar i)) (ha : SV X W (e :: es) ms)
    (hbase : attributeBase (.Name x p) name X.env (eval (.Name x p) X.env) = eval (.Name x p) X.env := by rfl)
    (hfew : ((backTo pos (starEach (e :: es) X.env)).all (fun x => !x.1) && (backToKw pos (keywordEach [] X.env)).all (fun x => x.1.isSome)
      && decide ((e :: es).length + ([] : List Keyword).length + (if ([] : List Keyword).isEmpty then 0 else 1) < 30)) = true := by rfl)
    (hline : (apos.endLine == pos.line) = true := by rfl) (hs : starEach (e :: es) X.env = (false, eval e X.env) :: starEach es X.env := by rfl) (hplain : (backTo pos (starEach es X.env)).any (·.1) = false := by rfl) :
    SE X W (.Call (.Attribute (.Name x p) name apos) (e :: es) [] pos) (mMeth i f ms) :=
  PE.weaken (pe_bm PySem.F.plainAttrs_list slot hty hm ho ha hbase hfew hline hs hplain) fun σ H Q q => by
    obtain ⟨s, F, h1, h2, h3⟩ := q
    obtain ⟨a, k1, k2, k3⟩ := meth_end vm h1 h2 h3
    exact ⟨.ref a, k1, k2, k3⟩
end
end Bv
set_option maxHeartbeats 400000
namespace Bv
open PySem PySem.Spec PyProof.Rows L2
/-! ### statements -/
inductive Out where
  | nx (s : Sl)
  | rt (x : PV) (s : Sl)
  | bk (s : Sl)
  | ct (s : Sl)
  | exc (x : XV) (s : Sl)
  | bad
abbrev MS := Sl → Out
def R.out {α : Type} : R α → (α → Sl → Out) → Out
  | .ok a s, k => k a s
  | .exc x s, _ => .exc x s
  | .bad, _ => .bad
@[simp] theorem R.out_ok {α : Type} (a : α) (s : Sl) (k : α → Sl → Out) : (R.ok a s).out k = k a s := rfl
@[simp] theorem R.out_exc {α : Type} (x : XV) (s : Sl) (k : α → Sl → Out) : (R.exc x s : R α).out k = .exc x s := rfl
@[simp] theorem R.out_bad {α : Type} (k : α → Sl → Out) : (R.bad : R α).out k = .bad := rfl
def PinE (pn : List Nat) (σ σ' : L2.St) : Prop := σ'.length = σ.length ∧ ∀ i ∈ pn, σ'[i]? = σ[i]?
theorem PinE.refl (pn : List Nat) (σ : L2.St) : PinE pn σ σ := ⟨rfl, fun _ _ => rfl⟩
theorem PinE.trans {pn : List Nat} {a b c : L2.St} (x : PinE pn a b) (y : PinE pn b c) : PinE pn a c := ⟨y.1.trans x.1, fun i hi => (y.2 i hi).trans (x.2 i hi)⟩
theorem PinE.sub {pn qn : List Nat} {a b : L2.St} (x : PinE qn a b) (h : ∀ i ∈ pn, i ∈ qn) : PinE pn a b := ⟨x.1, fun i hi => x.2 i (h i hi)⟩
def SEnd (K : PySem.W.Frag) (pn : List Nat) (H : Hp) (f : Fp) (σ : L2.St) (D : L2.St → Hp → Prop) (s' : Sl) : Prop :=
  ∀ σ' H' f', PinE pn σ σ' → SLR K H' s' σ' f' → (∀ b, f' b ≤ 1) → Frm H H' f f' → D σ' H'
def OP (X : Cx) (W : WX) (pn : List Nat) (D : Ends) (H : Hp) (f : Fp) (σ : L2.St) : Out → Prop
  | .nx s' => SEnd X.K pn H f σ D.nx s'
  | .bk s' => SEnd X.K pn H f σ D.bk s'
  | .ct s' => SEnd X.K pn H f σ D.ct s'
  | .rt x s' => ∀ v σ' H' g f', PinE pn σ σ' → Rep X.K H' x v g → SLR X.K H' s' σ' f' → (∀ b, g b + f' b ≤ 1) → Frm H H' f (fun b => g b + f' b) → D.rt v H'
  | .exc x s' => ∀ cls d σ' H' f', PinE pn σ σ' → XRep X.K X.mg H' x cls d → SLR X.K H' s' σ' f' → (∀ b, f' b ≤ 1) → Frm H H' f f' → W cls d σ' H'
  | .bad => False
def rdS (X : Cx) (W : WX) (pn : List Nat) (m : MS) : TS := fun D σ H => ∃ s f, SLR X.K H s σ f ∧ (∀ b, f b ≤ 1) ∧ OP X W pn D H f σ (m s)
def SS (X : Cx) (W : WX) (pn : List Nat) (st : Stmt) (m : MS) : Prop := PS X st (rdS X W pn m)
def SSs (X : Cx) (W : WX) (pn : List Nat) (st : List Stmt) (m : MS) : Prop := PSs X st (rdS X W pn m)
theorem Frm.go {H H1 H' : Hp} {f h1 f1 f2 : Fp} (a : Frm H H1 f h1) (b : Frm H1 H' f1 f2) (le : ∀ b, h1 b = 0 → f1 b = 0) : Frm H H' f f2 :=
  ⟨fun c o e z => b.keep c o (a.keep c o e z) (le c (a.own c o e z)), fun c o e z => b.own c o (a.keep c o e z) (le c (a.own c o e z))⟩
section
variable {X : Cx} {W : WX} {pn : List Nat} {D : Ends} {H H1 : Hp} {f f1 h1 : Fp} {σ σ1 : L2.St}
theorem SEnd.step {E : L2.St → Hp → Prop} {s' : Sl} (p : SEnd X.K pn H f σ E s') (pe : PinE pn σ σ1) (fr : Frm H H1 f h1) (le : ∀ b, h1 b = 0 → f1 b = 0) : SEnd X.K pn H1 f1 σ1 E s' :=
  fun σ' H' f' a b c d => p σ' H' f' (pe.trans a) b c (fr.go d le)
theorem OP.step {o : Out} (p : OP X W pn D H f σ o) (pe : PinE pn σ σ1) (fr : Frm H H1 f h1) (le : ∀ b, h1 b = 0 → f1 b = 0) : OP X W pn D H1 f1 σ1 o := by
  cases o with
  | nx s' => exact SEnd.step (p : SEnd X.K pn H f σ D.nx s') pe fr le
  | bk s' => exact SEnd.step (p : SEnd X.K pn H f σ D.bk s') pe fr le
  | ct s' => exact SEnd.step (p : SEnd X.K pn H f σ D.ct s') pe fr le
  | rt x s' => exact fun v σ' H' g f' a b c d e => p v σ' H' g f' (pe.trans a) b c d (fr.go e le)
  | exc x s' => exact fun cls d σ' H' f' a b c e e' => p cls d σ' H' f' (pe.trans a) b c e (fr.go e' le)
  | bad => exact p
/-- an expression first -/
theorem rdS.bind {α β : Type} {ρ : Hp → α → β → Fp → Prop} {m : M α} {k : α → Sl → Out} {Q1 : β → Hp → Prop}
    (h : rdS X W pn (fun s => (m s).out k) D σ H)
    (hk : ∀ f a s1 v H1 g f1, (∀ b, f b ≤ 1) → ρ H1 a v g → SLR X.K H1 s1 σ f1 → (∀ b, g b + f1 b ≤ 1) → Frm H H1 f (fun b => g b + f1 b) → OP X W pn D H f σ (k a s1) → Q1 v H1) : rdG ρ X W m σ H Q1 := by
  obtain ⟨s, f, h1, h2, h3⟩ := h
  refine ⟨s, f, h1, h2, ?_⟩
  dsimp only at h3
  cases e : m s with
  | ok a s1 =>
    rw [e] at h3
    exact fun v H' g f' p q r t => hk f a s1 v H' g f' h2 p q r t h3
  | exc x s1 =>
    rw [e] at h3
    exact fun cls d H' f' a b c e => h3 cls d σ H' f' (PinE.refl _ _) a b c e
  | bad => rw [e] at h3; exact h3
theorem PSs.weaken' {st : List Stmt} {t t' : TS} (h : PSs X st t) (w : ∀ D σ H, t' D σ H → t D σ H) : PSs X st t' := ⟨fun pins s σ H D I q => h.run pins s σ H D I (w D σ H q)⟩
theorem PS.weaken' {st : Stmt} {t t' : TS} (h : PS X st t) (w : ∀ D σ H, t' D σ H → t D σ H) : PS X st t' := ⟨fun pins s σ H D I q => h.run pins s σ H D I (w D σ H q)⟩
end
def mNx : MS := fun s => .nx s
def Out.then (o : Out) (n : MS) : Out := match o with | .nx s' => n s' | o => o
def mSeq (m n : MS) : MS := fun s => (m s).then n
def mDrop (m : M PV) : MS := fun s => (m s).out fun _ s' => .nx s'
def mRet (m : M PV) : MS := fun s => (m s).out fun x s' => .rt x s'
def mIf (c : M Bool) (a b : MS) : MS := fun s => (c s).out fun d s' => if d then a s' else b s'
def mAsg (m : M PV) (t : PV → Sl → Option Sl) : MS := fun s => (m s).out fun x s' => match t x s' with | some s2 => .nx s2 | none => .bad
section
variable {X : Cx} {W : WX} {pn : List Nat} {st : Stmt} {rest : List Stmt} {m n : MS} {e c : Expr} {pos : Pos}
theorem sss_nil : SSs X W pn [] mNx := PSs.weaken' pss_nil fun D σ H ⟨s, f, h1, h2, h3⟩ => h3 σ H f (PinE.refl _ _) h1 h2 (Frm.refl fun b z => z)
theorem sss_cons (h1 : SS X W pn st m) (h2 : SSs X W pn rest n) : SSs X W pn (st :: rest) (mSeq m n) := PSs.weaken' (pss_cons h1 h2) fun D σ H ⟨s, f, a1, a2, a3⟩ => by
  refine ⟨s, f, a1, a2, ?_⟩
  unfold mSeq at a3
  cases eo : m s with
  | nx s' =>
    rw [eo] at a3
    intro σ' H' f' p1 p2 p3 p4
    exact ⟨s', f', p2, p3, OP.step (show OP X W pn D H f σ (n s') from a3) p1 p4 (fun b z => z)⟩
  | bk s' => rw [eo] at a3; exact a3
  | ct s' => rw [eo] at a3; exact a3
  | rt x s' => rw [eo] at a3; exact a3
  | exc x s' => rw [eo] at a3; exact a3
  | bad => rw [eo] at a3; exact a3
theorem sss_one (h1 : SS X W pn st m) : SSs X W pn [st] m := pss_one h1
theorem ss_expr {m : M PV} (he : SE X W e m) (hs : swapsWith e none pos.line X.env = pure false := by rfl) : SS X W pn (.Expr e pos) (mDrop m) := PS.weaken' (ps_expr he hs) fun D σ H q =>
  rdS.bind (ρ := Rep X.K) q fun f x s1 v H1 g f1 h0 h1 h2 h3 h4 h5 => h5 σ H1 f1 (PinE.refl _ _) h2 (fun b => by have := h3 b; omega) ⟨h4.keep, fun b o e z => by have : g b + f1 b = 0 := h4.own b o e z; omega⟩
theorem ss_ret {m : M PV} (he : SE X W e m) : SS X W pn (.Return (some e) pos) (mRet m) := PS.weaken' (ps_ret he) fun D σ H q =>
  rdS.bind (ρ := Rep X.K) q fun f x s1 v H1 g f1 h0 h1 h2 h3 h4 h5 => h5 v σ H1 g f1 (PinE.refl _ _) h1 h2 h3 h4
theorem ss_if {a b : List Stmt} {mc : M Bool} (hc : ST X W c mc) (ha : SSs X W pn a m) (hb : SSs X W pn b n) : SS X W pn (.If c a b pos) (mIf mc m n) := PS.weaken' (ps_if hc ha hb) fun D σ H q =>
  rdS.bind (ρ := BRep) q fun f x s1 v H1 g f1 h0 h1 h2 h3 h4 h5 => by
    obtain ⟨rfl, z⟩ := h1
    cases x with
    | true => exact ⟨s1, f1, h2, fun b => by have := h3 b; omega, OP.step h5 (PinE.refl _ _) h4 (fun b z => by omega)⟩
    | false => exact ⟨s1, f1, h2, fun b => by have := h3 b; omega, OP.step h5 (PinE.refl _ _) h4 (fun b z => by omega)⟩
/-- behind the value of a store -/
theorem asg_end {g : TG} {t : PV → Sl → Option Sl} {ix : List Nat} (hp : ∀ i ∈ pn, i ∉ ix)
    (hg : ∀ (x : PV) (s s1 : Sl) (v : V) (σ : L2.St) (H : Hp) (f gx : Fp) (Q : L2.St → Hp → Prop), t x s = some s1 → Rep X.K H x v gx → SLR X.K H s σ f →
      (∀ σ' f', SLR X.K H s1 σ' f' → (∀ b, f' b ≤ gx b + f b) → (∀ j, j ∉ ix → σ'[j]? = σ[j]?) → σ'.length = σ.length → Q σ' H) → g v σ H Q)
    {m : M PV} {D : Ends} {σ : L2.St} {H : Hp} (q : rdS X W pn (mAsg m t) D σ H) : rdG (Rep X.K) X W m σ H (fun x H1 => g x σ H1 D.nx) :=
  rdS.bind (ρ := Rep X.K) q fun f x s1 v H1 gx f1 h0 h1 h2 h3 h4 h5 => by
    cases et : t x s1 with
    | none => rw [et] at h5; exact h5.elim
    | some s2 =>
      rw [et] at h5
      refine hg x s1 s2 v σ H1 f1 gx _ et h1 h2 fun σ' f' k1 k2 k3 k4 => ?_
      exact h5 σ' H1 f' ⟨k4, fun i hi => k3 i (hp i hi)⟩ k1 (fun b => by have := k2 b; have := h3 b; omega) ⟨h4.keep, fun b o e z => by have : gx b + f1 b = 0 := h4.own b o e z; have := k2 b; omega⟩
theorem ss_asg {tg : Expr} {m : M PV} {t : PV → Sl → Option Sl} {ix : List Nat} (he : SE X W e m) (ht : TgOk X tg t ix) (hp : ∀ i ∈ pn, i ∉ ix) (hs : swapsWithSole [tg] e pos.line X.env = pure false := by rfl) (hw : swappedStores [tg] e X.env = pure none := by rfl)
    (h1 : (assignEach [tg] X.env).map (·.2) = [assign tg X.env] := by rfl) : SS X W pn (.Assign [tg] e pos) (mAsg m t) := by
  obtain ⟨g, hg, hgt⟩ := ht.ex
  exact PS.weaken' (ps_asg he hg hs hw h1) fun D σ H q => asg_end hp hgt q
theorem gname_ok (i : Nat) (x : PV) (s s1 : Sl) (v : V) (σ : L2.St) (H : Hp) (f gx : Fp) (Q : L2.St → Hp → Prop) (e : t1 i x s = some s1) (r : Rep X.K H x v gx) (hs : SLR X.K H s σ f)
    (q : ∀ σ' f', SLR X.K H s1 σ' f' → (∀ b, f' b ≤ gx b + f b) → (∀ j, j ∉ [i] → σ'[j]? = σ[j]?) → σ'.length = σ.length → Q σ' H) : gName i v σ H Q := by
  cases (Option.some.inj e)
  obtain ⟨f', h1, h2⟩ := hs.store i r
  exact q _ f' h1 h2 (fun j hj => List.getElem?_set_ne (fun z => hj (by simp [z]))) (List.length_set)
theorem ss_set (i : Nat) {x : Str} {m : M PV} {pos' : Pos} (he : SE X W e m) (hN : X.N.Nodup) (hi : X.N[i]? = some x) (hx : Loc X.env.scope x) (hp : ∀ j ∈ pn, j ∉ [i]) (hs : swapsWith e (some (.Name x pos')) pos.line X.env = pure false) (hf : X.fn x = true ∨ X.env.scope.names.lookup x = some .local) :
    SS X W pn (.Assign [.Name x pos'] e pos) (mAsg m (t1 i)) :=
  PS.weaken' (ps_set hN hi hx he hs hf) fun D σ H q => asg_end hp (gname_ok i) q
theorem ss_setLc (i : Nat) {y : Str} {py : Pos} {elt tg iter : Expr} {ifs : List Expr} {scope : Scope} {own : List (Str × Nat)} {spos : Pos} {os : M (List Pnd)} {r : List V → Hp → (It → Hp → Prop) → Prop} {it : List PV → Option (List PV)} {t : PV → Sl → Option Sl} {ix : List Nat} {cond : M Bool} {el : M PV}
    (hc : X.calm = true) (hN : X.N.Nodup) (hy : X.N[i]? = some y) (hyl : X.env.scope.names.lookup y = some .local) (hp : ∀ j ∈ pn, j ∉ [i])
    (hsw : swapsWith (.ListComp elt [⟨tg, iter, ifs, 0⟩] scope pos) (some (.Name y py)) spos.line X.env = pure true)
    (hi : SI X W tg iter os r) (vi : VIt X.K it r) (ok : BlkOk X.N X.env.scope scope own) (ht : TgB X scope tg t ix) (hix : ∀ i ∈ ix, i ∈ own.map (·.2))
    (hcond : Blk X scope (fun Y => SIf Y W0 ifs cond)) (hel : Blk X scope (fun Y => SE Y W0 elt el)) (hs : ∀ x, foldedSetIterable iter X.env x = pure x := by intro _; rfl) :
    SS X W pn (.Assign [.Name y py] (.ListComp elt [⟨tg, iter, ifs, 0⟩] scope pos) spos) (mAsg (mComp os it t cond el (own.map (·.2))) (t1 i)) := by
  obtain ⟨g, hg, hgt⟩ := ht.ex
  exact PS.weaken' (ps_setLc (tt := rdG BRep X W0 cond) (te := rdG (Rep X.K) X W0 el) hc hN hy hyl hsw hi ok hg hcond hel hs) fun D σ H q => comp_core vi hgt hix (asg_end hp (gname_ok i) q)
/-- a, b = x, y -/
def mPar (i j : Nat) (ms : M (List PV)) : MS := fun s => (ms s).out fun xs s' => match xs with | [x, y] => .nx ((s'.set i (some x)).set j (some y)) | _ => .bad
theorem ss_par (i j : Nat) {x y : Str} {a b : Expr} {ms : M (List PV)} {px py pt : Pos} {kt k2 pt2} (hc : X.calm = true) (hN : X.N.Nodup) (hi : X.N[i]? = some x) (hj : X.N[j]? = some y) (hij : i ≠ j)
    (hx : X.env.scope.names.lookup x = some .local) (hy : X.env.scope.names.lookup y = some .local) (hp : ∀ k ∈ pn, k ∉ [i, j]) (ha : SV X W [a, b] ms)
    (hw : swappedStores [.Tuple [.Name x px, .Name y py] kt pt] (.Tuple [a, b] k2 pt2) X.env = pure (some [x, y]))
    (hs : swapsWithSole [.Tuple [.Name x px, .Name y py] kt pt] (.Tuple [a, b] k2 pt2) pos.line X.env = pure false := by rfl) :
    SS X W pn (.Assign [.Tuple [.Name x px, .Name y py] kt pt] (.Tuple [a, b] k2 pt2) pos) (mPar i j ms) := PS.weaken' (ps_par hc hN hi hj hij hx hy ha hw hs) fun D σ H q =>
  rdS.bind (ρ := Reps X.K) q fun f xs s1 vs H1 g f1 h0 h1 h2 h3 h4 h5 => by
    match xs, h1, h5 with
    | [x, y], h1, h5 =>
      obtain ⟨v, ws, g1, g2, rfl, r1, ⟨w, us, g3, g4, rfl, r2, ⟨rfl, z4⟩, hg2⟩, hg⟩ := h1
      obtain ⟨f2, k1, k2⟩ := h2.store i r1
      obtain ⟨f3, k3, k4⟩ := k1.store j r2
      have le : ∀ b, f3 b ≤ g b + f1 b := fun b => by have := k2 b; have := k4 b; have := hg b; have := hg2 b; omega
      exact ⟨v, w, rfl, h5 _ H1 f3 ⟨by simp, fun k hk => by
        have := hp k hk
        have n1 : i ≠ k := fun z => this (by simp [z])
        have n2 : j ≠ k := fun z => this (by simp [z])
        rw [List.getElem?_set_ne n2, List.getElem?_set_ne n1]⟩ k3 (fun b => by have := le b; have := h3 b; omega) ⟨h4.keep, fun b o e z => by have : g b + f1 b = 0 := h4.own b o e z; have := le b; omega⟩⟩
    | [], h1, h5 => exact h5.elim
    | [x], h1, h5 => exact h5.elim
    | x :: y :: z :: r, h1, h5 => exact h5.elim
end
end Bv
set_option maxHeartbeats 400000
namespace Bv
open PySem PySem.Spec PyProof.Rows L2
/-! ### for -/
def forL (t : PV → Sl → Option Sl) (b : MS) : List PV → Sl → Out
  | [], s => .nx s
  | x :: r, s => match t x s with
    | none => .bad
    | some s1 => match b s1 with
      | .nx s2 => forL t b r s2
      | .ct s2 => forL t b r s2
      | .bk s2 => .nx s2
      | .rt y s2 => .rt y s2
      | .exc y s2 => .exc y s2
      | .bad => .bad
def finL (ps : List Pnd) (vals : List PV) : Out → Out
  | .nx s => .nx (putP ps vals s)
  | .rt x s => .rt x (putP ps vals s)
  | .exc x s => .exc x (putP ps vals s)
  | _ => .bad
def locsIn (pn : List Nat) : List Pnd → Bool
  | [] => true
  | .loc i :: r => pn.contains i && locsIn pn r
  | .val _ :: r => locsIn pn r
def mFor (pn : List Nat) (os : M (List Pnd)) (it : List PV → Option (List PV)) (t : PV → Sl → Option Sl) (b : MS) : MS := fun s => (os s).out fun ps s1 =>
  if locsIn pn ps = true then match takeP ps s1 with
    | some (vals, s2) => match it vals with
      | some xs => finL ps vals (forL t b xs s2)
      | none => .bad
    | none => .bad
  else .bad
section
variable {K : PySem.W.Frag} {H H' : Hp} {σ σ' : L2.St}
theorem PReps.pin {pn : List Nat} : ∀ {ps : List Pnd} {vs : List V} {g : Fp}, PReps K σ H ps vs g → locsIn pn ps = true → PinE pn σ σ' → PReps K σ' H ps vs g
  | [], vs, g, h, l, p => h
  | .loc i :: r, vs, g, h, l, p => by
    obtain ⟨v, ws, g1, g2, e, h1, h2, hg⟩ := h
    simp only [locsIn, Bool.and_eq_true] at l
    exact ⟨v, ws, g1, g2, e, ⟨by rw [p.2 i (by simpa using l.1)]; exact h1.1, h1.2⟩, PReps.pin h2 l.2 p, hg⟩
  | .val x :: r, vs, g, h, l, p => by
    obtain ⟨v, ws, g1, g2, e, h1, h2, hg⟩ := h
    exact ⟨v, ws, g1, g2, e, h1, PReps.pin h2 l p, hg⟩
end
section
variable {X : Cx} {W : WX} {pn qn : List Nat} {tg iter : Expr} {body : List Stmt} {pos : Pos}
theorem ss_for {os : M (List Pnd)} {r : List V → Hp → (It → Hp → Prop) → Prop} {it : List PV → Option (List PV)} {t : PV → Sl → Option Sl} {ix : List Nat} {b : MS}
    (po : PassesOwn (model X.prog X.w) X.A X.env X.xe) (hc : X.calm = true) (hi : SI X W tg iter os r) (vi : VIt X.K it r) (ht : TgOk X tg t ix) (hix : ∀ i ∈ qn, i ∉ ix) (hpq : ∀ i ∈ pn, i ∈ qn) (hb : SSs X W qn body b)
    (hs : ∀ x, foldedSetIterable iter X.env x = pure x := by intro _; rfl) : SS X W pn (.For tg iter body [] pos) (mFor qn os it t b) := by
  obtain ⟨g, hg, hgt⟩ := ht.ex
  refine PS.weaken' (ps_for po hc hi hg hb hs) fun D σ H q => ?_
  refine rdS.bind (ρ := PReps X.K σ) q fun F ps s1 vs H1 g1 f1 h0 h1 h2 h3 h4 h5 => ?_
  split at h5
  · rename_i hloc
    cases e1 : takeP ps s1 with
    | none => rw [e1] at h5; exact h5.elim
    | some pr =>
      obtain ⟨vals, s2⟩ := pr
      rw [e1] at h5
      dsimp only at h5
      cases e2 : it vals with
      | none => rw [e2] at h5; exact h5.elim
      | some xs =>
        rw [e2] at h5
        dsimp only at h5
        obtain ⟨fa, f', k1, k2, k3, k4⟩ := take_ok h1 h2 e1
        refine vi H1 vals vs fa xs _ k1 e2 fun J IR ok hIR => ?_
        -- the list back in its place
        have back : ∀ {σ' : L2.St} {H' : Hp} {s' : Sl} {fs : Fp}, PinE qn σ σ' → SLR X.K H' s' σ' fs → Reps X.K H' vals vs fa → (∀ b, fa b + fs b ≤ 1) → ∃ f'', SLR X.K H' (putP ps vals s') σ' f'' ∧ ∀ b, f'' b ≤ fa b + fs b :=
          fun p a b c => put_ok (h1.pin hloc p) a b c
        refine ⟨fun i m σc Hc => i + m = xs.length ∧ ∃ s fs, SLR X.K Hc s σc fs ∧ (∀ b, fa b + fs b ≤ 1) ∧ IR Hc ∧ Reps X.K Hc vals vs fa ∧ PinE qn σ σc ∧ Frm H Hc F (fun b => fa b + fs b) ∧
            finL ps vals (forL t b (xs.drop i) s) = finL ps vals (forL t b xs s2),
          ⟨xs.length, by omega, s2, f', k2, fun b => by have := k4 b; have := h3 b; omega, hIR, k1, PinE.refl _ _, ⟨h4.keep, fun b o e z => by have : g1 b + f1 b = 0 := h4.own b o e z; have := k4 b; show fa b + f' b = 0; omega⟩, rfl⟩, fun i m σc Hc hW => ?_⟩
        obtain ⟨him, s, fs, a1, a5, a6, a7, ap, af, a10⟩ := hW
        by_cases hi : i < xs.length
        · have notbad : ∀ {Pp : Prop}, finL ps vals (forL t b xs s2) = .bad → Pp := fun e => by rw [e] at h5; exact h5.elim
          refine .inr ⟨ok.go i Hc a6 hi, fun σn Hn => i + 1 + (m - 1) = xs.length ∧ ∃ s fs, SLR X.K Hn s σn fs ∧ (∀ b, fa b + fs b ≤ 1) ∧ IR Hn ∧ Reps X.K Hn vals vs fa ∧ PinE qn σ σn ∧ Frm H Hn F (fun b => fa b + fs b) ∧
              finL ps vals (forL t b (xs.drop (i + 1)) s) = finL ps vals (forL t b xs s2), fun σn Hn hn => ⟨m - 1, by omega, hn⟩, fun v Hy hy => ?_⟩
          have hx : xs[i]? = some xs[i] := List.getElem?_eq_getElem hi
          obtain ⟨rx, ky⟩ := ok.yld i Hc v Hy xs[i] a6 hx hy
          have ed : xs.drop i = xs[i] :: xs.drop (i + 1) := List.drop_eq_getElem_cons hi
          rw [ed] at a10
          simp only [forL] at a10
          have b1 := a1.keptZ ky
          have b6 : IR Hy := ok.st Hc Hy Z0 (keptZ ky) (fun _ n => absurd rfl n) (fun _ _ => rfl) a6
          have b7 := a7.keptZ ky
          cases et : t xs[i] s with
          | none => rw [et] at a10; exact notbad a10.symm
          | some s3 =>
            rw [et] at a10
            dsimp only at a10
            refine hgt xs[i] s s3 v _ Hy fs Z0 _ et rx b1 fun σ3 f3 c1 c2 c3 c4 => ?_
            have f3le : ∀ b, f3 b ≤ fs b := fun b => by have : f3 b ≤ 0 + fs b := c2 b; omega
            have p3 : PinE qn σ σ3 := ap.trans ⟨c4, fun j hj => c3 j (hix j hj)⟩
            -- what the body leaves
            have leaves : ∀ {H' : Hp} {g f4 : Fp}, Frm Hy H' f3 (fun b => g b + f4 b) → (∀ b, g b + f4 b ≤ 1) → IR H' ∧ Reps X.K H' vals vs fa ∧ (∀ b, g b + (fa b + f4 b) ≤ 1) ∧ Frm H H' F (fun b => g b + (fa b + f4 b)) := fun {H' g f4} fr le => by
              have dj : ∀ b, fa b ≠ 0 → f3 b = 0 := fun b n => by have := a5 b; have := f3le b; omega
              have mu : ∀ b, f3 b ≠ 0 → MutA Hy b := fun b n => c1.mut n
              refine ⟨ok.st Hy H' f3 fr.kept mu dj b6, b7.kept fr.kept mu dj, fun b => ?_, ⟨fun b o e z => ?_, fun b o e z => ?_⟩⟩
              · by_cases hb : fa b = 0
                · have := le b; omega
                · obtain ⟨o, ho, _⟩ := b7.mut hb
                  have : g b + f4 b = 0 := fr.own b o ho (dj b hb)
                  have := a5 b
                  omega
              · have z2 : fa b + fs b = 0 := af.own b o e z
                exact fr.keep b o (ky b o (af.keep b o e z)) (by have := f3le b; omega)
              · have z2 : fa b + fs b = 0 := af.own b o e z
                have : g b + f4 b = 0 := fr.own b o (ky b o (af.keep b o e z)) (by have := f3le b; omega)
                show g b + (fa b + f4 b) = 0
                omega
            have leaves0 : ∀ {H' : Hp} {f4 : Fp}, Frm Hy H' f3 f4 → (∀ b, f4 b ≤ 1) → IR H' ∧ Reps X.K H' vals vs fa ∧ (∀ b, fa b + f4 b ≤ 1) ∧ Frm H H' F (fun b => fa b + f4 b) := fun {H' f4} fr le => by
              obtain ⟨x1, x2, x3, x4⟩ := leaves (g := Z0) (f4 := f4) ⟨fr.keep, fun b o e z => by have := fr.own b o e z; show 0 + f4 b = 0; omega⟩ (fun b => by have := le b; show 0 + f4 b ≤ 1; omega)
              exact ⟨x1, x2, fun b => by have : 0 + (fa b + f4 b) ≤ 1 := x3 b; omega, ⟨x4.keep, fun b o e z => by have : 0 + (fa b + f4 b) = 0 := x4.own b o e z; show fa b + f4 b = 0; omega⟩⟩
            refine ⟨s3, f3, c1, fun b => by have := a5 b; have := f3le b; omega, ?_⟩
            have again : ∀ s4, finL ps vals (forL t b (xs.drop (i + 1)) s4) = finL ps vals (forL t b xs s2) → SEnd X.K qn Hy f3 σ3 (fun σn Hn => i + 1 + (m - 1) = xs.length ∧ ∃ s fs, SLR X.K Hn s σn fs ∧ (∀ b, fa b + fs b ≤ 1) ∧ IR Hn ∧ Reps X.K Hn vals vs fa ∧ PinE qn σ σn ∧ Frm H Hn F (fun b => fa b + fs b) ∧
              finL ps vals (forL t b (xs.drop (i + 1)) s) = finL ps vals (forL t b xs s2)) s4 := fun s4 e σ' H' f4 q1 q2 q3 q4 => by
              obtain ⟨x1, x2, x3, x4⟩ := leaves0 q4 q3
              exact ⟨by omega, s4, f4, q2, x3, x1, x2, p3.trans q1, x4, e⟩
            cases eb : b s3 with
            | nx s4 => rw [eb] at a10; exact again s4 a10
            | ct s4 => rw [eb] at a10; exact again s4 a10
            | bad => rw [eb] at a10; exact notbad a10.symm
            | bk s4 =>
              rw [eb] at a10
              rw [← a10] at h5
              intro σ' H' f4 q1 q2 q3 q4
              obtain ⟨x1, x2, x3, x4⟩ := leaves0 q4 q3
              obtain ⟨f5, y1, y2⟩ := back (p3.trans q1) q2 x2 x3
              exact h5 σ' H' f5 ((p3.trans q1).sub hpq) y1 (fun b => by have := y2 b; have := x3 b; omega) ⟨x4.keep, fun b o e z => by have : fa b + f4 b = 0 := x4.own b o e z; have := y2 b; omega⟩
            | rt y s4 =>
              rw [eb] at a10
              rw [← a10] at h5
              intro vy σ' H' gy f4 q1 q0 q2 q3 q4
              obtain ⟨x1, x2, x3, x4⟩ := leaves q4 q3
              obtain ⟨f5, y1, y2⟩ := back (p3.trans q1) q2 x2 (fun b => by have := x3 b; omega)
              exact h5 vy σ' H' gy f5 ((p3.trans q1).sub hpq) q0 y1 (fun b => by have := y2 b; have := x3 b; omega) ⟨x4.keep, fun b o e z => by have : gy b + (fa b + f4 b) = 0 := x4.own b o e z; have := y2 b; show gy b + f5 b = 0; omega⟩
            | exc y s4 =>
              rw [eb] at a10
              rw [← a10] at h5
              intro cls d σ' H' f4 q1 q0 q2 q3 q4
              obtain ⟨x1, x2, x3, x4⟩ := leaves0 q4 q3
              obtain ⟨f5, y1, y2⟩ := back (p3.trans q1) q2 x2 x3
              exact h5 cls d σ' H' f5 ((p3.trans q1).sub hpq) q0 y1 (fun b => by have := y2 b; have := x3 b; omega) ⟨x4.keep, fun b o e z => by have : fa b + f4 b = 0 := x4.own b o e z; have := y2 b; omega⟩
        · have ei : i = xs.length := by omega
          subst ei
          refine .inl ⟨ok.stop Hc a6, ?_⟩
          rw [List.drop_length] at a10
          simp only [forL] at a10
          rw [← a10] at h5
          obtain ⟨f5, y1, y2⟩ := back ap a1 a7 a5
          exact h5 σc Hc f5 (ap.sub hpq) y1 (fun b => by have := y2 b; have := a5 b; omega) ⟨af.keep, fun b o e z => by have : fa b + fs b = 0 := af.own b o e z; have := y2 b; omega⟩
  · exact h5.elim
/-! ### while -/
def whileL (c : M Bool) (b : MS) : Nat → Sl → Out
  | 0, _ => .bad
  | n + 1, s => (c s).out fun d s1 => if d then (match b s1 with
      | .nx s2 => whileL c b n s2
      | .ct s2 => whileL c b n s2
      | .bk s2 => .nx s2
      | .rt y s2 => .rt y s2
      | .exc y s2 => .exc y s2
      | .bad => .bad) else .nx s1
open Classical in
noncomputable def mWhile (c : M Bool) (b : MS) : MS := fun s => if h : ∃ n, whileL c b n s ≠ .bad then whileL c b h.choose s else .bad
theorem whileL_more {c : M Bool} {b : MS} : ∀ {n : Nat} {s : Sl}, whileL c b n s ≠ .bad → whileL c b (n + 1) s = whileL c b n s
  | 0, s, h => absurd rfl h
  | n + 1, s, h => by
    unfold whileL at h ⊢
    cases ec : c s with
    | bad => rfl
    | exc x s1 => rfl
    | ok d s1 =>
      rw [ec] at h
      simp only [R.out_ok] at h ⊢
      cases d with
      | false => rfl
      | true =>
        rw [if_pos rfl] at h ⊢
        rw [if_pos rfl]
        cases eb : b s1 with
        | nx s2 =>
          rw [eb] at h
          exact whileL_more h
        | ct s2 =>
          rw [eb] at h
          exact whileL_more h
        | bk s2 => rfl
        | rt y s2 => rfl
        | exc y s2 => rfl
        | bad => rfl
theorem whileL_le {c : M Bool} {b : MS} {n : Nat} {s : Sl} (h : whileL c b n s ≠ .bad) : ∀ k, whileL c b (n + k) s = whileL c b n s
  | 0 => rfl
  | k + 1 => by
    have ih := whileL_le h k
    rw [← Nat.add_assoc, whileL_more (by rw [ih]; exact h), ih]
theorem whileL_eq {c : M Bool} {b : MS} {n m : Nat} {s : Sl} (h : whileL c b n s ≠ .bad) (h' : whileL c b m s ≠ .bad) : whileL c b n s = whileL c b m s := by
  rcases Nat.le_total n m with l | l
  · obtain ⟨k, rfl⟩ := Nat.exists_eq_add_of_le l
    rw [whileL_le h k]
  · obtain ⟨k, rfl⟩ := Nat.exists_eq_add_of_le l
    rw [whileL_le h' k]
theorem mWhile_eq {c : M Bool} {b : MS} {n : Nat} {s : Sl} (h : whileL c b n s ≠ .bad) : mWhile c b s = whileL c b n s := by
  have hx : ∃ n, whileL c b n s ≠ .bad := ⟨n, h⟩
  unfold mWhile
  rw [dif_pos hx]
  exact whileL_eq hx.choose_spec h
theorem ss_while {c : Expr} {mc : M Bool} {b : MS} (po : PassesOwn (model X.prog X.w) X.A X.env X.xe) (hc : ST X W c mc) (hb : SSs X W pn body b) : SS X W pn (.While c body [] pos) (mWhile mc b) := by
  refine PS.weaken' (ps_while po hc hb) fun D σ H q => ?_
  obtain ⟨s, f, h1, h2, h3⟩ := q
  unfold mWhile at h3
  split at h3
  · rename_i hx
    refine ⟨fun m σc Hc => ∃ s fs, SLR X.K Hc s σc fs ∧ (∀ b, fs b ≤ 1) ∧ OP X W pn D Hc fs σc (whileL mc b m s), ⟨_, s, f, h1, h2, h3⟩, fun m σc Hc hW => ?_⟩
    obtain ⟨s, fs, a1, a2, a3⟩ := hW
    cases m with
    | zero => exact a3.elim
    | succ m =>
      refine rdS.bind (X := X) (W := W) (pn := pn) (D := D) (ρ := BRep) (k := fun d s1 => if d then (match b s1 with
      | .nx s2 => whileL mc b m s2
      | .ct s2 => whileL mc b m s2
      | .bk s2 => .nx s2
      | .rt y s2 => .rt y s2
      | .exc y s2 => .exc y s2
      | .bad => .bad) else .nx s1) ⟨s, fs, a1, a2, a3⟩ fun F d s1 cb H1 g f1 h0 k1 k2 k3 k4 k5 => ?_
      obtain ⟨rfl, z⟩ := k1
      cases d with
      | false =>
        rw [if_neg Bool.false_ne_true] at k5 ⊢
        exact k5 σc H1 f1 (PinE.refl _ _) k2 (fun b => by have := k3 b; omega) ⟨k4.keep, fun b o e z => by have : g b + f1 b = 0 := k4.own b o e z; omega⟩
      | true =>
        rw [if_pos rfl] at k5 ⊢
        have k6 : OP X W pn D H1 f1 σc (match b s1 with
          | .nx s2 => whileL mc b m s2
          | .ct s2 => whileL mc b m s2
          | .bk s2 => .nx s2
          | .rt y s2 => .rt y s2
          | .exc y s2 => .exc y s2
          | .bad => .bad) := OP.step k5 (PinE.refl _ _) k4 (fun b z => by omega)
        refine ⟨fun σn Hn => ∃ s fs, SLR X.K Hn s σn fs ∧ (∀ b, fs b ≤ 1) ∧ OP X W pn D Hn fs σn (whileL mc b m s), fun σn Hn hn => ⟨m, by omega, hn⟩, s1, f1, k2, fun b => by have := k3 b; omega, ?_⟩
        cases eb : b s1 with
        | nx s2 => rw [eb] at k6; exact fun σ' H' f' p1 p2 p3 p4 => ⟨s2, f', p2, p3, OP.step k6 p1 p4 (fun b z => z)⟩
        | ct s2 => rw [eb] at k6; exact fun σ' H' f' p1 p2 p3 p4 => ⟨s2, f', p2, p3, OP.step k6 p1 p4 (fun b z => z)⟩
        | bk s2 => rw [eb] at k6; exact k6
        | rt y s2 => rw [eb] at k6; exact k6
        | exc y s2 => rw [eb] at k6; exact k6
        | bad => rw [eb] at k6; exact k6
  · exact h3.elim
end
end Bv
set_option maxHeartbeats 400000
namespace Bv
open PySem PySem.Spec PyProof.Rows L2
/-! ### a def -/
def backP (pn : List Nat) : Nat → List PV → Sl → Option (List PV)
  | _, [], _ => some []
  | i, x :: r, o :: t => match (if x.own then (if pn.contains i then o else none) else some x), backP pn (i + 1) r t with
    | some y, some ys => some (y :: ys)
    | _, _ => none
  | _, _ :: _, [] => none
def endB (pn : List Nat) (xs : List PV) : Out → CR
  | .nx s => match backP pn 0 xs s with | some ys => .ok .non ys | none => .bad
  | .rt x s => match backP pn 0 xs s with | some ys => .ok x ys | none => .bad
  | .exc x s => match backP pn 0 xs s with | some ys => .exc x ys | none => .bad
  | _ => .bad
/-- what a call is worth: n names, np parameters, pn those that are never stored to -/
def runB (n np : Nat) (pn : List Nat) (m : MS) (xs : List PV) : CR := if xs.length = np then endB pn xs (m (xs.map some ++ List.replicate (n - np) none)) else .bad
section
variable {K : PySem.W.Frag} {H H' : Hp}
theorem slr_start : ∀ {xs : List PV} {vs : List V} {f : Fp} (k : Nat), Reps K H xs vs f → SLR K H (xs.map some ++ List.replicate k none) (vs.map some ++ List.replicate k none) f
  | [], vs, f, k, h => by
    obtain ⟨rfl, z⟩ := h
    induction k with
    | zero => exact ⟨rfl, z⟩
    | succ k ih => exact ⟨none, _, rfl, ih⟩
  | x :: xs, vs, f, k, h => by
    obtain ⟨v, ws, g, l, rfl, r, rs, hg⟩ := h
    exact ⟨v, _, g, l, rfl, r, slr_start k rs, hg⟩
theorem back_ok {pn : List Nat} {F : Fp} (kp : Kept H H' F) (mu : ∀ b, F b ≠ 0 → MutA H b) : ∀ {xs : List PV} {vs : List V} {f g : Fp} {s : Sl} {τ : L2.St} {ys : List PV} (i : Nat), Reps K H xs vs f → SLR K H' s τ g → (∀ j, (i + j) ∈ pn → j < vs.length → τ[j]? = (vs[j]?).map some) → backP pn i xs s = some ys →
    ∃ fy, Reps K H' ys vs fy ∧ ∀ b, fy b ≤ g b
  | [], vs, f, g, s, τ, ys, i, h, hs, p, e => by
    simp only [backP, Option.some.injEq] at e
    subst e
    exact ⟨Z0, ⟨h.1, fun _ => rfl⟩, fun _ => Nat.zero_le _⟩
  | x :: xs, vs, f, g, [], τ, ys, i, h, hs, p, e => by simp [backP] at e
  | x :: xs, vs, f, g, o :: t, τ, ys, i, h, hs, p, e => by
    obtain ⟨v, ws, g1, g2, rfl, r, rs, hg⟩ := h
    have tail : ∃ τ' gt, SLR K H' t τ' gt ∧ (∀ b, gt b ≤ g b) ∧ (∃ o', τ = o' :: τ') := by
      cases o with
      | none =>
        obtain ⟨o', t', e1, q⟩ := hs
        exact ⟨t', g, q, fun _ => Nat.le_refl _, o', e1⟩
      | some y =>
        obtain ⟨w, t', a1, a2, e1, q1, q2, hq⟩ := hs
        exact ⟨t', a2, q2, fun b => by have := hq b; omega, some w, e1⟩
    have ho : (if x.own then (if pn.contains i then o else none) else some x) = none ∨ ∃ y, (if x.own then (if pn.contains i then o else none) else some x) = some y := by
      cases (if x.own then (if pn.contains i then o else none) else some x) with
      | none => exact .inl rfl
      | some y => exact .inr ⟨y, rfl⟩
    unfold backP at e
    rcases ho with ho | ⟨y, ho⟩
    · rw [ho] at e; cases e
    · rw [ho] at e
      cases eb : backP pn (i + 1) xs t with
      | none => rw [eb] at e; cases e
      | some zs =>
        rw [eb] at e
        cases e
        by_cases hx : x.own = true
        · rw [if_pos hx] at ho
          by_cases hp : pn.contains i = true
          · rw [if_pos hp] at ho
            subst ho
            obtain ⟨w, t', a1, a2, e1, q1, q2, hq⟩ := hs
            subst e1
            have hv : w = v := by
              have := p 0 (by simpa using hp) (by simp)
              simpa using this
            subst hv
            obtain ⟨fy, h1, h2⟩ := back_ok kp mu (i + 1) rs q2 (fun j hj hl => by
              have := p (j + 1) (by rw [Nat.add_comm j 1, ← Nat.add_assoc]; exact hj) (by simp; omega)
              simpa using this) eb
            exact ⟨fun b => a1 b + fy b, ⟨w, ws, a1, fy, rfl, q1, h1, fun _ => rfl⟩, fun b => by have := h2 b; have := hq b; show a1 b + fy b ≤ g b; omega⟩
          · rw [if_neg hp] at ho; cases ho
        · rw [if_neg hx] at ho
          cases ho
          obtain ⟨τ', gt, q2, le, o', e1⟩ := tail
          subst e1
          obtain ⟨fy, h1, h2⟩ := back_ok kp mu (i + 1) rs q2 (fun j hj hl => by
              have := p (j + 1) (by rw [Nat.add_comm j 1, ← Nat.add_assoc]; exact hj) (by simp; omega)
              simpa using this) eb
          have rz := r.zero (by simpa using hx)
          exact ⟨fy, ⟨v, ws, Z0, fy, rfl, rz.kept kp mu (fun b n => absurd rfl n), h1, fun b => by simp⟩, fun b => Nat.le_trans (h2 b) (le b)⟩
end
section
variable {P : Program} {w : World} {K : PySem.W.Frag} {mg : Str → Option Value} {base : Heap}
/-- the context of a def's body -/
abbrev BX (P : Program) (w : World) (K : PySem.W.Frag) (mg : Str → Option Value) (base : Heap) (N : List Str) (x : Str) (st : Stmt) (f : Addr) (cdv : Value) (A : Around) (outer : List Env) (s : Shared) (H : Hp) (E : XK) : Cx := cxOf (L2.CX P w) P w K mg base N x (defScope st) f cdv A outer s H E
abbrev WB (E : XK) : WX := fun cls d _ H => E cls d H
theorem bx_tk {N : List Str} {x : Str} {st : Stmt} {f : Addr} {cdv : Value} {A : Around} {outer : List Env} {s : Shared} {H : Hp} {E : XK} : Takes (BX P w K mg base N x st f cdv A outer s H E) (WB E) := takes_of rfl rfl rfl rfl
theorem bx_po {N : List Str} {x : Str} {st : Stmt} {f : Addr} {cdv : Value} {A : Around} {outer : List Env} {s : Shared} {H : Hp} {E : XK} : PassesOwn (model (BX P w K mg base N x st f cdv A outer s H E).prog (BX P w K mg base N x st f cdv A outer s H E).w) (BX P w K mg base N x st f cdv A outer s H E).A (BX P w K mg base N x st f cdv A outer s H E).env (BX P w K mg base N x st f cdv A outer s H E).xe := PassesOwn.leaving
/-- THE RULE: a def as it stands is worth what its body is worth -/
theorem fk_of {x : Str} {st : Stmt} {f : Addr} {fd : FuncData} {N ps : List Str} {pn : List Nat} {m : MS} {k : Nat} (F : Fun K x x st f fd) (S : FnScope N ps (defScope st))
    (hb : ∀ (cdv : Value) (A : Around) (outer : List Env) (s : Shared) (H : Hp) (E : XK), Room k (A.deeper (envOfC x (defScope st) s.heap.objs.size f cdv)) → SSs (BX P w K mg base N x st f cdv A outer s H E) (WB E) pn (defBody st) m) :
    FnOk P w K mg base (L2.CX P w) (k + 1) f fd ps (spB K mg ps.length (runB N.length ps.length pn m)) := by
  refine F.okX S (fun vs H Q E h => ?_) (fun cdv A outer s H vs Q E hr h => ?_)
  · obtain ⟨xs, g, hl, r, _⟩ := h
    rw [r.length, hl]
  · obtain ⟨xs, g, hl, r, le, c⟩ := h
    refine ⟨_, hb cdv A outer s H E hr, ?_⟩
    unfold runB at c
    rw [if_pos hl] at c
    have hst : L2.start N vs = vs.map some ++ List.replicate (N.length - ps.length) none := by unfold L2.start; rw [r.length, hl]
    refine ⟨_, g, by rw [hst]; exact slr_start (N.length - ps.length) r, le, ?_⟩
    have pins : ∀ {σ' : L2.St} {s' : Sl} {H' : Hp} {f' g' : Fp} {ys : List PV}, PinE pn (L2.start N vs) σ' → SLR K H' s' σ' f' → Frm H H' g g' → backP pn 0 xs s' = some ys → ∃ fy, Reps K H' ys vs fy ∧ ∀ b, fy b ≤ f' b := fun {σ' s' H' f' g' ys} pe sl fr e =>
      back_ok fr.kept (fun b n => r.mut n) 0 r sl (fun j hj hlt => by
        rw [Nat.zero_add] at hj
        rw [pe.2 j hj, hst, List.getElem?_append_left (by simpa using hlt), List.getElem?_map]) e
    cases eo : m (xs.map some ++ List.replicate (N.length - ps.length) none) with
    | bad => rw [eo] at c; exact c.elim
    | bk s' => rw [eo] at c; exact c.elim
    | ct s' => rw [eo] at c; exact c.elim
    | nx s' =>
      rw [eo] at c
      intro σ' H' f' p1 p2 p3 p4
      simp only [endB] at c
      cases eb : backP pn 0 xs s' with
      | none => rw [eb] at c; exact c.elim
      | some ys =>
        rw [eb] at c
        obtain ⟨fy, y1, y2⟩ := pins p1 p2 p4 eb
        exact c .non H' Z0 fy rep_non y1 (fun b => by have := y2 b; have := p3 b; show 0 + fy b ≤ 1; omega) ⟨p4.keep, fun b o e z => by have := p4.own b o e z; have := y2 b; show 0 + fy b = 0; omega⟩
    | rt y s' =>
      rw [eo] at c
      intro v σ' H' gv f' p1 p0 p2 p3 p4
      simp only [endB] at c
      cases eb : backP pn 0 xs s' with
      | none => rw [eb] at c; exact c.elim
      | some ys =>
        rw [eb] at c
        obtain ⟨fy, y1, y2⟩ := pins p1 p2 p4 eb
        exact c v H' gv fy p0 y1 (fun b => by have := y2 b; have := p3 b; omega) ⟨p4.keep, fun b o e z => by have : gv b + f' b = 0 := p4.own b o e z; have := y2 b; show gv b + fy b = 0; omega⟩
    | exc y s' =>
      rw [eo] at c
      intro cls d σ' H' f' p1 p0 p2 p3 p4
      simp only [endB] at c
      cases eb : backP pn 0 xs s' with
      | none => rw [eb] at c; exact c.elim
      | some ys =>
        rw [eb] at c
        obtain ⟨fy, y1, y2⟩ := pins p1 p2 p4 eb
        exact c cls d H' fy p0 y1 (fun b => by have := y2 b; have := p3 b; omega) ⟨p4.keep, fun b o e z => by have := p4.own b o e z; have := y2 b; omega⟩
theorem fb_of {x : Str} {st : Stmt} {f : Addr} {fd : FuncData} {N ps : List Str} {pn : List Nat} {m : MS} {k : Nat} (F : Fun K x x st f fd) (S : FnScope N ps (defScope st)) (gx : mg x = some (.ref f)) (bd : Binds K fd ps [])
    (hb : ∀ (cdv : Value) (A : Around) (outer : List Env) (s : Shared) (H : Hp) (E : XK), Room k (A.deeper (envOfC x (defScope st) s.heap.objs.size f cdv)) → SSs (BX P w K mg base N x st f cdv A outer s H E) (WB E) pn (defBody st) m) :
    FB P w K mg base (k + 1) x ps.length (runB N.length ps.length pn m) := ⟨f, fd, ps, rfl, gx, F.kp, bd, fk_of F S hb⟩
theorem FB.mono {j k : Nat} {x : Str} {np : Nat} {C : List PV → CR} (F : FB P w K mg base j x np C) (h : j ≤ k) : FB P w K mg base k x np C := by
  obtain ⟨f, fd, ps, h1, h2, h3, h4, h5⟩ := F.ex
  exact ⟨f, fd, ps, h1, h2, h3, h4, h5.mono h⟩
end
section
variable {X : Cx} {W : WX} {pos p : Pos} {x : Str}
theorem pe_call0S {CX : CXT} {k : Nat} {f : Addr} {fd : FuncData} {ps : List Str} {sp : Sp} {E : L2.St → XK} (F : FnOk X.prog X.w X.K X.mg X.base CX k f fd ps sp) (hr : Room k X.A) (hg : Gl X x) (hm : X.mg x = some (.ref f)) (hk : PySem.W.keepIn X.K (.ref f) = true) (hb : Binds X.K fd ps []) (hx : ∀ σ, PassesAt CX X σ (E σ))
    (hdb : (x == ("__debug__" : Str)) = false := by decide) : PE X (.Call (.Name x p) [] [] pos) (tCallS sp E tNil) := by
  refine ⟨fun pins s σ H Q I h => ?_⟩
  refine wpAny_Call_Name_kw (ld_glob I hg hm ?_ hdb)
  exact PySem.W.callWith_K0 I.kIn hk (run_fnS (us := []) F hr hb (hx σ) I .nil h)
theorem se_call0 {k : Nat} {C : List PV → CR} (tk : Takes X W) (F : FB X.prog X.w X.K X.mg X.base k x 0 C) (hr : Room k X.A) (hg : Gl X x) (hdb : (x == ("__debug__" : Str)) = false := by decide) :
    SE X W (.Call (.Name x p) [] [] pos) (mCallN 0 C oNil) := by
  obtain ⟨f, fd, ps, h1, h2, h3, h4, h5⟩ := F.ex
  refine PE.weaken (pe_call0S h5 hr hg h2 h3 h4 (fun σ => passAt tk σ) hdb) fun σ H Q q => ?_
  obtain ⟨s, f, q1, q2, q3⟩ := q
  have q3 : GP (Rep X.K) X W H f σ Q (match takeP [] s with
      | some (xs, s2) => match C xs with
        | .ok x ys => .ok x (putP [] ys s2)
        | .exc e ys => .exc e (putP [] ys s2)
        | .bad => .bad
      | none => .bad) := q3
  exact call_end (g := Z0) (ps := []) rfl q2 ⟨rfl, fun _ => rfl⟩ q1 (fun b => by have := q2 b; show 0 + f b ≤ 1; omega) (Frm.refl fun b z => by show 0 + f b = 0; omega) q3
end
end Bv
set_option maxHeartbeats 400000
namespace Bv
open PySem PySem.Spec PyProof.Rows L2
/-! ### names -/
/-- a name looked at when the operation is done -/
def oN (i : Nat) : M Pnd := fun s => match s[i]? with | some (some _) => .ok (.loc i) s | _ => .bad
/-- a name as a value: what it owns goes along -/
def mN (i : Nat) : M PV := fun s => match s[i]? with
  | some (some x) => .ok x (if x.own then s.set i none else s)
  | _ => .bad
section
variable {X : Cx} {W : WX} {e : Expr} {x : Str} {pos : Pos}
theorem so_N (i : Nat) (h : PE X (.Name x pos) (tVar i)) : SO X W (.Name x pos) (oN i) := so_B i h
theorem se_N (i : Nat) (h : PE X (.Name x pos) (tVar i)) : SE X W (.Name x pos) (mN i) := PE.weaken h fun σ H Q q => by
  obtain ⟨s, f, h1, h2, h3⟩ := q
  unfold mN at h3
  split at h3
  · rename_i y e1
    obtain ⟨v, g, l, k1, k2, k3, k4⟩ := h1.take e1
    by_cases ho : y.own = true
    · rw [if_pos ho] at h3
      exact ⟨v, k1, h3 v H g l k2 k3 (fun b => by have := h2 b; have := k4 b; omega) (Frm.refl fun b z => by have := k4 b; omega)⟩
    · rw [if_neg ho] at h3
      exact ⟨v, k1, h3 v H Z0 f (k2.zero (by simpa using ho)) h1 (fun b => by have := h2 b; simpa using this) (Frm.refl fun b z => by simpa using z)⟩
  · exact h3.elim
theorem se_Gint {i : Int} (hg : Gl X x) (hm : ∃ t, X.mg x = some (.int i t)) (hd : (x == ("__debug__" : Str)) = false := by decide) : SE X W (.Name x pos) (mC (.int i)) := by
  obtain ⟨t, ht⟩ := hm
  exact se_C (pe_glob hg ht (v := .int i) ⟨t, rfl⟩ hd) fun _ => rep_int
theorem se_Gstr {i : Str} (hg : Gl X x) (hm : ∃ t, X.mg x = some (.str i t)) (hd : (x == ("__debug__" : Str)) = false := by decide) : SE X W (.Name x pos) (mC (.str i)) := by
  obtain ⟨t, ht⟩ := hm
  exact se_C (pe_glob hg ht (v := .str i) ⟨t, rfl⟩ hd) fun _ => rep_str
end
/-! ### a list that is shared from now on: no one changes it -/
def frzP : PV → Option PV
  | .lst true xs => if PV.owns xs = false then some (.lst false xs) else none
  | x => if x.own = false then some x else none
def mFz (m : M PV) : M PV := fun s => (m s).bind fun x s' => match frzP x with | some y => .ok y s' | none => .bad
def mFzN (i : Nat) : M PV := fun s => match s[i]? with
  | some (some x) => match frzP x with | some y => .ok y (s.set i (some y)) | none => .bad
  | _ => .bad
section
variable {X : Cx} {W : WX} {e : Expr} {x : Str} {pos : Pos}
/-- behind the value: perhaps a list is locked for good -/
theorem pe_frz {t : TE} (h : PE X e t) : PE X e (fun σ H Q => t σ H fun v H1 => Q v H1 ∨ ∃ d xs, H1 d = some (.lst xs) ∧ ∀ od, Q v (upd H1 d (.frz od (.lst xs)))) := by
  refine ⟨fun pins s σ H Q I hw => thn (h.run pins s σ H _ I hw) fun u s1 hq => ?_⟩
  obtain ⟨v, H1, I1, r1, q⟩ := hq
  rcases q with q | ⟨d, xs, hd, q⟩
  · exact ⟨v, H1, I1, r1, q⟩
  · obtain ⟨od, I2⟩ := I1.lock hd trivial
    exact ⟨v, _, I2, r1, q od⟩
theorem frz_d {K : PySem.W.Frag} {H : Hp} {x y : PV} {v : V} {g : Fp} (r : Rep K H x v g) (e : (if x.own = false then some x else none) = some y) : y = x ∧ ∀ b, g b = 0 := by
  split at e
  · rename_i n
    cases e
    exact ⟨rfl, r.free n⟩
  · cases e
theorem frz_ok {K : PySem.W.Frag} {H : Hp} {x y : PV} {v : V} {g : Fp} (r : Rep K H x v g) (e : frzP x = some y) :
    (y = x ∧ ∀ b, g b = 0) ∨ ∃ d xs, v = .ref d ∧ H d = some (.lst xs) ∧ (∀ b, g b = one d b) ∧ ∀ od, Rep K (upd H d (.frz od (.lst xs))) y v Z0 := by
  cases x with
  | lst o xs =>
    cases o with
    | true =>
      simp only [frzP] at e
      split at e
      · rename_i n
        cases e
        obtain ⟨a, va, ga, rfl, ha, hz, ra, hg⟩ := r
        have z := ra.free n
        refine .inr ⟨a, va, rfl, ha, fun b => by rw [hg b, z b]; omega, fun od => ⟨a, va, rfl, .inl ⟨od, upd_same⟩, hz, ?_, fun _ => rfl⟩⟩
        have ra0 : Reps K H xs va Z0 := ra.congr fun b => by rw [z b]
        exact ra0.kept (F := one a) kept_upd (mut_one ha) (fun b n => absurd rfl n)
      · cases e
    | false => exact .inl (frz_d r e)
  | non => exact .inl (frz_d r e)
  | bl b => exact .inl (frz_d r e)
  | int i => exact .inl (frz_d r e)
  | str i => exact .inl (frz_d r e)
  | tup i => exact .inl (frz_d r e)
  | dK i => exact .inl (frz_d r e)
  | dT i => exact .inl (frz_d r e)
  | sK i => exact .inl (frz_d r e)
theorem se_fz {m : M PV} (h : SE X W e m) : SE X W e (mFz m) := PE.weaken (pe_frz h) fun σ H Q q => by
  refine rdG.bind (ρ := Rep X.K) q fun f x s1 v H1 g f1 h0 h1 h2 h3 h4 h5 => ?_
  cases ef : frzP x with
  | none => rw [ef] at h5; exact h5.elim
  | some y =>
    rw [ef] at h5
    rcases frz_ok h1 ef with ⟨rfl, z⟩ | ⟨d, xs, rfl, hd, hg, ry⟩
    · exact .inl (h5 v H1 g f1 h1 h2 h3 h4)
    · refine .inr ⟨d, xs, hd, fun od => ?_⟩
      have fd : f1 d = 0 := by have := h3 d; have := hg d; rw [one_self] at this; omega
      have dj : ∀ b, f1 b ≠ 0 → one d b = 0 := fun b n => one_ne fun z => n (by rw [z]; exact fd)
      refine h5 (.ref d) _ Z0 f1 (ry od) (h2.kept kept_upd (mut_one hd) dj) (fun b => by have := h3 b; show 0 + f1 b ≤ 1; omega) ⟨fun b o e z => ?_, fun b o e z => ?_⟩
      · have y1 : g b + f1 b = 0 := h4.own b o e z
        have : b ≠ d := fun z' => by have := hg b; rw [z', one_self] at this; rw [z'] at y1; omega
        rw [upd_ne this]; exact h4.keep b o e z
      · have y1 : g b + f1 b = 0 := h4.own b o e z
        show 0 + f1 b = 0
        omega
theorem se_FzN (i : Nat) (h : PE X (.Name x pos) (tVar i)) : SE X W (.Name x pos) (mFzN i) := PE.weaken (pe_frz h) fun σ H Q q => by
  obtain ⟨s, f, h1, h2, h3⟩ := q
  unfold mFzN at h3
  split at h3
  · rename_i y e1
    cases ef : frzP y with
    | none => rw [ef] at h3; exact h3.elim
    | some z =>
      rw [ef] at h3
      obtain ⟨v, g, l, k1, k2, k3, k4⟩ := h1.take e1
      have hi : i < s.length := (List.getElem?_eq_some_iff.mp e1).1
      refine ⟨v, k1, ?_⟩
      rcases frz_ok k2 ef with ⟨rfl, zz⟩ | ⟨d, xs, rfl, hd, hg, ry⟩
      · left
        have : s.set i (some z) = s := set_same e1
        dsimp only at h3
        rw [this] at h3
        exact h3 v H g f k2 h1 (fun b => by have := h2 b; have := zz b; omega) (Frm.refl fun b z => by have := zz b; omega)
      · refine .inr ⟨d, xs, hd, fun od => ?_⟩
        have ld : l d = 0 := by have := h2 d; have := k4 d; have := hg d; rw [one_self] at this; omega
        have dj : ∀ b, l b ≠ 0 → one d b = 0 := fun b n => one_ne fun z => n (by rw [z]; exact ld)
        have hs2 := SLR.put (k3.kept kept_upd (mut_one hd) dj) (getElem?_set_none hi) (ry od)
        rw [List.set_set, set_same k1] at hs2
        refine h3 (.ref d) _ Z0 _ (ry od) hs2 (fun b => by have := h2 b; have := k4 b; show 0 + (0 + l b) ≤ 1; omega) ⟨fun b o e z => ?_, fun b o e z => ?_⟩
        · have : b ≠ d := fun z' => by have y1 := hg b; have y2 := k4 b; rw [z', one_self] at y1; rw [z'] at y2 z; omega
          rw [upd_ne this]; exact e
        · have := k4 b; show 0 + (0 + l b) = 0; omega
  · exact h3.elim
end
/-! ### x[i] = e, x[i] += e -/
def mSetI (i : Nat) (ie m : M PV) : MS := fun s => (m s).out fun z s1 => match s1[i]? with
  | some (some _) => (ie s1).out fun k s2 => match k with
    | .int j => match s2[i]? with
      | some (some (.lst true xs)) => match ixN xs.length j with
        | some n => .nx (s2.set i (some (.lst true (xs.set n z))))
        | none => .bad
      | _ => .bad
    | _ => .bad
  | _ => .bad
def mAugI (i k : Nat) (f : Int → Int → Int) (m : M PV) : MS := fun s => match s[i]? with
  | some (some (.lst true xs)) => match xs[k]? with
    | some (.int a) => (m s).out fun y s1 => match y with
      | .int b => match s1[i]? with
        | some (some (.lst true ys)) => if k < ys.length then .nx (s1.set i (some (.lst true (ys.set k (.int (f a b)))))) else .bad
        | _ => .bad
      | _ => .bad
    | _ => .bad
  | _ => .bad
section
variable {K : PySem.W.Frag} {H : Hp}
/-- one place of a row is stored anew: what stood there goes -/
theorem Reps.setAt : ∀ {xs : List PV} {vs : List V} {f g : Fp} {n : Nat} {z : PV} {v : V}, Reps K H xs vs f → n < xs.length → Rep K H z v g → ∃ f', Reps K H (xs.set n z) (vs.set n v) f' ∧ ∀ b, f' b ≤ f b + g b
  | [], vs, f, g, n, z, v, h, hl, r => by simp at hl
  | x :: xs, vs, f, g, 0, z, v, h, hl, r => by
    obtain ⟨w, ws, g1, g2, rfl, r1, r2, hg⟩ := h
    exact ⟨fun b => g b + g2 b, ⟨v, ws, g, g2, rfl, r, r2, fun _ => rfl⟩, fun b => by have := hg b; show g b + g2 b ≤ _; omega⟩
  | x :: xs, vs, f, g, n + 1, z, v, h, hl, r => by
    obtain ⟨w, ws, g1, g2, rfl, r1, r2, hg⟩ := h
    obtain ⟨f', h1, h2⟩ := Reps.setAt (n := n) r2 (by simpa using hl) r
    exact ⟨fun b => g1 b + f' b, ⟨w, ws.set n v, g1, f', rfl, r1, h1, fun _ => rfl⟩, fun b => by have := hg b; have := h2 b; show g1 b + f' b ≤ _; omega⟩
end
section
variable {X : Cx} {W : WX} {pn : List Nat} {e ie : Expr} {x : Str} {p tpos pos : Pos}
/-- the store itself -/
theorem set_end {i n : Nat} {xs : List PV} {z : PV} {v : V} {σ : L2.St} {H : Hp} {s : Sl} {f g : Fp} {a : V} {Q : Hp → Prop} {j : Int}
    (ha : σ[i]? = some (some a)) (hs : SLR X.K H s σ f) (e1 : s[i]? = some (some (.lst true xs))) (hj : ixN xs.length j = some n) (rz : Rep X.K H z v g) (le : ∀ b, g b + f b ≤ 1)
    (q : ∀ H' f', SLR X.K H' (s.set i (some (.lst true (xs.set n z)))) σ f' → (∀ b, f' b ≤ g b + f b) → Kept H H' f → Q H') : rSetL a (.int j) v H Q := by
  obtain ⟨v', gx, hx, m1, m2, m3, m4⟩ := hs.take e1
  have ev : v' = a := by have := m1.symm.trans ha; simpa using this
  subst ev
  obtain ⟨d, va, ga, rfl, hd, hz, ra, hga⟩ := m2
  obtain ⟨_, hn, _, _⟩ := ixN_seq hj
  obtain ⟨f2, k1, k2⟩ := ra.setAt hn rz
  refine ⟨d, va, j, n, rfl, rfl, hd, by rw [ra.length]; exact hj, ?_⟩
  have one1 : ∀ b, f2 b ≠ 0 → one d b = 0 := fun b c => by have := le b; have := m4 b; have := hga b; have := k2 b; omega
  have dj : ∀ b, hx b ≠ 0 → one d b = 0 := fun b c => by have := le b; have := m4 b; have := hga b; omega
  have rep' : Rep X.K (upd H d (.lst (va.set n v))) (.lst true (xs.set n z)) (.ref d) (fun b => f2 b + one d b) :=
    ⟨d, _, f2, rfl, upd_same, by rw [List.length_set]; exact hz, k1.kept kept_upd (mut_one hd) one1, fun _ => rfl⟩
  have hi : i < s.length := (List.getElem?_eq_some_iff.mp e1).1
  have hs2 := SLR.put (m3.kept kept_upd (mut_one hd) dj) (getElem?_set_none hi) rep'
  rw [List.set_set, set_same ha] at hs2
  exact q _ _ hs2 (fun b => by have := k2 b; have := m4 b; have := hga b; show f2 b + one d b + hx b ≤ _; omega) fun b o e z => kept_upd b o e (by have := m4 b; have := hga b; omega)
theorem ss_setI (i : Nat) {mi m : M PV} (he : SE X W e m) (ho : PE X (.Name x p) (tVar i)) (hi : SE X W ie mi) (hs : swapsWithSole [.Subscript (.Name x p) ie tpos] e pos.line X.env = pure false := by rfl) (hw : swappedStores [.Subscript (.Name x p) ie tpos] e X.env = pure none := by rfl)
    (h1 : (assignEach [.Subscript (.Name x p) ie tpos] X.env).map (·.2) = [assign (.Subscript (.Name x p) ie tpos) X.env] := by rfl)
    (ha : ∀ v, assign (.Subscript (.Name x p) ie tpos) X.env v = (do
      let ov ← holding [v] (eval (.Name x p) X.env)
      let iv ← holding [v, ov] (eval ie X.env)
      standAt tpos
      holding [v, ov, iv] (setItem ov iv v)
      release [v, ov, iv] []) := by intro _; rfl) : SS X W pn (.Assign [.Subscript (.Name x p) ie tpos] e pos) (mSetI i mi m) :=
  PS.weaken' (ps_asg he (pg_sub ho hi set_list ha) hs hw h1) fun D σ H q => by
    refine rdS.bind (ρ := Rep X.K) q fun f z s1 v H1 g f1 h0 h1 h2 h3 h4 h5 => ?_
    split at h5
    · rename_i y0 e0
      obtain ⟨a, _, _, ka, _, _, _⟩ := h2.take e0
      refine ⟨a, ka, s1, f1, h2, fun b => by have := h3 b; omega, ?_⟩
      cases ek : mi s1 with
      | bad => rw [ek] at h5; exact h5
      | exc y s2 =>
        rw [ek] at h5
        exact fun cls d H' f' a b c e => h5 cls d σ H' f' (PinE.refl _ _) a b c ⟨fun b o z1 z2 => e.keep b o (h4.keep b o z1 z2) (by have : g b + f1 b = 0 := h4.own b o z1 z2; omega), fun b o z1 z2 => e.own b o (h4.keep b o z1 z2) (by have : g b + f1 b = 0 := h4.own b o z1 z2; omega)⟩
      | ok k s2 =>
        rw [ek] at h5
        simp only [R.out_ok] at h5
        intro vk H2 gk f2 l1 l2 l3 l4
        split at h5
        · rename_i j
          obtain ⟨rfl, zk⟩ := l1
          split at h5
          · rename_i xs e2
            split at h5
            · rename_i n hn
              have dz : ∀ b, g b ≠ 0 → f1 b = 0 := fun b c => by have := h3 b; omega
              have rz : Rep X.K H2 z v g := h1.kept l4.kept (fun b c => h2.mut c) dz
              have le2 : ∀ b, g b + f2 b ≤ 1 := fun b => by
                by_cases hb : g b = 0
                · have := l3 b; omega
                · obtain ⟨o, ho, _⟩ := h1.mut hb
                  have : gk b + f2 b = 0 := l4.own b o ho (dz b hb)
                  have := h3 b
                  omega
              refine set_end ka l2 e2 hn rz le2 fun H3 f3 n1 n2 n3 => ?_
              refine h5 σ H3 f3 (PinE.refl _ _) n1 (fun b => by have := n2 b; have := le2 b; omega) ⟨fun b o z1 z2 => ?_, fun b o z1 z2 => ?_⟩
              · have y1 : g b + f1 b = 0 := h4.own b o z1 z2
                have y2 : gk b + f2 b = 0 := l4.own b o (h4.keep b o z1 z2) (by omega)
                exact n3 b o (l4.keep b o (h4.keep b o z1 z2) (by omega)) (by omega)
              · have y1 : g b + f1 b = 0 := h4.own b o z1 z2
                have y2 : gk b + f2 b = 0 := l4.own b o (h4.keep b o z1 z2) (by omega)
                have := n2 b
                omega
            · exact h5.elim
          · exact h5.elim
        · exact h5.elim
    · exact h5.elim
/-- a list's place read, by values -/
theorem get_list : PGet X (fun o i H Q => ∃ p xs k z, o = .ref p ∧ i = .int ((k : Nat) : Int) ∧ H p = some (.lst xs) ∧ xs[k]? = some z ∧ Q z H) := by
  intro pins s σ H o i ov iv Q I ro ri h
  obtain ⟨p, xs, k, z, rfl, rfl, hp, hz, q⟩ := h
  cases ro
  obtain ⟨t, rfl⟩ := ri
  obtain ⟨its, r, pl, hsz⟩ := I.list (.inl (.inl hp))
  obtain ⟨w, ew, rw'⟩ := r.get hz
  have hn := line63
  have hk : k < xs.length := (List.getElem?_eq_some_iff.mp hz).1
  exact wpAny_getItem_list pl.isList (Int.natCast_nonneg k) (by omega) (by simpa using ew) ⟨z, H, I, rw', q⟩
theorem ss_augI (i k : Nat) {op : Operator} {f : Int → Int → Int} {m : M PV} {j : Nat} {p2 : Pos} (ho : PE X (.Name x p) (tVar i)) (hop : PIp X op (ipI f)) (he : SE X W e m)
    (ha : ∀ ov iv new, augStore (.Constant (.int ((k : Nat) : Int)) j p2) ov iv new = (do holding [new, ov, iv] (setItem ov iv new); release [new, ov, iv] []; pure .next) := by intros; rfl) :
    SS X W pn (.AugAssign (.Subscript (.Name x p) (.Constant (.int ((k : Nat) : Int)) j p2) tpos) op e pos) (mAugI i k f m) :=
  PS.weaken' (ps_augS ho pe_int get_list he hop set_list ha) fun D σ H q => by
    obtain ⟨s, F, h1, h2, h3⟩ := q
    unfold mAugI at h3
    split at h3
    · rename_i xs e0
      split at h3
      · rename_i a e1
        obtain ⟨v0, g0, l0, k1, k2, k3, k4⟩ := h1.take e0
        obtain ⟨d, va, ga, rfl, hd, hz, ra, hga⟩ := k2
        have hk : k < va.length := by rw [ra.length]; exact (List.getElem?_eq_some_iff.mp e1).1
        obtain ⟨ge, re, _⟩ := ra.get k _ _ e1 (List.getElem?_eq_getElem hk)
        refine ⟨.ref d, k1, d, va, k, va[k], rfl, rfl, hd, List.getElem?_eq_getElem hk, ?_⟩
        rw [re.1]
        refine rdS.bind (X := X) (W := W) (pn := pn) (D := D) (ρ := Rep X.K) ⟨s, F, h1, h2, h3⟩ fun F' y s1 vy H1 g f1 h0 l1 l2 l3 l4 l5 => ?_
        split at l5
        · rename_i b
          obtain ⟨rfl, zy⟩ := l1
          split at l5
          · rename_i ys e2
            split at l5
            · rename_i hlt
              refine ⟨a, b, rfl, rfl, ?_⟩
              have hn : ixN ys.length ((k : Nat) : Int) = some k := by
                unfold ixN
                rw [if_pos (Int.natCast_nonneg k), if_pos (by omega)]
                simp
              refine set_end (g := Z0) k1 l2 e2 hn rep_int (fun b => by have := l3 b; show 0 + f1 b ≤ 1; omega) fun H3 f3 n1 n2 n3 => ?_
              refine l5 σ H3 f3 (PinE.refl _ _) n1 (fun b => by have : f3 b ≤ 0 + f1 b := n2 b; have := l3 b; omega) ⟨fun b o z1 z2 => ?_, fun b o z1 z2 => ?_⟩
              · have y1 : g b + f1 b = 0 := l4.own b o z1 z2
                exact n3 b o (l4.keep b o z1 z2) (by omega)
              · have y1 : g b + f1 b = 0 := l4.own b o z1 z2
                have : f3 b ≤ 0 + f1 b := n2 b
                omega
            · exact l5.elim
          · exact l5.elim
        · exact l5.elim
      · exact h3.elim
    · exact h3.elim
end
end Bv
set_option maxHeartbeats 1000000
namespace Bv
open PySem PySem.Spec PyProof.Rows L2
/-! ### {e for x in xs}: sets of ints and texts; here their sizes alone -/
instance memK (k : Key) (acc : List Key) : Decidable (k ∈ acc) := @List.instDecidableMemOfLawfulBEq Key instBEqOfDecidableEq inferInstance k acc
def insK (acc : List Key) (k : Key) : List Key := if k ∈ acc then acc else acc ++ [k]
def SKo (P : Program) (w : World) (a : Addr) (acc : List Key) : HO := SetK P w a (fun j => decide (j ∈ acc)) acc.length
theorem sko_add {P : Program} {w : World} {a : Addr} {acc : List Key} {k : Key} :
    SetK P w a (fun j => (fun j => decide (j ∈ acc)) j || decide (j = k)) (if (fun j => decide (j ∈ acc)) k = true then acc.length else acc.length + 1) = SKo P w a (insK acc k) := by
  unfold SKo insK
  by_cases h : k ∈ acc
  · rw [if_pos h]
    have e : (fun j => (fun j => decide (j ∈ acc)) j || decide (j = k)) = (fun j => decide (j ∈ acc)) := by
      funext j
      by_cases hj : j = k
      · subst hj; simp [h]
      · simp [hj]
    rw [e, if_pos (by simpa using h)]
  · rw [if_neg h]
    have e : (fun j => (fun j => decide (j ∈ acc)) j || decide (j = k)) = (fun j => decide (j ∈ acc ++ [k])) := by
      funext j
      simp [List.mem_append]
    rw [e, if_neg (by simpa using h)]
    simp
def keyP : PV → Option Key
  | .int i => some (.inl i)
  | .str x => some (.inr x)
  | _ => none
section
variable {X : Cx}
theorem setK0 (P : Program) (w : World) (h : Heap) : (h.push { cls := .type "set", dict := none, data := .set #[] 0 (.fresh 0 0 (!w.params.followText "set-order")) }).SetOf (mixKind P w) h.objs.size (fun j => decide (j ∈ ([] : List Key))) ([] : List Key).length :=
  ⟨_, #[], 0, _, Heap.get?_push_size _ rfl, ⟨rfl, rfl, rfl⟩, rfl, (fun e he => by simp at he), (fun k => by simp), (by decide), (by rfl), rfl⟩
/-- one element more -/
theorem addK_ok {pins : List (Addr × Obj)} {σ : L2.St} {H : Hp} {s : Shared} {E : Value → Shared → Prop} {D : Addr} {acc : List Key} {k : Key} {u : Value} {Q : Value → Shared → Prop} (I : Inv X pins σ H s) (hD : H D = some (SKo X.prog X.w D acc)) (r : RelV (kV k) u) (room : acc.length + 1 < scanBound)
    (h : ∀ s', Inv X pins σ (upd H D (SKo X.prog X.w D (insK acc k))) s' → Q .none s') : wpAny (model X.prog X.w) X.A (call (.builtin "set.add") [.ref D, u]) Q E s := by
  refine call_set_add (kV_is r) (key_scan r) (setK_get I hD) room fun h' sb new => ?_
  have he : ∃ u, h'.get? D = some u := by
    have ⟨o, _, _, _, ho, _⟩ := new
    exact ⟨o, ho⟩
  have J := I.write (e := D) (t' := s.toks + 1) (by rw [hD]; trivial) (.inl rfl) (fun b u hb hu => (sb.2 b hb).trans hu) he (setK_new new)
  rw [sko_add] at J
  exact h _ J
/-- {elt for target in iter if ..}: D the new set -/
def tScK (P : Program) (w : World) (wi : TI) (g : TG) (tt : TT) (te : TE) (vs : List Nat) : TE := fun σ H Q => wi σ H fun J H1 => ∀ D, H1 D = none → ∃ W : Nat → Nat → Hp → Prop, (∃ m, W 0 m (upd H1 D (SKo P w D []))) ∧ ∀ i m H, W i m H →
  (J.stop i H ∧ Q (.ref D) H) ∨ (J.go i H ∧ ∃ Nx : Hp → Prop, (∀ H', Nx H' → ∃ m', m' < m ∧ W (i + 1) m' H') ∧ ∀ x H', J.yld i H x H' → g x (L2.wipe σ vs) H' fun σ2 H2 => L2.wipe σ2 vs = L2.wipe σ vs ∧ tt σ2 H2 fun b H3 =>
    if b = true then te σ2 H3 fun y H4 => ∃ (k : Key) (acc : List Key), y = kV k ∧ H4 D = some (SKo P w D acc) ∧ acc.length + 1 < scanBound ∧ Nx (upd H4 D (SKo P w D (insK acc k))) else Nx H3)
theorem pe_scK {elt tg iter : Expr} {ifs : List Expr} {scope : Scope} {own : List (Str × Nat)} {pos : Pos} {wi : TI} {g : TG} {tt : TT} {te : TE} (hc : X.calm = true) (hN : X.N.Nodup) (hi : PI X tg iter wi) (ok : BlkOk X.N X.env.scope scope own)
    (hg : Blk X scope (fun Y => PG Y tg g)) (ht : Blk X scope (fun Y => PTs Y ifs tt)) (he : Blk X scope (fun Y => PE Y elt te)) (hs : ∀ x, foldedSetIterable iter X.env x = pure x := by intro _; rfl) :
    PE X (.SetComp elt [⟨tg, iter, ifs, 0⟩] scope pos) (tScK X.prog X.w wi g tt te (own.map (·.2))) := by
  refine ⟨fun pins s σ H Q I h => ?_⟩
  rw [PpSet.eval_SetComp]
  have hfree : ∀ y ∈ scope.names, y.2 = .free → ∃ c, X.env.cells.lookup y.1 = some c := fun y hy e => by
    rcases ok.free y hy e with k | k
    · exact I.ok.has _ (.inl k)
    · exact I.ok.has _ (.inr k)
  refine wpAny_comprehension_free (use := none) rfl hs (closure_ok hfree) ok.kind (fun y hy e => by rw [ok.uniq y hy, e])
    (thn (hi.run pins s σ H _ I h) fun xv s1 hx => thn hx fun itv s2 h2 => ?_)
  obtain ⟨it, fp, tn, J, H2, e, I2, T, st2, f2, q⟩ := h2
  subst e
  refine PpSet.newSet_ok (newEnv_comp ?_)
  obtain ⟨D, hD⟩ : ∃ D, D = s2.heap.objs.size := ⟨_, rfl⟩
  have hDn : H2 D = none := I2.hok.fresh (Nat.le_of_eq hD.symm)
  obtain ⟨W, ⟨m0, w0⟩, turn⟩ := q D hDn
  generalize hs3 : ({ s2 with heap := s2.heap.push { cls := .type "set", dict := none, data := .set #[] 0 (.fresh 0 0 (!X.w.params.followText "set-order")) } } : Shared) = s3
  generalize hH3 : upd H2 D (SKo X.prog X.w D []) = H3 at w0
  have I3 : Inv X pins σ H3 s3 := by
    rw [← hs3, ← hH3]
    refine I2.laid (t' := s2.toks) (fun b o e => Heap.get?_push_of_some _ e) (Nat.le_of_eq hD.symm) ?_
    rw [hD]
    exact setK_new (setK0 X.prog X.w _)
  have h3 : s3.heap = s2.heap.push { cls := .type "set", dict := none, data := .set #[] 0 (.fresh 0 0 (!X.w.params.followText "set-order")) } := by rw [← hs3]
  have f3 : ∀ b ∈ fp, FpOk X pins H3 b ∧ b < s3.heap.objs.size := fun b hb => by
    obtain ⟨o, e, _⟩ := T.obj _ _ st2 b hb
    have hlt := Heap.lt_size e
    refine ⟨⟨?_, (f2 b hb).2⟩, by rw [h3, Heap.size_push]; exact Nat.lt_succ_of_lt hlt⟩
    rw [← hH3, upd_ne (by rw [hD]; exact Nat.ne_of_lt hlt)]
    exact (f2 b hb).1
  have st3 : tn 0 s3.heap := T.keep _ _ _ st2 fun b _ o e => by rw [h3]; exact Heap.get?_push_of_some _ e
  have I4 := block_start I3 ok hN f3
  have pg := hg s3 H3 s3.heap.objs.size (cellsFrom (s3.heap.objs.size + 1) scope.names (cloFrom X.env.cells scope.names [])) fp
  have pt := ht s3 H3 s3.heap.objs.size (cellsFrom (s3.heap.objs.size + 1) scope.names (cloFrom X.env.cells scope.names [])) fp
  have pe := he s3 H3 s3.heap.objs.size (cellsFrom (s3.heap.objs.size + 1) scope.names (cloFrom X.env.cells scope.names [])) fp
  have hs3' : ({ s2 with heap := s2.heap.push { cls := .type "set", dict := none, data := .set #[] 0 (.fresh 0 0 (!X.w.params.followText "set-order")) } } : Shared) = s3 := hs3
  show codeAny _ _ (.compStart (.SetComp elt [⟨tg, iter, ifs, 0⟩] scope pos) 0 (.ref it) (.ref s2.heap.objs.size) (compEnvC scope (cellsFrom (s3.heap.objs.size + 1) scope.names (cloFrom X.env.cells scope.names [])) s3.heap.objs.size X.env)) (compPost (model X.prog X.w) X.A X.xe none _ (.ref s2.heap.objs.size) s3.heap.objs.size) { s3 with heap := pushCells (s3.heap.push { cls := .type "dict", data := .dict #[] }) scope.names }
  rw [← hD]
  generalize hce : compEnvC scope (cellsFrom (s3.heap.objs.size + 1) scope.names (cloFrom X.env.cells scope.names [])) s3.heap.objs.size X.env = ce at I4 pg pt pe ⊢
  have cL : ce.locals = s3.heap.objs.size := by subst hce; rfl
  have nfp : ∀ b ∈ fp, H3 b = none := fun b hb => (f3 b hb).1.1
  generalize hs4 : ({ s3 with heap := pushCells (s3.heap.push { cls := .type "dict", data := .dict #[] }) scope.names } : Shared) = s4 at I4 ⊢
  have st4 : tn 0 s4.heap := T.keep _ _ _ st3 fun b _ o e => by rw [← hs4]; exact pushCells_keeps _ _ _ _ (Heap.get?_push_of_some _ e)
  have stat : ∀ {σ' : L2.St} {H' : Hp} {s' : Shared}, Inv (X.blk s3 H3 scope ce fp) [] σ' H' s' → (∀ b ∈ fp, H' b = none) → ∀ b ∈ fp, FpOk (X.blk s3 H3 scope ce fp) [] H' b := fun {σ' H' s'} I' hn b hb =>
    ⟨hn b hb, (I'.ok.exf b hb).1, I'.ok.exfs b hb, .inl hb, fun x c e => (I'.ok.exf b hb).2 x c e, fun p hp => absurd (show p ∈ ([] : List (Addr × Obj)) ++ [] from hp) (by simp)⟩
  have loop : codeAny (model X.prog X.w) X.A (.compLoop (.SetComp elt [⟨tg, iter, ifs, 0⟩] scope pos) 0 (.ref it) (.ref D) ce) (compPost (model X.prog X.w) X.A X.xe none (EP X pins σ Q) (.ref D) s3.heap.objs.size) s4 := by
    refine PpSet.compLoopS_any (fun n s' => ∃ i H', Inv (X.blk s3 H3 scope ce fp) [] (L2.wipe σ (own.map (·.2))) H' s' ∧ tn i s'.heap ∧ (∀ b ∈ fp, H' b = none) ∧ W i n H') ?_ m0 ⟨0, H3, I4, st4, nfp, w0⟩
    rintro n s5 ⟨i, H5, I5, st5, n5, w5⟩
    rcases turn i n H5 w5 with ⟨stop, qq⟩ | ⟨go, Nx, hNx, step⟩
    · refine thnF (T.done (X.blk s3 H3 scope ce fp) rfl rfl rfl hc i [] s5 _ H5 (fun _ _ => False) I5 (stat I5 n5) st5 stop) fun r s6 ⟨hr, I6⟩ => ?_
      subst hr
      have I7 : Inv X pins σ H5 s6 := I3.call' (ch := fp) I6.os I6.base I6.hok I6.bare fun b hb => ⟨(f3 b hb).1.2.2.2.1, (f3 b hb).1.2.1, (f3 b hb).1.2.2.2.2.1, (f3 b hb).1.2.2.2.2.2⟩
      have nC : H5 s3.heap.objs.size = none := by
        have z : H5 ce.locals = none := I6.free
        rw [cL] at z
        exact z
      obtain ⟨m, hn, _⟩ := I6.loc
      have hn : s6.heap.Ns ce.locals m := hn
      rw [cL] at hn
      refine ⟨m, hn, fun h'' sb => ?_⟩
      obtain ⟨f0, f1, f2, f3, f4, f5⟩ := I3.fpOk (Nat.le_refl _) nC
      exact ⟨.ref D, H5, I7.turned (t' := s6.toks) (fun b o hb e => (sb.2 b hb).trans e) f0 f1 f3 f4 f5, rfl, qq⟩
    · refine thnF (T.item (X.blk s3 H3 scope ce fp) rfl rfl rfl hc i [] s5 _ H5 (fun _ _ => False) I5 (stat I5 n5) st5 go) fun r s6 ⟨u, hr, h6⟩ => ?_
      subst hr
      refine thnF h6 fun _ s7 ⟨x, H7, I7, r7, y7, st7, n7⟩ => ?_
      have I7' := I7.pinned (stat I7 n7) (T.obj _ _ st7)
      refine thnF (pg.run _ s7 _ H7 x u _ I7' r7 (step x H7 y7)) fun _ s8 ⟨σ8, H8, I8, hw8, q8⟩ => ?_
      refine thnF (pt.run _ s8 σ8 H8 _ I8 q8) fun b s9 ⟨H9, I9, q9⟩ => ?_
      have fin : ∀ {s' : Shared} {H' : Hp}, Inv (X.blk s3 H3 scope ce fp) ([] ++ pinsAt fp s7.heap) σ8 H' s' → Nx H' → ∃ m, m < n ∧ ∃ i H', Inv (X.blk s3 H3 scope ce fp) [] (L2.wipe σ (own.map (·.2))) H' s' ∧ tn i s'.heap ∧ (∀ b ∈ fp, H' b = none) ∧ W i m H' := fun {s' H'} I' nx => by
        obtain ⟨m', hm, w'⟩ := hNx H' nx
        have pin' : ∀ b ∈ fp, ∀ o, s7.heap.get? b = some o → s'.heap.get? b = some o ∧ H' b = none := fun b hb o e =>
          let z := I'.pin (b, o) (List.mem_append_right _ (List.mem_append_right _ (mem_pinsAt hb e)))
          ⟨z.1, z.2.1⟩
        have hl : (L2.wipe σ (own.map (·.2))).length = σ8.length := by rw [← hw8, L2.wipe_length]
        refine ⟨m', hm, i + 1, H', (I'.unpinned (pins := [])).weak hl (fun j v e => ?_), T.keep _ _ _ st7 fun b hb o e => (pin' b hb o e).1, fun b hb => ?_, w'⟩
        · rw [← hw8] at e
          exact (L2.wipe_some e).1
        · obtain ⟨o, e, _⟩ := T.obj _ _ st7 b hb
          exact (pin' b hb o e).2
      cases b with
      | false =>
        simp only [Bool.false_eq_true, if_false] at q9 ⊢
        exact fin I9 q9
      | true =>
        simp only [if_true] at q9 ⊢
        refine thnF (pe.run _ s9 σ8 H9 _ I9 q9) fun z s10 ⟨yv, H10, I10, r10, k, acc, ey, hD10, room, nx⟩ => ?_
        subst ey
        exact addK_ok (X := X.blk s3 H3 scope ce fp) I10 hD10 r10 room fun s11 I11 => fin I11 nx
  exact PpSet.codeAny_compStart_set loop (T.self X.A 0 _ _ _ st4 loop)
/-- len of such a set -/
theorem pe_lenScK {e : Expr} {te : TE} {p pos : Pos} (hg : Gl X "len") (hm : X.mg "len" = none) (ha : PE X e te) (na : starEach [e] X.env = (false, eval e X.env) :: starEach [] X.env := by rfl) :
    PE X (.Call (.Name "len" p) [e] [] pos) (fun σ H Q => te σ H fun x H1 => ∃ (a : Addr) (acc : List Key), x = .ref a ∧ H1 a = some (SKo X.prog X.w a acc) ∧ Q (.int acc.length) H1) := by
  refine ⟨fun pins s σ H Q I h => ?_⟩
  refine Call_ (ld_blt I hg hm boot_len ?_)
  refine PyProof.Rows.callWith_builtin1 (PyProof.Rows.args_cons (thn (ha.run pins s σ H _ I h) fun v s1 ⟨x, H1, I1, r1, q1⟩ => PyProof.Rows.args_nil ?_) na) na rfl
  obtain ⟨a, acc, rfl, hq, q1⟩ := q1
  cases r1
  obtain ⟨o, es, ep, t, ho, hex, hd, _, _, hsb, hf, hn⟩ := setK_get I1 hq
  exact call_len_set ho hex hd hf (by unfold scanBound at hsb; omega) ⟨.int acc.length, H1, I1.tok _, ⟨_, by rw [hn]⟩, q1⟩
end
/-- the keys of a row, each once -/
def keysL (t : PV → Sl → Option Sl) (cond : M Bool) (el : M PV) (own : List Nat) : List PV → Sl → List Key → R (List Key)
  | [], s, acc => .ok acc s
  | x :: r, s, acc => match t x s with
    | none => .bad
    | some s1 => match cond s1 with
      | .ok false s2 => keysL t cond el own r (wipeS s2 own) acc
      | .ok true s2 => match el s2 with
        | .ok y s3 => match keyP y with
          | some k => keysL t cond el own r (wipeS s3 own) (insK acc k)
          | none => .bad
        | _ => .bad
      | _ => .bad
def mLenSc (os : M (List Pnd)) (it : List PV → Option (List PV)) (t : PV → Sl → Option Sl) (cond : M Bool) (el : M PV) (own : List Nat) : M PV := fun s => (os s).bind fun ps s1 => match takeP ps s1 with
  | none => .bad
  | some (vals, s2) => match it vals with
    | none => .bad
    | some xs => if xs.length ≤ 4000 then (match keysL t cond el own xs (wipeS s2 own) [] with
      | .ok acc s3 => .ok (.int acc.length) (putP ps vals s3)
      | _ => .bad) else .bad
theorem keyP_rep {K : PySem.W.Frag} {H : Hp} {y : PV} {v : V} {g : Fp} {k : Key} (r : Rep K H y v g) (e : keyP y = some k) : v = kV k ∧ ∀ b, g b = 0 := by
  cases y with
  | int i => cases (Option.some.inj e); exact r
  | str i => cases (Option.some.inj e); exact r
  | _ => simp [keyP] at e
theorem insK_len (acc : List Key) (k : Key) : (insK acc k).length ≤ acc.length + 1 := by
  unfold insK
  split
  · omega
  · simp
section
variable {X : Cx} {W : WX} {tg iter elt e a : Expr} {ifs : List Expr} {scope : Scope} {own : List (Str × Nat)} {pos : Pos}
theorem sc_end {os : M (List Pnd)} {r : List V → Hp → (It → Hp → Prop) → Prop} {it : List PV → Option (List PV)} {t : PV → Sl → Option Sl} {ix : List Nat} {cond : M Bool} {el : M PV} {g : TG} (vi : VIt X.K it r)
    (ht : ∀ (x : PV) (s s1 : Sl) (v : V) (σ : L2.St) (H : Hp) (f gx : Fp) (Q : L2.St → Hp → Prop), t x s = some s1 → Rep X.K H x v gx → SLR X.K H s σ f →
      (∀ σ' f', SLR X.K H s1 σ' f' → (∀ b, f' b ≤ gx b + f b) → (∀ j, j ∉ ix → σ'[j]? = σ[j]?) → σ'.length = σ.length → Q σ' H) → g v σ H Q) (hix : ∀ i ∈ ix, i ∈ own.map (·.2))
    {σ : L2.St} {H : Hp} {Q : VK} (q : rdG (Rep X.K) X W (mLenSc os it t cond el (own.map (·.2))) σ H Q) :
    tScK X.prog X.w (fun σ H R => rdG (PReps X.K σ) X W os σ H (fun vs H1 => r vs H1 R)) g (rdG BRep X W0 cond) (rdG (Rep X.K) X W0 el) (own.map (·.2)) σ H
      (fun x H1 => ∃ (a : Addr) (acc : List Key), x = .ref a ∧ H1 a = some (SKo X.prog X.w a acc) ∧ Q (.int acc.length) H1) := by
  refine rdG.bind (ρ := PReps X.K σ) q fun F ps s1 vs H1 g1 f1 h0 h1 h2 h3 h4 h5 => ?_
  cases e1 : takeP ps s1 with
  | none => rw [e1] at h5; exact h5.elim
  | some pr =>
    obtain ⟨vals, s2⟩ := pr
    rw [e1] at h5
    dsimp only at h5
    cases e2 : it vals with
    | none => rw [e2] at h5; exact h5.elim
    | some xs =>
      rw [e2] at h5
      dsimp only at h5
      split at h5
      · rename_i hlim
        obtain ⟨fa, f', k1, k2, k3, k4⟩ := take_ok h1 h2 e1
        refine vi H1 vals vs fa xs _ k1 e2 fun J IR ok hIR D hD => ?_
        obtain ⟨f2, w1, w2⟩ := k2.wipe (vs := own.map (·.2))
        have keep0 := keep_upd (H := H1) (p := D) (o := SKo X.prog X.w D []) hD
        have dead : ∀ b o, H b = some o → F b = 0 → H1 b = some o ∧ fa b + f' b = 0 ∧ b ≠ D := fun b o e z => by
          have y := h4.keep b o e z
          have y2 : g1 b + f1 b = 0 := h4.own b o e z
          refine ⟨y, by rw [k4 b]; exact y2, fun z => ?_⟩
          subst z
          rw [y] at hD; cases hD
        have faD : fa D = 0 := live_reps k1 hD
        have f2D : f2 D = 0 := by have := live_of k2 hD; have := w2 D; omega
        refine ⟨fun i m Hc => i + m = xs.length ∧ ∃ s fs acc, SLR X.K Hc s (L2.wipe σ (own.map (·.2))) fs ∧ Hc D = some (SKo X.prog X.w D acc) ∧ acc.length ≤ i ∧ (∀ b, fa b + fs b ≤ 1) ∧ fa D = 0 ∧ fs D = 0 ∧ IR Hc ∧ Reps X.K Hc vals vs fa ∧
            (∀ i ∈ own.map (·.2), i < s.length → s[i]? = some none) ∧ (∀ b o, H b = some o → F b = 0 → Hc b = some o ∧ fa b + fs b = 0 ∧ b ≠ D) ∧
            keysL t cond el (own.map (·.2)) (xs.drop i) s acc = keysL t cond el (own.map (·.2)) xs (wipeS s2 (own.map (·.2))) [],
          ⟨xs.length, by omega, wipeS s2 (own.map (·.2)), f2, [], w1.keptZ keep0, upd_same, Nat.zero_le _, fun b => by have := k4 b; have := h3 b; have := w2 b; omega, faD, f2D, ?_, k1.keptZ keep0, fun i hi hl => wipeS_none _ _ _ hi (by rw [wipeS_length] at hl; exact hl), fun b o e z => ?_, rfl⟩, fun i m Hc hW => ?_⟩
        · exact ok.st H1 _ Z0 (keptZ keep0) (fun _ n => absurd rfl n) (fun _ _ => rfl) hIR
        · obtain ⟨y1, y2, y3⟩ := dead b o e z
          exact ⟨by rw [upd_ne y3]; exact y1, by have := w2 b; omega, y3⟩
        · obtain ⟨him, s, fs, acc, a1, a2, a4, a5, aD1, aD2, a6, a7, a8, a9, a10⟩ := hW
          by_cases hi : i < xs.length
          · refine .inr ⟨ok.go i Hc a6 hi, fun Hn => i + 1 + (m - 1) = xs.length ∧ ∃ s fs acc, SLR X.K Hn s (L2.wipe σ (own.map (·.2))) fs ∧ Hn D = some (SKo X.prog X.w D acc) ∧ acc.length ≤ i + 1 ∧ (∀ b, fa b + fs b ≤ 1) ∧ fa D = 0 ∧ fs D = 0 ∧ IR Hn ∧ Reps X.K Hn vals vs fa ∧
                (∀ i ∈ own.map (·.2), i < s.length → s[i]? = some none) ∧ (∀ b o, H b = some o → F b = 0 → Hn b = some o ∧ fa b + fs b = 0 ∧ b ≠ D) ∧
                keysL t cond el (own.map (·.2)) (xs.drop (i + 1)) s acc = keysL t cond el (own.map (·.2)) xs (wipeS s2 (own.map (·.2))) [], fun Hn hn => ⟨m - 1, by omega, hn⟩, fun v Hy hy => ?_⟩
            have hx : xs[i]? = some xs[i] := List.getElem?_eq_getElem hi
            obtain ⟨rx, ky⟩ := ok.yld i Hc v Hy xs[i] a6 hx hy
            have ed : xs.drop i = xs[i] :: xs.drop (i + 1) := List.drop_eq_getElem_cons hi
            rw [ed] at a10
            simp only [keysL] at a10
            have b1 := a1.keptZ ky
            have b2 := ky _ _ a2
            have b6 : IR Hy := ok.st Hc Hy Z0 (keptZ ky) (fun _ n => absurd rfl n) (fun _ _ => rfl) a6
            have b7 := a7.keptZ ky
            have notbad : ∀ {Pp : Prop}, keysL t cond el (own.map (·.2)) xs (wipeS s2 (own.map (·.2))) [] = .bad → Pp := fun e => by rw [e] at h5; exact h5.elim
            cases et : t xs[i] s with
            | none => rw [et] at a10; exact notbad a10.symm
            | some s3 =>
              rw [et] at a10
              dsimp only at a10
              refine ht xs[i] s s3 v _ Hy fs Z0 _ et rx b1 fun σ3 f3 c1 c2 c3 c4 => ?_
              have f3le : ∀ b, f3 b ≤ fs b := fun b => by have : f3 b ≤ 0 + fs b := c2 b; omega
              refine ⟨by rw [wipe_agree (own.map (·.2)) (fun j hj => c3 j fun z => hj (hix j z)) c4, wipe_wipe], ?_⟩
              have ow : ∀ b, fa b ≠ 0 → f3 b = 0 := fun b n => by have := a5 b; have := f3le b; omega
              have f3D : f3 D = 0 := by have := f3le D; omega
              refine ⟨s3, f3, c1, fun b => by have := a5 b; have := f3le b; omega, ?_⟩
              -- a step that leaves all but the slots
              have step : ∀ {Ha Hb : Hp} {fx gy fy : Fp}, Frm Ha Hb fx (fun b => gy b + fy b) → (∀ b, gy b + fy b ≤ 1) → (∀ b, fx b ≠ 0 → MutA Ha b) → (∀ b, fa b + fx b ≤ 1) → fx D = 0 → Ha D = some (SKo X.prog X.w D acc) → IR Ha → Reps X.K Ha vals vs fa → (∀ b o, H b = some o → F b = 0 → Ha b = some o ∧ fa b + fx b = 0 ∧ b ≠ D) →
                  Hb D = some (SKo X.prog X.w D acc) ∧ gy D + fy D = 0 ∧ IR Hb ∧ Reps X.K Hb vals vs fa ∧ (∀ b, fa b + (gy b + fy b) ≤ 1) ∧ (∀ b o, H b = some o → F b = 0 → Hb b = some o ∧ fa b + (gy b + fy b) = 0 ∧ b ≠ D) := fun {Ha Hb fx gy fy} fr le mu own1 fD hD1 ir va dd => by
                have dj : ∀ b, fa b ≠ 0 → fx b = 0 := fun b n => by have := own1 b; omega
                refine ⟨fr.keep D _ hD1 fD, fr.own D _ hD1 fD, ok.st Ha Hb fx fr.kept mu dj ir, va.kept fr.kept mu dj, fun b => ?_, fun b o e z => ?_⟩
                · by_cases hb : fa b = 0
                  · have := le b; omega
                  · obtain ⟨o, ho, _⟩ := va.mut hb
                    have : gy b + fy b = 0 := fr.own b o ho (dj b hb)
                    have := own1 b
                    omega
                · obtain ⟨y1, y2, y3⟩ := dd b o e z
                  have z0 : fx b = 0 := by omega
                  have : gy b + fy b = 0 := fr.own b o y1 z0
                  exact ⟨fr.keep b o y1 z0, by omega, y3⟩
              have dead3 : ∀ b o, H b = some o → F b = 0 → Hy b = some o ∧ fa b + f3 b = 0 ∧ b ≠ D := fun b o e z => by
                obtain ⟨y1, y2, y3⟩ := a9 b o e z
                exact ⟨ky b o y1, by have := f3le b; omega, y3⟩
              cases ec : cond s3 with
              | bad => rw [ec] at a10; exact notbad a10.symm
              | exc z s4 => rw [ec] at a10; exact notbad a10.symm
              | ok c s4 =>
                rw [ec] at a10
                intro cb H4 gc f4 d1 d2 d3 d4
                obtain ⟨rfl, zc⟩ := d1
                obtain ⟨D4, z4, ir4, val4, own4, dead4⟩ := step d4 d3 (fun b n => c1.mut n) (fun b => by have := a5 b; have := f3le b; omega) f3D b2 b6 b7 dead3
                cases c with
                | false =>
                  rw [if_neg Bool.false_ne_true]
                  dsimp only at a10
                  obtain ⟨f5, m1, m2⟩ := d2.wipe (vs := own.map (·.2))
                  rw [wipe_agree (own.map (·.2)) (fun j hj => c3 j fun z => hj (hix j z)) c4, wipe_wipe] at m1
                  exact ⟨by omega, wipeS s4 (own.map (·.2)), f5, acc, m1, D4, by omega, fun b => by have := own4 b; have := m2 b; omega, aD1, by have := m2 D; omega, ir4, val4,
                    fun i hi hl => wipeS_none _ _ _ hi (by rw [wipeS_length] at hl; exact hl), fun b o e z => by
                      obtain ⟨y1, y2, y3⟩ := dead4 b o e z
                      have := m2 b
                      exact ⟨y1, by omega, y3⟩, a10⟩
                | true =>
                  rw [if_pos rfl]
                  dsimp only at a10
                  refine ⟨s4, f4, d2, fun b => by have := d3 b; omega, ?_⟩
                  cases ee : el s4 with
                  | bad => rw [ee] at a10; exact notbad a10.symm
                  | exc z s5 => rw [ee] at a10; exact notbad a10.symm
                  | ok y s5 =>
                    rw [ee] at a10
                    dsimp only at a10
                    cases ek : keyP y with
                    | none => rw [ek] at a10; exact notbad a10.symm
                    | some k =>
                      rw [ek] at a10
                      dsimp only at a10
                      intro vy H5 gy f5 n1 n2 n3 n4
                      obtain ⟨rfl, zy⟩ := keyP_rep n1 ek
                      obtain ⟨D5, z5, ir5, val5, own5, dead5⟩ := step n4 n3 (fun b n => d2.mut n) (fun b => by have := own4 b; omega) (by omega) D4 ir4 val4 (fun b o e z => by
                        obtain ⟨y1, y2, y3⟩ := dead4 b o e z
                        exact ⟨y1, by omega, y3⟩)
                      have up : ∀ b o, b ≠ D → H5 b = some o → (upd H5 D (SKo X.prog X.w D (insK acc k))) b = some o := fun b o hb e => by rw [upd_ne hb]; exact e
                      have upK : Kept H5 (upd H5 D (SKo X.prog X.w D (insK acc k))) (one D) := kept_upd
                      have muD : ∀ b, one D b ≠ 0 → MutA H5 b := fun b n => by
                        have : b = D := Classical.byContradiction fun z => n (one_ne z)
                        subst this; exact ⟨_, D5, trivial⟩
                      have noD : ∀ {b : Addr} {x : Fp}, x D = 0 → x b ≠ 0 → one D b = 0 := fun {b x} h n => one_ne fun z => n (by rw [z]; exact h)
                      obtain ⟨f6, m1, m2⟩ := n2.wipe (vs := own.map (·.2))
                      rw [wipe_agree (own.map (·.2)) (fun j hj => c3 j fun z => hj (hix j z)) c4, wipe_wipe] at m1
                      have f6D : f6 D = 0 := by have := m2 D; omega
                      -- what leans on nothing at D
                      have slr' : SLR X.K (upd H5 D (SKo X.prog X.w D (insK acc k))) (wipeS s5 (own.map (·.2))) (L2.wipe σ (own.map (·.2))) f6 := m1.kept upK muD fun b n => noD f6D n
                      have val' : Reps X.K (upd H5 D (SKo X.prog X.w D (insK acc k))) vals vs fa := val5.kept upK muD fun b n => noD aD1 n
                      refine ⟨k, acc, rfl, D5, by unfold scanBound; omega, by omega, wipeS s5 (own.map (·.2)), f6, insK acc k, slr', upd_same, by have := insK_len acc k; omega, fun b => by have := own5 b; have := m2 b; omega, aD1, f6D,
                        ?_, val', fun i hi hl => wipeS_none _ _ _ hi (by rw [wipeS_length] at hl; exact hl), fun b o e z => ?_, a10⟩
                      · exact ok.st H5 _ (one D) upK muD (fun b n => noD aD1 n) ir5
                      · obtain ⟨y1, y2, y3⟩ := dead5 b o e z
                        have := m2 b
                        exact ⟨by rw [upd_ne y3]; exact y1, by omega, y3⟩
          · have ei : i = xs.length := by omega
            subst ei
            refine .inl ⟨ok.stop Hc a6, ?_⟩
            rw [List.drop_length] at a10
            simp only [keysL] at a10
            rw [← a10] at h5
            have u1 := a1.unwipe (own.map (·.2)) a8
            obtain ⟨f6, l1, l2⟩ := put_ok h1 u1 a7 a5
            exact ⟨D, acc, rfl, a2, h5 (.int acc.length) Hc Z0 f6 rep_int l1 (fun b => by have := a5 b; have := l2 b; show 0 + f6 b ≤ 1; omega) ⟨fun b o e z => (a9 b o e z).1, fun b o e z => by
              obtain ⟨y1, y2, y3⟩ := a9 b o e z
              have := l2 b
              show 0 + f6 b = 0
              omega⟩⟩
      · exact h5.elim
theorem se_lenSc {os : M (List Pnd)} {r : List V → Hp → (It → Hp → Prop) → Prop} {it : List PV → Option (List PV)} {t : PV → Sl → Option Sl} {ix : List Nat} {cond : M Bool} {el : M PV} {p cpos : Pos}
    (hg : Gl X "len") (hm : X.mg "len" = none) (hc : X.calm = true) (hN : X.N.Nodup) (hi : SI X W tg iter os r) (vi : VIt X.K it r) (ok : BlkOk X.N X.env.scope scope own) (ht : TgB X scope tg t ix) (hix : ∀ i ∈ ix, i ∈ own.map (·.2))
    (hcond : Blk X scope (fun Y => SIf Y W0 ifs cond)) (hel : Blk X scope (fun Y => SE Y W0 elt el)) (hs : ∀ x, foldedSetIterable iter X.env x = pure x := by intro _; rfl)
    (na : starEach [.SetComp elt [⟨tg, iter, ifs, 0⟩] scope pos] X.env = (false, eval (.SetComp elt [⟨tg, iter, ifs, 0⟩] scope pos) X.env) :: starEach [] X.env := by rfl) :
    SE X W (.Call (.Name "len" p) [.SetComp elt [⟨tg, iter, ifs, 0⟩] scope pos] [] cpos) (mLenSc os it t cond el (own.map (·.2))) := by
  obtain ⟨g, hgp, hgt⟩ := ht.ex
  exact PE.weaken (pe_lenScK hg hm (pe_scK (tt := rdG BRep X W0 cond) (te := rdG (Rep X.K) X W0 el) hc hN hi ok hgp hcond hel hs) na) fun σ H Q q => sc_end vi hgt hix q
end
end Bv
set_option maxHeartbeats 1000000
namespace Bv
open PySem PySem.Spec PyProof.Rows L2
/-! ### an own exception over ValueError whose __init__ says super().__init__(a text) -/
section
variable {prog : Program} {w : World} {A : Around} {E : Value → Shared → Prop} {h : Heap} {g : Array GenState} {d : Drawn} {t : Nat} {os : OsState}
variable {nm q : Str} {C N : Addr} {bs bm : List Value} {hdct : Bool} {sn : List Str} {sub : List Value} {ab : Bool} {col : Option Bool} {dd : Option Addr} {k0 k1 k2 k3 k5 : Option Value}
theorem call_mw {u e t0 : Addr} {rest : List Value} {Q : Value → Shared → Prop}
    (hC : h.get? C = some (excClassObj nm q C N bs bm hdct sn sub ab col dd k0 k1 k2 k3 k5 "ValueError.__new__")) (he : h.get? e = some (HandSPX.excO C t0)) (hu : h.get? u = some (PySem.W.kxs_mw "ValueError.__init__" e)) (hrest : rest.length ≤ sizeLine)
    (hq : ∀ h' t1, (∀ b o, b ≠ e → h.get? b = some o → h'.get? b = some o) → h'.get? e = some (HandSPX.excO C t1) → Q .none ⟨h', g, d, t, os⟩) :
    wpAny (model prog w) A (call (.ref u) rest) Q E ⟨h, g, d, t, os⟩ := by
  refine wpAny_call (codeAny_of_tree ?_)
  show wpAny _ A.in1 (callAny (.ref u) ⟨rest, []⟩) _ _ _
  simp only [callAny]
  refine wpAny_bind (wpAny_load hu ?_)
  simp only [PySem.W.kxs_mw, show (Value.type "method-wrapper" == Value.type "method" || Value.type "method-wrapper" == Value.type "builtin_function_or_method" || Value.type "method-wrapper" == Value.type "method-wrapper") = true by decide, if_true]
  refine PySem.W.KFB.if_so (by decide) ?_
  refine wpAny_bind (PySem.W.check_bound_init F.excBase_ValueError.toExcCallFacts hC he rfl ?_)
  refine wpAny_bind (wpAny_pure (wpAny_pure ?_))
  refine ⟨plainId_quiet F.excBase_ValueError.init.plain _, codeAny_builtin F.excBase_ValueError.initEntry ?_⟩
  rw [Around.under_plainId F.excBase_ValueError.init.plain _]
  wp_walk
  refine hq _ h.objs.size (fun b o hb ho => ?_) ?_
  · rw [Heap.get?_update_other _ _ (Ne.symm hb)]
    exact Heap.get?_push_of_some _ ho
  · rw [Heap.get?_update_self _ (Heap.get?_push_of_some _ he) rfl]
    rfl
end
theorem lookup_rev_out {x : Str} : ∀ {l : List (Str × Value)}, (∀ p ∈ l, p.1 ≠ x) → l.lookup x = none
  | [], _ => rfl
  | (y, v) :: l, h => by
    have hb : (x == y) = false := by
      have := h (y, v) List.mem_cons_self
      simpa using fun e => this e.symm
    simp only [List.lookup, hb]
    exact lookup_rev_out fun p hp => h p (List.mem_cons_of_mem _ hp)
theorem lookup_app {x : Str} : ∀ {l r : List (Str × Value)}, (l ++ r).lookup x = (l.lookup x).or (r.lookup x)
  | [], r => rfl
  | (y, v) :: l, r => by
    simp only [List.cons_append, List.lookup]
    cases (x == y) with
    | true => rfl
    | false => exact lookup_app
theorem lookup_rev_zip {x : Str} {v : Value} : ∀ {ps : List Str} {us : List Value} {i : Nat}, ps.Nodup → ps[i]? = some x → us[i]? = some v → (ps.zip us).reverse.lookup x = some v
  | [], _, _, _, h, _ => by simp at h
  | _ :: _, [], _, _, _, h => by simp at h
  | p :: ps, u :: us, 0, nd, h1, h2 => by
    simp at h1 h2
    subst h1; subst h2
    have n := (List.nodup_cons.mp nd).1
    simp only [List.zip_cons_cons, List.reverse_cons]
    rw [lookup_app, lookup_rev_out (fun q hq => fun e => n (by
      have := List.of_mem_zip (List.mem_reverse.mp hq)
      rw [← e]; exact this.1))]
    simp [List.lookup]
  | p :: ps, u :: us, i + 1, nd, h1, h2 => by
    simp only [List.zip_cons_cons, List.reverse_cons]
    rw [lookup_app, lookup_rev_zip (i := i) (List.nodup_cons.mp nd).2 (by simpa using h1) (by simpa using h2)]
    rfl
/-- what of the text such a class must have -/
structure IniT (P : Program) (K : PySem.W.Frag) (qual : Str) (st : Stmt) (f D : Addr) (fd : FuncData) (cda cc : Addr) : Prop where
  ex : ∃ (oc : Value) (od : Option Addr) (kV doc pm : Value) (an : Option Addr) (ct : Value) (osl : Array (Option Value)),
    fd = PySem.W.ksFn "__init__" qual (defArgs st) (defBody st) (defScope st) .none kV doc pm an (.ref cda) ct cc ∧ K.lookup f = some ⟨oc, od, .func fd, osl⟩
  cd : PySem.W.codeIn K (.ref cda) qual = true
  co : ∃ (ccl : Value) (cdd : Option Addr) (vs : Array Value) (ccs : Array (Option Value)) (file : Str) (tf : Tok), K.lookup cda = some ⟨ccl, cdd, .fields vs, ccs⟩ ∧ vs[2]? = some (.str file tf) ∧ ((P.main.file : Str) == file) = true
  cell : ∃ (cl : Value) (cld : Option Addr) (csl : Array (Option Value)), K.lookup cc = some ⟨cl, cld, .cell (some (.ref D)), csl⟩
  cls : ∃ cd, PySem.W.clsIn K D = some cd
  top : (P.main.scope.names.lookup ("super" : Str)).isSome = false
  any : PySem.W.nsIn K cStatics "thirdparty.any" = some none
/-- what of a class at C, whose __init__ is D's -/
structure IniC (K : PySem.W.Frag) (C D : Addr) : Prop where
  ox : OexC K C
  mro : PySem.W.mroIn K C (.ref D) = some true
  sup : PySem.W.ks_superIn K C D "__init__" = some (some (.builtin "ValueError.__init__"))
  ve : PySem.W.subIn K (.ref C) (.type "ValueError") = some true
/-- the text of its first row -/
abbrev supSt (m : Str) (j : Nat) (p0 p1 p2 p3 p4 p5 : Pos) : Stmt := .Expr (.Call (.Attribute (.Call (.Name "super" p0) [] [] p1) "__init__" p2) [.Constant (.str m) j p3] [] p4) p5
/-- the scope of such a def -/
structure IniS (N ps : List Str) (x : Str) (sc : Scope) : Prop where
  kind : sc.kind = .function
  co : sc.isCoroutine = false
  gen : sc.isGenerator = false
  nd : N.Nodup
  eq : N = ps
  loc : ∀ y ∈ ps, sc.names.lookup y = some .local
  nocell : ∀ y ∈ sc.names, y.2 ≠ .cell
  free : ∀ y ∈ sc.names, y.2 = .free → y.1 = "__class__"
  sup : sc.names.lookup ("super" : Str) = some .globalImplicit
  cls : sc.names.lookup ("__class__" : Str) = some .free
  self : ps.head? = some x
section
variable {P : Program} {w : World} {K : PySem.W.Frag} {mg : Str → Option Value} {base : Heap}
abbrev IX (P : Program) (w : World) (K : PySem.W.Frag) (mg : Str → Option Value) (base : Heap) (N : List Str) (qual : Str) (scope : Scope) (f cda cc : Addr) (A : Around) (outer : List Env) (s : Shared) (H : Hp) : Cx where
  prog := P
  w := w
  K := K
  mg := mg
  base := base
  A := A.deeper (PySem.W.ksEnv qual scope s.heap.objs.size f (.ref cda) cc)
  N := N
  s_0 := s
  H_0 := H
  env := PySem.W.ksEnv qual scope s.heap.objs.size f (.ref cda) cc
  outer := outer
  stack := PySem.W.ksEnv qual scope s.heap.objs.size f (.ref cda) cc :: outer
  ex := []
  calm := true
  fn := fun _ => false
  pn := []
  xe := fun _ _ => False
/-- what the call needs: self is an exception in the making -/
def spIni (K : PySem.W.Frag) (D : Addr) (n : Nat) (t : TS) (N : List Str) : Sp := fun vs H Q _ => vs.length = n ∧ ∃ (a C : Addr) (ws : List V), vs = .ref a :: ws ∧ IniC K C D ∧ H a = some (exo a C none) ∧ t { nx := fun _ H' => Q .non H', rt := Q } (L2.start N vs) H
theorem ini_ok {qual : Str} {st : Stmt} {f D : Addr} {fd : FuncData} {cda cc : Addr} {N ps : List Str} {x m : Str} {j : Nat} {p0 p1 p2 p3 p4 p5 : Pos} {rest : List Stmt} {t : TS} {ar : Arg} {k : Nat}
    (T : IniT P K qual st f D fd cda cc) (S : IniS N ps x (defScope st)) (hst : defBody st = supSt m j p0 p1 p2 p3 p4 p5 :: rest) (har : ((defArgs st).posonlyargs ++ (defArgs st).args).head? = some ar) (hax : ar.arg = x) (hms : mg "super" = none) (hm1 : m.length ≤ 1000)
    (hev : ∀ L, ∃ pl : Sem Bool, eval (.Call (.Attribute (.Call (.Name "super" p0) [] [] p1) "__init__" p2) [.Constant (.str m) j p3] [] p4) (PySem.W.ksEnv qual (defScope st) L f (.ref cda) cc) = (do
      let ov ← attributeBase (.Call (.Name "super" p0) [] [] p1) "__init__" (PySem.W.ksEnv qual (defScope st) L f (.ref cda) cc) (eval (.Call (.Name "super" p0) [] [] p1) (PySem.W.ksEnv qual (defScope st) L f (.ref cda) cc))
      standAt p2.atName
      let (g0, first) ← holding [ov] (getMethod ov "__init__" pl)
      callWith p4 g0 first (backTo p4 (starEach [.Constant (.str m) j p3] (PySem.W.ksEnv qual (defScope st) L f (.ref cda) cc))) []))
    (hsw : ∀ L, swapsWith (.Call (.Attribute (.Call (.Name "super" p0) [] [] p1) "__init__" p2) [.Constant (.str m) j p3] [] p4) none p5.line (PySem.W.ksEnv qual (defScope st) L f (.ref cda) cc) = pure false)
    (hrest : ∀ (A : Around) (outer : List Env) (s : Shared) (H : Hp), PSs (IX P w K mg base N qual (defScope st) f cda cc A outer s H) rest t) :
    FnOk P w K mg base CX0 (k + 1) f fd ps (spIni K D ps.length t N) := by
  obtain ⟨oc, od, kV, doc, pm, an, ct, osl, rfl, lk⟩ := T.ex
  refine ⟨fun vs H Q E h => h.1, fun A outer s H args us vs Q E hr e0 hb r hsp => ?_⟩
  obtain ⟨hl, a, C, ws, rfl, IC, ea, hq⟩ := hsp
  have KX : K.In s.heap := e0.mod.kin.keeps fun b o e => (e0.bs b o e).1
  have lim : s.heap.NoLimit := e0.mod.nolimit.keeps fun b o e => (e0.bs b o e).1
  obtain ⟨ccl, cdd, vsc, ccs, file, tf, hcode, hvs, hfile⟩ := T.co
  obtain ⟨cl, cld, csl, hcell⟩ := T.cell
  obtain ⟨cdD, hD⟩ := T.cls
  refine ks_codeAny_call_defAt (fd := PySem.W.ksFn "__init__" qual (defArgs st) (defBody st) (defScope st) .none kV doc pm an (.ref cda) ct cc) (body := defBody st) (binds := ps.zip us) hr.depth (KX _ _ lk) rfl lim (PySem.W.codeRec_of KX T.cd) rfl hb S.nocell
    (fun y hy => S.loc y.1 (List.of_mem_zip hy).1) (fun h₀ hns hk => ?_) S.co S.gen S.kind
  -- the frame's state
  have eenv : callEnv (PySem.W.ksFn "__init__" qual (defArgs st) (defBody st) (defScope st) .none kV doc pm an (.ref cda) ct cc) s.heap.objs.size f = PySem.W.ksEnv qual (defScope st) s.heap.objs.size f (.ref cda) cc := rfl
  rw [eenv]
  have ccbase : ∃ o, base.get? cc = some o := ⟨_, e0.mod.kin _ _ hcell⟩
  obtain ⟨occ, hocc⟩ := ccbase
  have hus : us.length = ps.length := by rw [← r.length]; exact hl
  have cellL : ∀ y c, (PySem.W.ksEnv qual (defScope st) s.heap.objs.size f (.ref cda) cc).cells.lookup y = some c → y = "__class__" ∧ c = cc := fun y c e => by
    have e : List.lookup y [(("__class__" : Str), cc)] = some c := e
    by_cases hy : y = "__class__"
    · subst hy
      simp at e
      exact ⟨rfl, e.symm⟩
    · have hb' : (y == ("__class__" : Str)) = false := by simpa using hy
      simp [List.lookup, hb'] at e
  have hkeep0 : ∀ b o, s.heap.get? b = some o → h₀.get? b = some o := hk
  have I0 : Inv (IX P w K mg base N qual (defScope st) f cda cc A outer s H) [] (L2.start N (V.ref a :: ws)) H { s with heap := h₀, toks := s.toks + (ps.zip us).length } := by
    refine ⟨⟨e0.mod, S.kind, rfl, rfl, Nat.le_refl _, fun y z c h1 h2 => ?_, fun y hy => ?_, fun y c h _ => (Bool.false_ne_true h).elim, fun _ => hr.hd, Around.frames_deeper e0.frames, .inr ⟨rfl, rfl⟩, fun b z => absurd z (by simp), e0.bs, e0.bsz, fun b _ _ => by simp, fun b z => absurd z (by simp), e0.funs, e0.frf⟩,
      rfl, e0.bare, Un.kept hk, ⟨_, hns, fun i y v h1 h2 h3 => ?_⟩, fun y c h => ?_, e0.hok.fresh (Nat.le_refl _), fun y c h => ?_, fun p hp => absurd (show p ∈ ([] : List (Addr × Obj)) from hp) (by simp), e0.hok.kept hk, ?_⟩
    · exact (cellL y c h1).1.trans (cellL z c h2).1.symm
    · have hy : (defScope st).names.lookup y = some .cell ∨ (defScope st).names.lookup y = some .free := hy
      rcases hy with hy | hy
      · exact absurd rfl (S.nocell _ (PySem.mem_of_lookup hy))
      · have : y = "__class__" := S.free _ (PySem.mem_of_lookup hy) rfl
        subst this
        exact ⟨cc, by simp [PySem.W.ksEnv, PySem.W.envX]⟩
    · have hi : i < (V.ref a :: ws).length := by
        unfold L2.start at h2
        by_cases hi : i < (V.ref a :: ws).length
        · exact hi
        · rw [List.getElem?_append_right (by simpa using hi), List.getElem?_replicate] at h2
          split at h2 <;> cases h2
      have ha : (V.ref a :: ws)[i]? = some v := by
        unfold L2.start at h2
        rw [List.getElem?_append_left (by simpa using hi), List.getElem?_map] at h2
        cases e : (V.ref a :: ws)[i]? with
        | none => rw [e] at h2; cases h2
        | some a => rw [e] at h2; cases h2; rfl
      obtain ⟨u, hu, rv⟩ := r.get ha
      have hp : ps[i]? = some y := by rw [← S.eq]; exact h1
      have ndP : ps.Nodup := by rw [← S.eq]; exact S.nd
      refine ⟨u, rv, .inl ⟨S.loc y (List.mem_of_getElem? hp), ?_⟩⟩
      exact lookup_rev_zip ndP hp hu
    · obtain ⟨rfl, rfl⟩ := cellL y c h
      exact ⟨some (.ref D), _, hk _ _ (KX _ _ hcell), rfl⟩
    · obtain ⟨rfl, rfl⟩ := cellL y c h
      exact (e0.bs _ _ hocc).2
    · unfold L2.start
      show _ = N.length
      rw [List.length_append, List.length_map, List.length_replicate, hl, S.eq]
      omega
  rw [hst]
  refine ks_wpAt_execs_cons ?_
  -- super().__init__(m)
  obtain ⟨nmC, qC, NC, bsC, bmC, snC, subC, abC, colC, ddC, c0, c1, c2, c3, c5, hC, hbmC⟩ := IC.ox.cls
  have hself : (fun y => (ps.zip us).reverse.lookup y) x = some (.ref a) := by
    have h1 : ps[0]? = some x := by rw [← List.head?_eq_getElem?]; exact S.self
    have ndP : ps.Nodup := by rw [← S.eq]; exact S.nd
    obtain ⟨u, hu, ru⟩ := r.get (i := 0) (x := V.ref a) rfl
    cases ru
    exact lookup_rev_zip ndP h1 hu
  have hxl : (defScope st).names.lookup x = some .local := S.loc x (List.mem_of_mem_head? S.self)
  obtain ⟨gens0, drawn0, os0⟩ : ∃ a : Array GenState × Drawn × OsState, a = (s.gens, s.drawn, s.os) := ⟨_, rfl⟩
  have X0 : K.In h₀ := I0.kIn
  obtain ⟨t1, he⟩ := exo_at I0.hok ea
  have IA : PySem.W.InstAt h₀ a { cls := .ref C, dict := none, data := .fields #[.ref t1, .none, .none, .none, .bool false, .none] } C none := ⟨he, rfl, rfl, trivial⟩
  have hloadS : ∀ {Q' : Value → Shared → Prop} {E' : Value → Shared → Prop} {s' : Shared}, (∀ b o, h₀.get? b = some o → s'.heap.get? b = some o) → Q' (.type "super") s' → wpAny (model P w) (A.deeper (PySem.W.ksEnv qual (defScope st) s.heap.objs.size f (.ref cda) cc)) (loadName (PySem.W.ksEnv qual (defScope st) s.heap.objs.size f (.ref cda) cc) "super") Q' E' s' := fun {Q' E' s'} kk q => by
    obtain ⟨mb, b1, b2⟩ := e0.mod.blt
    have kb : ∀ b o, base.get? b = some o → s'.heap.get? b = some o := fun b o e => kk b o (hk b o (e0.bs b o e).1)
    exact PySem.W.ks_loadName_global S.kind S.sup (Calls.loadGlobal_builtin (env := PySem.W.ksEnv qual (defScope st) s.heap.objs.size f (.ref cda) cc) (e0.mod.glob.keeps kb) hms (b1.keeps kb) ((b2 "super" (by decide)).trans (by rfl)) q)
  obtain ⟨oD, hD1, hD2⟩ : ∃ oD, h₀.get? D = some oD ∧ oD.data = .cls cdD := by
    unfold PySem.W.clsIn at hD
    split at hD
    · rename_i c d cd' sl ho
      cases hD
      exact ⟨_, X0 _ _ ho, rfl⟩
    · cases hD
  obtain ⟨pl, hpl⟩ := hev s.heap.objs.size
  refine ks_wpAt_Expr_any (hs := hsw _) (hi := by simp [interactive, S.kind]) (ks_wpAt_MethodCall (pl := pl) (he := hpl) (ks_wpAt_super_base (env := PySem.W.ksEnv qual (defScope st) s.heap.objs.size f (.ref cda) cc) S.sup S.cls rfl rfl (X0 _ _ lk) rfl har rfl (X0 _ _ hcode) rfl hvs hfile T.top ?_))
  refine hloadS (fun b o e => e) ⟨rfl, ?_⟩
  refine wpAny_loadName_free S.kind S.cls rfl ⟨_, X0 _ _ hcell, rfl⟩ ?_
  rw [hax]
  refine wpAny_loadName_local S.kind hxl hns hself ?_
  refine ks_wpAny_isType_cls hD1 hD2 ⟨rfl, ?_⟩
  refine ks_wpAny_call_super hD1 hD2 he rfl (fun c e => by cases e) (PySem.W.looks_mroIn X0 IC.mro) (fun h1 e1 k1 => ?_)
  -- .__init__
  cases hc : PySem.W.clsIn K C with
  | none =>
    have hm := IC.sup
    unfold PySem.W.ks_superIn at hm; rw [hc] at hm; cases hm
  | some cd =>
    have hm := IC.sup
    unfold PySem.W.ks_superIn at hm
    rw [hc] at hm
    have X1 : K.In h1 := X0.keeps k1
    have IA1 : PySem.W.InstAt h1 a { cls := .ref C, dict := none, data := .fields #[.ref t1, .none, .none, .none, .bool false, .none] } C none := ⟨k1 _ _ he, rfl, rfl, trivial⟩
    refine PySem.W.kxs_getMethod PySem.W.kxs_ValueError e1 (PySem.W.looks_opaque X1 T.any) (l₀ := cd.mro) (fun A Q E s k q => wpAny_bind ((PySem.W.looks_clsIn X1 hc) A _ E s k (wpAny_pure q))) rfl X1 hm (IA1.type.andThen (PySem.W.looks_subIn X1 IC.ve)) (PySem.W.ks_ne X1 IA1 hc) (by decide) ?_
    -- the call
    have kmw : ∀ b o, h1.get? b = some o → (h1.push (PySem.W.kxs_mw "ValueError.__init__" a)).get? b = some o := fun b o e => Heap.get?_push_of_some _ e
    have hmw : (h1.push (PySem.W.kxs_mw "ValueError.__init__" a)).get? h1.objs.size = some (PySem.W.kxs_mw "ValueError.__init__" a) := Heap.get?_push_at rfl rfl
    refine PySem.W.kxs_callWith (i := "ValueError.__init__") (x := a) rfl ?_
    refine Calls.evalArgs_plain ?_
    refine Calls.spliced_cons (show wpAny _ _ (eval (.Constant (.str m) j p3) (PySem.W.ksEnv qual (defScope st) s.heap.objs.size f (.ref cda) cc)) _ _ _ from Calls.Constant_str (Calls.spliced_nil ⟨hmw, ?_⟩))
    refine call_mw (X1.keeps kmw _ _ hC) (kmw _ _ (k1 _ _ he)) hmw (by show 1 ≤ sizeLine; decide) (fun h5 t5 k5 e5 => ?_)
    have eu : upd H a (exo a C none) = H := by
      funext b
      by_cases hb : b = a
      · rw [hb, upd_same, ea]
      · rw [upd_ne hb]
    have J : ∀ t', Inv (IX P w K mg base N qual (defScope st) f cda cc A outer s H) [] (L2.start N (V.ref a :: ws)) H ⟨h5, s.gens, s.drawn, t', s.os⟩ := fun t' => by
      have J := I0.write (t' := t') (x := a) (e := a) (h' := h5) (o := exo a C none) (by rw [ea]; exact True.intro) (.inl rfl) (fun b o hb ho => k5 b o hb (kmw b o (k1 b o ho))) ⟨_, e5⟩ (exo_ok e5)
      rw [eu] at J
      exact J
    refine wpAt_of_wpAny (wpAny_mono ((hrest A outer s H).run [] _ _ H { nx := fun _ H' => Q .non H', rt := Q } (J _) hq) (fun fl s' hs => ?_) fun e s' z => z.elim)
    have fin : ∀ {σ' : L2.St} {H' : Hp} {v : V} {u : Value}, Inv (IX P w K mg base N qual (defScope st) f cda cc A outer s H) [] σ' H' s' → RelV v u → Q v H' → CE outer P w H s Q u s' :=
      fun {σ' H' v u} J rv q => ⟨v, H', J.os, J.bare, J.base, J.hok, rv, q⟩
    cases fl with
    | ret u =>
      obtain ⟨v, σ', H', J, rv, q⟩ := hs
      exact fin J rv q
    | next =>
      obtain ⟨σ', H', J, q⟩ := hs
      exact fin (v := V.non) (u := Value.none) J rfl q
    | brk =>
      obtain ⟨_, _, _, q⟩ := hs
      exact False.elim q
    | cont =>
      obtain ⟨_, _, _, q⟩ := hs
      exact False.elim q
end
end Bv
set_option maxHeartbeats 1000000
namespace Bv
open PySem PySem.Spec PyProof.Rows L2
/-! ### raise -/
def SX (X : Cx) (W : WX) (e : Expr) (m : M XV) : Prop := PMk X e (fun σ H Q => ∃ s f, SLR X.K H s σ f ∧ (∀ b, f b ≤ 1) ∧ (match m s with
  | .ok x s' => ∀ cls d H' f', XRep X.K X.mg H' x cls d → SLR X.K H' s' σ f' → (∀ b, f' b ≤ 1) → Frm H H' f f' → Q cls d H'
  | .exc x s' => XPost X W H f σ x s'
  | .bad => False))
def mRaise (m : M XV) : MS := fun s => (m s).out fun x s' => .exc x s'
theorem ss_raise {X : Cx} {W : WX} {pn : List Nat} {e : Expr} {m : M XV} {pos : Pos} (hc : X.calm = true) (tk : Takes X W) (he : SX X W e m) : SS X W pn (.Raise (some e) none pos) (mRaise m) :=
  PS.weaken' (ps_raise hc tk he) fun D σ H q => by
    obtain ⟨s, f, h1, h2, h3⟩ := q
    refine ⟨s, f, h1, h2, ?_⟩
    unfold mRaise at h3
    cases em : m s with
    | ok x s' => rw [em] at h3; exact fun cls d H' f' a b c e => h3 cls d σ H' f' (PinE.refl _ _) a b c e
    | exc x s' => rw [em] at h3; exact fun cls d H' f' a b c e => h3 cls d σ H' f' (PinE.refl _ _) a b c e
    | bad => rw [em] at h3; exact h3
def mMk (cls : Str) (flds : List Str) (ms : M (List PV)) : M XV := fun s => (ms s).bind fun xs s' => if xs.length = flds.length ∧ PV.owns xs = false then .ok ⟨cls, (flds.zip xs).reverse⟩ s' else .bad
/-- a class of the text that may be raised: its fields in the order of their stores -/
structure XB (P : Program) (w : World) (K : PySem.W.Frag) (mg : Str → Option Value) (base : Heap) (k : Nat) (x : Str) (flds : List Str) : Prop where
  ex : ∃ (C D fI : Addr) (fd : FuncData) (ps : List Str) (t : TS) (N : List Str), mg x = some (.ref C) ∧ IniC K C D ∧ PySem.W.findIn K (.ref C) "__init__" = some (some (.ref fI)) ∧ PySem.W.typeIn K (.ref fI) = some (.type "function") ∧ Binds K fd ps [] ∧ ps.length = flds.length + 1 ∧
    FnOk P w K mg base CX0 k fI fd ps (spIni K D ps.length t N) ∧
    ∀ (a : Addr) (ws : List V) (H : Hp) (Q : VK), ws.length = flds.length → H a = some (exo a C none) → (∀ d, H d = none → d ≠ a → Q .non (upd (upd H d (exd d ((flds.zip ws).reverse))) a (exo a C (some d)))) →
      t { nx := fun _ H' => Q .non H', rt := Q } (L2.start N (.ref a :: ws)) H
theorem repF_app {K : PySem.W.Frag} {H : Hp} : ∀ {l : List (Str × PV)} {m : List (Str × V)} {n : Str} {x : PV} {v : V}, RepF K H l m → Rep K H x v (fun _ => 0) → RepF K H (l ++ [(n, x)]) (m ++ [(n, v)])
  | [], m, n, x, v, h, r => by
    have h : m = [] := h
    subst h
    exact ⟨v, [], rfl, r, rfl⟩
  | (k, y) :: l, m, n, x, v, h, r => by
    obtain ⟨w, t, rfl, h1, h2⟩ := h
    exact ⟨w, t ++ [(n, v)], rfl, h1, repF_app h2 r⟩
theorem repF_zip {K : PySem.W.Frag} {H : Hp} : ∀ {fl : List Str} {xs : List PV} {vs : List V} {f : Fp}, xs.length = fl.length → Reps K H xs vs f → PV.owns xs = false → RepF K H (fl.zip xs).reverse (fl.zip vs).reverse
  | [], xs, vs, f, hl, r, n => rfl
  | n :: fl, [], vs, f, hl, r, h => by simp at hl
  | n :: fl, x :: xs, vs, f, hl, r, h => by
    obtain ⟨v, ws, g, k, rfl, r1, r2, _⟩ := r
    simp only [PV.owns, Bool.or_eq_false_iff] at h
    simp only [List.zip_cons_cons, List.reverse_cons]
    exact repF_app (repF_zip (by simpa using hl) r2 h.2) (r1.zero h.1)
theorem RepF.kept {K : PySem.W.Frag} {H H' : Hp} (k : ∀ b o, H b = some o → H' b = some o) : ∀ {l : List (Str × PV)} {m : List (Str × V)}, RepF K H l m → RepF K H' l m
  | [], m, h => h
  | (n, y) :: l, m, h => by
    obtain ⟨w, t, e, h1, h2⟩ := h
    exact ⟨w, t, e, h1.keptZ k, RepF.kept k h2⟩
theorem sx_mk {X : Cx} {W : WX} {x : Str} {e : Expr} {es : List Expr} {p pos : Pos} {flds : List Str} {ms : M (List PV)} {k : Nat} (B : XB X.prog X.w X.K X.mg X.base k x flds) (hr : Room (k + 1) X.A) (hg : Gl X x) (ha : SV X W (e :: es) ms) (hf : flds.length ≤ 900)
    (hdb : (x == ("__debug__" : Str)) = false := by decide) (he : starEach (e :: es) X.env = (false, eval e X.env) :: starEach es X.env := by rfl) (hpl : (backTo pos (starEach es X.env)).any (·.1) = false := by rfl) :
    SX X W (.Call (.Name x p) (e :: es) [] pos) (mMk x flds ms) := by
  obtain ⟨C, D, fI, fd, ps, t, N, hm, IC, iC, tI, hb, hl, F, rd⟩ := B.ex
  have base := pmk_oex (p := p) IC.ox iC tI F hr hb .nil (fun _ _ _ _ _ _ _ h => h.elim) hg hm ha hdb he hpl
  intro pins s σ H Q I q
  refine base pins s σ H Q I ?_
  obtain ⟨s0, f0, a1, a2, a3⟩ := q
  refine ⟨s0, f0, a1, a2, ?_⟩
  unfold mMk at a3
  cases em : ms s0 with
  | bad => rw [em] at a3; exact a3
  | exc y s' => rw [em] at a3; exact a3
  | ok xs s1 =>
    rw [em] at a3
    simp only [R.bind_ok] at a3
    intro vs H1 g f1 h1 h2 h3 h4
    by_cases hx : xs.length = flds.length ∧ PV.owns xs = false
    · rw [if_pos hx] at a3
      dsimp only at a3
      obtain ⟨hx1, hx2⟩ := hx
      have hvl : vs.length = flds.length := by rw [h1.length, hx1]
      refine ⟨by omega, fun a na => ?_⟩
      rw [List.append_nil]
      have ea : upd H1 a (exo a C none) a = some (exo a C none) := upd_same
      refine ⟨by rw [List.length_cons, hvl, hl], a, C, vs, rfl, IC, ea, rd a vs _ (fun v H2 => v = .non ∧ ∃ (d : Addr) (fs : List (Str × V)), H2 a = some (exo a C (some d)) ∧ H2 d = some (exd d fs) ∧ H1 d = none ∧ Q (.ref C) (some d) (upd (del H2 a) d (.xd fs))) hvl ea fun d nd hda => ⟨rfl, d, (flds.zip vs).reverse, upd_same, ?_, ?_, ?_⟩⟩
      · rw [upd_ne hda, upd_same]
      · rw [upd_ne hda] at nd; exact nd
      · have nd1 : H1 d = none := by rw [upd_ne hda] at nd; exact nd
        have kp : ∀ b o, H1 b = some o → (upd (del (upd (upd (upd H1 a (exo a C none)) d (exd d ((flds.zip vs).reverse))) a (exo a C (some d))) a) d (.xd ((flds.zip vs).reverse))) b = some o := fun b o e => by
          have h1 : b ≠ d := ne_of_none e nd1
          have h2 : b ≠ a := ne_of_none e na
          rw [upd_ne h1, del_ne h2, upd_ne h2, upd_ne h1, upd_ne h2]; exact e
        refine a3 (.ref C) (some d) _ f1 ⟨C, d, _, hm, rfl, rfl, upd_same, RepF.kept kp (repF_zip hx1 h1 hx2)⟩ (h2.keptZ kp) (fun b => by have := h3 b; omega) ⟨fun b o e z => kp b o (h4.keep b o e z), fun b o e z => by have : g b + f1 b = 0 := h4.own b o e z; omega⟩
    · rw [if_neg hx] at a3; exact a3.elim
section
variable {P : Program} {w : World} {K : PySem.W.Frag} {mg : Str → Option Value} {base : Heap}
/-- one field -/
theorem xb_one {x qual : Str} {st : Stmt} {f C D : Addr} {fd : FuncData} {cda cc : Addr} {sf p m fl : Str} {j : Nat} {p0 p1 p2 p3 p4 p5 q1 q2 q3 q4 : Pos} {ar : Arg}
    (T : IniT P K qual st f D fd cda cc) (S : IniS [sf, p] [sf, p] sf (defScope st)) (hst : defBody st = supSt m j p0 p1 p2 p3 p4 p5 :: [.Assign [.Attribute (.Name sf q1) fl q2] (.Name p q3) q4]) (har : ((defArgs st).posonlyargs ++ (defArgs st).args).head? = some ar) (hax : ar.arg = sf) (hms : mg "super" = none) (hm1 : m.length ≤ 1000)
    (hev : ∀ L, ∃ pl : Sem Bool, eval (.Call (.Attribute (.Call (.Name "super" p0) [] [] p1) "__init__" p2) [.Constant (.str m) j p3] [] p4) (PySem.W.ksEnv qual (defScope st) L f (.ref cda) cc) = (do
      let ov ← attributeBase (.Call (.Name "super" p0) [] [] p1) "__init__" (PySem.W.ksEnv qual (defScope st) L f (.ref cda) cc) (eval (.Call (.Name "super" p0) [] [] p1) (PySem.W.ksEnv qual (defScope st) L f (.ref cda) cc))
      standAt p2.atName
      let (g0, first) ← holding [ov] (getMethod ov "__init__" pl)
      callWith p4 g0 first (backTo p4 (starEach [.Constant (.str m) j p3] (PySem.W.ksEnv qual (defScope st) L f (.ref cda) cc))) []))
    (hsw : ∀ L, swapsWith (.Call (.Attribute (.Call (.Name "super" p0) [] [] p1) "__init__" p2) [.Constant (.str m) j p3] [] p4) none p5.line (PySem.W.ksEnv qual (defScope st) L f (.ref cda) cc) = pure false)
    (hsw2 : ∀ L, swapsWith (.Name p q3) (some (.Attribute (.Name sf q1) fl q2)) q4.line (PySem.W.ksEnv qual (defScope st) L f (.ref cda) cc) = pure false)
    (hd1 : (sf == ("__debug__" : Str)) = false) (hc1 : (sf == ("__classdict__" : Str)) = false) (hd2 : (p == ("__debug__" : Str)) = false) (hc2 : (p == ("__classdict__" : Str)) = false)
    (gx : mg x = some (.ref C)) (IC : IniC K C D) (iC : PySem.W.findIn K (.ref C) "__init__" = some (some (.ref f))) (tI : PySem.W.typeIn K (.ref f) = some (.type "function")) (bd : Binds K fd [sf, p] []) (nf : PySem.W.findIn K (.ref C) fl = some none) (k : Nat) :
    XB P w K mg base (k + 1) x [fl] := by
  refine ⟨C, D, f, fd, [sf, p], tOst K fl (tVar 0) (tVar 1), [sf, p], gx, IC, iC, tI, bd, rfl, ini_ok T S hst har hax hms hm1 hev hsw fun A outer s H => ?_, fun a ws H Q hl ea q => ?_⟩
  · exact pss_one (ps_ost (X := IX P w K mg base [sf, p] qual (defScope st) f cda cc A outer s H) (pe_var (i := 0) rfl (.inl (S.loc sf (by simp))) hd1 hc1) (pe_var (i := 1) rfl (.inl (S.loc p (by simp))) hd2 hc2) (hsw2 _))
  · match ws, hl with
    | [y], _ => exact ⟨y, rfl, .ref a, rfl, a, C, rfl, IC.ox, nf, .inl ⟨ea, fun d nd hda => q d nd hda⟩⟩
end
end Bv
set_option maxHeartbeats 1000000
namespace Bv
open PySem PySem.Spec PyProof.Rows L2
/-! ### the suites of except clauses: they only read, and return -/
def FS (Z : L2.St → Hp → Prop) : Prop := ∀ σ H H', Z σ H → (∀ b o, H b = some o → H' b = some o) → Z σ H'
def SU (Y : Cx) (Z : L2.St → Hp → Prop) (e : Expr) (p : Sl → Option PV) : Prop :=
  PE Y e (fun σ H Q => Z σ H ∧ ∃ s f y, SLR Y.K H s σ f ∧ p s = some y ∧ ∀ v H' g, Rep Y.K H' y v g → Fresh H H' g → Q v H')
def SUT (Y : Cx) (Z : L2.St → Hp → Prop) (e : Expr) (p : Sl → Option Bool) : Prop :=
  PT Y e (fun σ H Q => Z σ H ∧ ∃ s f y, SLR Y.K H s σ f ∧ p s = some y ∧ ∀ H', (∀ b o, H b = some o → H' b = some o) → Q y H')
def SUW (Y : Cx) (Z : L2.St → Hp → Prop) (e : Expr) (p : Sl → Option Bool) : Prop :=
  PW Y e (fun σ H Q => Z σ H ∧ ∃ s f y, SLR Y.K H s σ f ∧ p s = some y ∧ ∀ H', (∀ b o, H b = some o → H' b = some o) → Q y H')
/-- one behind another -/
theorem Fresh.go {H H1 H2 : Hp} {g : Fp} (k : ∀ b o, H b = some o → H1 b = some o) (f : Fresh H1 H2 g) : Fresh H H2 g :=
  ⟨fun b o e => f.keep b o (k b o e), f.le, fun b n => by
    have := f.new b n
    cases e : H b with
    | none => rfl
    | some o => rw [k b o e] at this; cases this⟩
def uC (x : PV) : Sl → Option PV := fun _ => some x
def u1 (f : List PV → Option PV) (a : Sl → Option PV) : Sl → Option PV := fun s => match a s with | some x => f [x] | none => none
def u2 (f : List PV → Option PV) (a b : Sl → Option PV) : Sl → Option PV := fun s => match a s, b s with | some x, some y => f [x, y] | _, _ => none
def uT (a : Sl → Option PV) : Sl → Option Bool := fun s => match a s with | some (.bl c) => some c | _ => none
def utOr (a b : Sl → Option Bool) : Sl → Option Bool := fun s => match a s with | some false => b s | some true => some true | none => none
def utNot (a : Sl → Option Bool) : Sl → Option Bool := fun s => match a s with | some c => some (!c) | _ => none
section
variable {Y : Cx} {Z : L2.St → Hp → Prop} {e a b c : Expr} {rest : List Expr} {pos : Pos} {p q : Sl → Option PV}
theorem su_C {x : PV} {v : V} (h : PE Y e (tC v)) (r : ∀ H, Rep Y.K H x v Z0) : SU Y Z e (uC x) := PE.weaken h fun σ H Q ⟨_, s, f, y, _, hy, k⟩ => by
  cases (Option.some.inj hy)
  exact k v H Z0 (r H) (fr0 H)
theorem su_t2 {r : R2} {f : List PV → Option PV} (hz : FS Z) (hp : ∀ {ta tb : TE}, PE Y a ta → PE Y b tb → PE Y e (tOp r ta tb)) (vo : VOp Y.K f (r2L r)) (ha : SU Y Z a p) (hb : SU Y Z b q) : SU Y Z e (u2 f p q) :=
  PE.weaken (hp ha hb) fun σ H Q ⟨z, s, fp, y, hs, hy, k⟩ => by
    unfold u2 at hy
    cases e1 : p s with
    | none => rw [e1] at hy; cases hy
    | some x =>
      cases e2 : q s with
      | none => rw [e1, e2] at hy; cases hy
      | some x2 =>
        rw [e1, e2] at hy
        refine ⟨z, s, fp, x, hs, e1, fun v H1 g h1 h2 => ?_⟩
        refine ⟨hz _ _ _ z h2.keep, s, fp, x2, hs.keptZ h2.keep, e2, fun v2 H2 g2 h3 h4 => ?_⟩
        obtain ⟨x', y', e, q⟩ := vo H2 [x, x2] [v, v2] y Q ⟨v, [v2], g, rfl, h1.keptZ h4.keep, v2, [], g2, rfl, h3, rfl⟩ hy fun v3 H3 g3 r3 f3 => k v3 H3 g3 r3 ((f3.go h4.keep).go h2.keep)
        cases e
        exact q
theorem su_cmp {op : CmpOp} {r : R2} {f : List PV → Option PV} (hz : FS Z) (ho : OpR Y (compareOp op) r) (vo : VOp Y.K f (r2L r)) (ha : SU Y Z a p) (hb : SU Y Z b q) (hm : behindInMarks op b = false) : SU Y Z (.Compare a [op] [b] pos) (u2 f p q) :=
  su_t2 hz (fun ha hb => pe_cmpR ho ha hb hm) vo ha hb
theorem su_test (h : SU Y Z e p) (he : ∀ whole, isTrue e Y.env whole = (do let v ← whole; standAt e.pos; holding [v] (truthy v)) := by intro _; rfl) : SUT Y Z e (uT p) := PT.weaken (pt_val h he) fun σ H Q ⟨z, s, fp, y, hs, hy, k⟩ => by
  unfold uT at hy
  split at hy
  · rename_i c e1
    cases hy
    exact ⟨z, s, fp, _, hs, e1, fun v H1 g h1 h2 => ⟨y, h1.1, k H1 h2.keep⟩⟩
  · cases hy
variable {p' q' : Sl → Option Bool}
theorem suw_or1 (h : SUT Y Z a p') : SUW Y Z (.BoolOp .Or [a] pos) p' := pw_or1 h
theorem suw_or (hz : FS Z) (h : SUT Y Z a p') (hb : SUW Y Z (.BoolOp .Or (b :: rest) pos) q') : SUW Y Z (.BoolOp .Or (a :: b :: rest) pos) (utOr p' q') := PW.weaken (pw_or h hb) fun σ H Q ⟨z, s, fp, y, hs, hy, k⟩ => by
  unfold utOr at hy
  split at hy
  · rename_i e1
    refine ⟨z, s, fp, _, hs, e1, fun H1 h2 => ?_⟩
    refine iteF ?_
    exact ⟨hz _ _ _ z h2, s, fp, y, hs.keptZ h2, hy, fun H2 h3 => k H2 fun b o e => h3 b o (h2 b o e)⟩
  · rename_i e1
    cases hy
    refine ⟨z, s, fp, _, hs, e1, fun H1 h2 => ?_⟩
    refine iteT ?_
    exact k H1 h2
  · cases hy
theorem sut_bool (h : SUW Y Z e p') : SUT Y Z e p' := h.pt
theorem sut_not (h : SUT Y Z a p') : SUT Y Z (.UnaryOp .Not a pos) (utNot p') := PT.weaken (pt_not h) fun σ H Q ⟨z, s, fp, y, hs, hy, k⟩ => by
  unfold utNot at hy
  split at hy
  · rename_i c e1
    cases hy
    exact ⟨z, s, fp, _, hs, e1, fun H1 h2 => k H1 h2⟩
  · cases hy
/-- rows -/
def SUs (Y : Cx) (Z : L2.St → Hp → Prop) (es : List Expr) (p : Sl → Option (List PV)) : Prop :=
  PA Y es (fun σ H Q => Z σ H ∧ ∃ s f ys, SLR Y.K H s σ f ∧ p s = some ys ∧ ∀ vs H' g, Reps Y.K H' ys vs g → Fresh H H' g → Q vs H')
def uNil : Sl → Option (List PV) := fun _ => some []
def uCons (a : Sl → Option PV) (r : Sl → Option (List PV)) : Sl → Option (List PV) := fun s => match a s, r s with | some x, some xs => some (x :: xs) | _, _ => none
theorem sus_nil : SUs Y Z [] uNil := PA.weaken pa_nil fun σ H Q ⟨_, s, f, y, _, hy, k⟩ => by
  cases (Option.some.inj hy)
  exact k [] H Z0 ⟨rfl, fun _ => rfl⟩ (fr0 H)
theorem sus_cons {es : List Expr} {r : Sl → Option (List PV)} (hz : FS Z) (h : SU Y Z e p) (hs : SUs Y Z es r) (hst : starEach (e :: es) Y.env = (false, eval e Y.env) :: starEach es Y.env := by rfl) : SUs Y Z (e :: es) (uCons p r) :=
  PA.weaken (pa_cons h hs hst) fun σ H Q ⟨z, s, fp, y, hsl, hy, k⟩ => by
    unfold uCons at hy
    cases e1 : p s with
    | none => rw [e1] at hy; cases hy
    | some x =>
      cases e2 : r s with
      | none => rw [e1, e2] at hy; cases hy
      | some xs =>
        rw [e1, e2] at hy
        cases hy
        refine ⟨z, s, fp, x, hsl, e1, fun v H1 g h1 h2 => ?_⟩
        refine ⟨hz _ _ _ z h2.keep, s, fp, xs, hsl.keptZ h2.keep, e2, fun vs H2 g2 h3 h4 => ?_⟩
        refine k (v :: vs) H2 (fun b => g b + g2 b) ⟨v, vs, g, g2, rfl, h1.keptZ h4.keep, h3, fun _ => rfl⟩ ⟨fun b o e => h4.keep b o (h2.keep b o e), fun b => ?_, fun b n => ?_⟩
        · by_cases hb : g2 b = 0
          · have := h2.le b; show g b + g2 b ≤ 1; omega
          · have n1 := h4.new b hb
            have : g b = 0 := by
              refine Classical.byContradiction fun c => ?_
              obtain ⟨o, ho, _⟩ := h1.mut c
              rw [n1] at ho; cases ho
            have := h4.le b
            show g b + g2 b ≤ 1
            omega
        · by_cases hb : g b = 0
          · exact (h4.go h2.keep).new b (by omega)
          · exact h2.new b hb
def uTup (r : Sl → Option (List PV)) : Sl → Option PV := fun s => match r s with | some xs => if xs.length ≤ LIM then some (.tup xs) else none | none => none
theorem su_tup {es : List Expr} {r : Sl → Option (List PV)} {x1} (h : SUs Y Z es r) : SU Y Z (.Tuple es x1 pos) (uTup r) := PE.weaken (pe_tup h) fun σ H Q ⟨z, s, fp, y, hsl, hy, k⟩ => by
  unfold uTup at hy
  cases e1 : r s with
  | none => rw [e1] at hy; cases hy
  | some xs =>
    rw [e1] at hy
    dsimp only at hy
    split at hy
    · rename_i hl
      cases hy
      refine ⟨z, s, fp, xs, hsl, e1, fun vs H1 g h1 h2 => ⟨by rw [h1.length, lim_eq]; exact hl, fun pp np => ?_⟩⟩
      have kk := keep_upd (o := .tup vs) np
      exact k (.ref pp) _ g ⟨pp, vs, rfl, SqT.of upd_same, by rw [lim_eq]; exact hl, h1.keptZ kk⟩ ⟨fun b o e => kk b o (h2.keep b o e), h2.le, h2.new⟩
    · cases hy
end
/-! ### its statements -/
inductive UO where
  | ret (y : PV)
  | nx
  | bad
def rdU (Y : Cx) (Z : L2.St → Hp → Prop) (m : Sl → UO) : TS := fun D σ H => Z σ H ∧ ∃ s f, SLR Y.K H s σ f ∧ (∀ b, f b ≤ 1) ∧ (match m s with
  | .ret y => ∀ v H' g, Rep Y.K H' y v g → Fresh H H' g → D.rt v H'
  | .nx => ∀ H', (∀ b o, H b = some o → H' b = some o) → D.nx σ H'
  | .bad => False)
def US (Y : Cx) (Z : L2.St → Hp → Prop) (st : Stmt) (m : Sl → UO) : Prop := PS Y st (rdU Y Z m)
def USs (Y : Cx) (Z : L2.St → Hp → Prop) (st : List Stmt) (m : Sl → UO) : Prop := PSs Y st (rdU Y Z m)
def uRet (p : Sl → Option PV) : Sl → UO := fun s => match p s with | some y => .ret y | none => .bad
def uIf (c : Sl → Option Bool) (a b : Sl → UO) : Sl → UO := fun s => match c s with | some true => a s | some false => b s | none => .bad
def uNx : Sl → UO := fun _ => .nx
def uSeq (a b : Sl → UO) : Sl → UO := fun s => match a s with | .nx => b s | o => o
section
variable {Y : Cx} {Z : L2.St → Hp → Prop} {e c : Expr} {pos : Pos}
theorem us_ret {p : Sl → Option PV} (h : SU Y Z e p) : US Y Z (.Return (some e) pos) (uRet p) := PS.weaken' (ps_ret h) fun D σ H ⟨z, s, f, hs, le, q⟩ => by
  unfold uRet at q
  cases e1 : p s with
  | none => rw [e1] at q; exact q.elim
  | some y => rw [e1] at q; exact ⟨z, s, f, y, hs, e1, q⟩
theorem uss_nil : USs Y Z [] uNx := PSs.weaken' pss_nil fun D σ H ⟨z, s, f, hs, le, q⟩ => q H fun _ _ e => e
theorem uss_one {st : Stmt} {m : Sl → UO} (h : US Y Z st m) : USs Y Z [st] m := pss_one h
theorem uss_cons {st : Stmt} {rest : List Stmt} {m n : Sl → UO} (hz : FS Z) (h : US Y Z st m) (hr : USs Y Z rest n) : USs Y Z (st :: rest) (uSeq m n) := PSs.weaken' (pss_cons h hr) fun D σ H ⟨z, s, f, hs, le, q⟩ => by
  unfold uSeq at q
  refine ⟨z, s, f, hs, le, ?_⟩
  cases e1 : m s with
  | ret y => rw [e1] at q; exact q
  | bad => rw [e1] at q; exact q.elim
  | nx =>
    rw [e1] at q
    intro H' k
    refine ⟨hz _ _ _ z k, s, f, hs.keptZ k, le, ?_⟩
    dsimp only at q
    cases e2 : n s with
    | ret y => rw [e2] at q; exact fun v H2 g r fr => q v H2 g r (fr.go k)
    | nx => rw [e2] at q; exact fun H2 k2 => q H2 fun b o e => k2 b o (k b o e)
    | bad => rw [e2] at q; exact q.elim
theorem us_if {a b : List Stmt} {pc : Sl → Option Bool} {m n : Sl → UO} (hz : FS Z) (hc : SUT Y Z c pc) (ha : USs Y Z a m) (hb : USs Y Z b n) : US Y Z (.If c a b pos) (uIf pc m n) := PS.weaken' (ps_if hc ha hb) fun D σ H ⟨z, s, f, hs, le, q⟩ => by
  unfold uIf at q
  cases e1 : pc s with
  | none => rw [e1] at q; exact q.elim
  | some d =>
    rw [e1] at q
    refine ⟨z, s, f, d, hs, e1, fun H' k => ?_⟩
    cases d with
    | true =>
      refine iteT ?_
      refine ⟨hz _ _ _ z k, s, f, hs.keptZ k, le, ?_⟩
      dsimp only at q
      cases e2 : m s with
      | ret y => rw [e2] at q; exact fun v H2 g r fr => q v H2 g r (fr.go k)
      | nx => rw [e2] at q; exact fun H2 k2 => q H2 fun b o e => k2 b o (k b o e)
      | bad => rw [e2] at q; exact q.elim
    | false =>
      refine iteF ?_
      refine ⟨hz _ _ _ z k, s, f, hs.keptZ k, le, ?_⟩
      dsimp only at q
      cases e2 : n s with
      | ret y => rw [e2] at q; exact fun v H2 g r fr => q v H2 g r (fr.go k)
      | nx => rw [e2] at q; exact fun H2 k2 => q H2 fun b o e => k2 b o (k b o e)
      | bad => rw [e2] at q; exact q.elim
end
/-! ### the caught exception -/
/-- slot i holds it, its fields stand -/
def ZE (K : PySem.W.Frag) (i : Nat) (a dd : Addr) (fs : List (Str × PV)) : L2.St → Hp → Prop := fun σ H => σ[i]? = some (some (.ref a)) ∧ ∃ ws, H dd = some (.xd ws) ∧ RepF K H fs ws
theorem ze_fs {K : PySem.W.Frag} {i : Nat} {a dd : Addr} {fs : List (Str × PV)} : FS (ZE K i a dd fs) := fun σ H H' ⟨h1, ws, h2, h3⟩ k => ⟨h1, ws, k _ _ h2, RepF.kept k h3⟩
theorem repF_lookup {K : PySem.W.Frag} {H : Hp} {n : Str} {y : PV} : ∀ {fs : List (Str × PV)} {ws : List (Str × V)}, RepF K H fs ws → fs.lookup n = some y → ∃ v, ws.lookup n = some v ∧ Rep K H y v (fun _ => 0)
  | [], ws, r, h => by simp at h
  | (m, x) :: fs, ws, r, h => by
    obtain ⟨v, t, rfl, h1, h2⟩ := r
    simp only [List.lookup] at h ⊢
    cases hb : (n == m) with
    | true => rw [hb] at h; cases h; exact ⟨v, rfl, h1⟩
    | false => rw [hb] at h; exact repF_lookup h2 h
section
variable {X : Cx} {a C dd : Addr} {oe : Obj} {pn : List (Addr × Obj)} {i : Nat} {fs : List (Str × PV)} {pos p p2 : Pos} {x : Str}
/-- err.f -/
theorem su_xf {n : Str} (T : XfC X.K C) (hno : PySem.W.findIn X.K (.ref C) n = some none) (hz : Zc (.ref C) (some dd) oe) (hf : ∃ vs, oe.data = .fields vs) (he : PE (X.suite a ((a, oe) :: pn)) (.Name x p) (tVar i))
    (hb : attributeBase (.Name x p) n X.env (eval (.Name x p) X.env) = eval (.Name x p) X.env := by rfl) : SU (X.suite a ((a, oe) :: pn)) (ZE X.K i a dd fs) (.Attribute (.Name x p) n pos) (fun _ => fs.lookup n) :=
  PE.weaken (pe_xf T hno hz hf he hb) fun σ H Q ⟨⟨h1, ws, h2, h3⟩, s, f, y, hs, hy, k⟩ => by
    obtain ⟨v, l, r⟩ := repF_lookup h3 hy
    exact ⟨.ref a, h1, rfl, rfl, dd, ws, v, rfl, h2, l, k v H Z0 r (fr0 H)⟩
/-- isinstance(err, c) -/
def rIsX (K : PySem.W.Frag) (D a dd : Addr) : List V → Hp → VK → Prop := fun xs H Q => ∃ (c : V) (cv : Value) (b : Bool) (ws : List (Str × V)), xs = [.ref a, c] ∧ (∀ u, RelV c u → u = cv) ∧ PySem.W.kitOne K (.ref D) cv = some b ∧ H dd = some (.xd ws) ∧ Q (.bl b) H
theorem call_isX (T : L2.ExcC X.K C) (hz : Zc (.ref C) (some dd) oe) (hf : ∃ vs, oe.data = .fields vs) : CallR (X.suite a ((a, oe) :: pn)) (.builtin "isinstance") (rIsX X.K C a dd) := by
  intro pins s σ H xs us Q I r h
  obtain ⟨c, cv, b, ws, rfl, hcv, e, hd, q⟩ := h
  cases r with
  | cons rx rr =>
    cases rr with
    | cons rt rr =>
      cases rr
      cases rx
      have ec := hcv _ rt
      subst ec
      obtain ⟨hget, _⟩ := I.pin (a, oe) (List.mem_append.mpr (.inl List.mem_cons_self))
      obtain ⟨vs, hv⟩ := hf
      obtain ⟨mA, hns, hr⟩ := (show ObjOk X.prog X.w H s.heap dd (.xd ws) from I.hok dd _ hd)
      obtain ⟨od, ho, hl⟩ := lookIn_ns hns
      have J : PySem.W.InstAt s.heap a oe C (some od) := ⟨hget, hz.1, by unfold PySem.W.notCls; rw [hv] <;> rfl, by rw [hz.2]; exact ho⟩
      obtain ⟨cd, hc, _⟩ := PySem.W.any_some T.hd
      exact PySem.W.kia_one (PySem.W.kitx_exc (by rw [hc]; rfl) T.hg T.hk T.hs T.ha T.hn T.ht T.hm) I.kIn J e (fun z => nomatch z) fun tk => ⟨.bl b, H, I.kept (t' := tk) fun _ _ z => z, rfl, q⟩
theorem su_isX {c : Expr} {cV : V} {cv : Value} {b : Bool} (T : L2.ExcC X.K C) (hz : Zc (.ref C) (some dd) oe) (hf : ∃ vs, oe.data = .fields vs) (he : PE (X.suite a ((a, oe) :: pn)) (.Name x p) (tVar i)) (hg : Gl X "isinstance") (hm : X.mg "isinstance" = none)
    (hc : PE (X.suite a ((a, oe) :: pn)) c (tC cV)) (hcv : ∀ u, RelV cV u → u = cv) (hk : PySem.W.kitOne X.K (.ref C) cv = some b)
    (e1 : starEach [.Name x p, c] X.env = (false, eval (.Name x p) X.env) :: starEach [c] X.env := by rfl) (e2 : (backTo pos (starEach [c] X.env)).any (·.1) = false := by rfl) (e3 : starEach [c] X.env = (false, eval c X.env) :: starEach [] X.env := by rfl) :
    SU (X.suite a ((a, oe) :: pn)) (ZE X.K i a dd fs) (.Call (.Name "isinstance" p2) [.Name x p, c] [] pos) (uC (.bl b)) :=
  PE.weaken (pe_callB (call_isX T hz hf) hg hm (by decide +kernel) (pa_cons he (pa_cons hc pa_nil e3) e1) (by decide) (by decide) e1 e2) fun σ H Q ⟨⟨h1, ws, h2, h3⟩, s, f, y, hs, hy, k⟩ => by
    cases (Option.some.inj hy)
    exact ⟨.ref a, h1, cV, cv, b, ws, rfl, hcv, hk, h2, k _ H Z0 rep_bl (fr0 H)⟩
end
/-! ### try -/
def mTry (cat : XV → Option Bool) (i : Nat) (b : MS) (h : XV → Sl → UO) : MS := fun s => match b s with
  | .exc x s' => match cat x with
    | some true => if i < s'.length then (match h x (s'.set i none) with
      | .ret y => .rt y (s'.set i none)
      | .nx => .nx (s'.set i none)
      | .bad => .bad) else .bad
    | some false => .exc x s'
    | none => .bad
  | o => o
section
variable {X : Cx} {W : WX} {pn : List Nat} {x n : Str} {c : Value} {body suite : List Stmt} {b₀ : Stmt} {np pos pos' : Pos} {b : MS} {cat : XV → Option Bool} {h : XV → Sl → UO}
theorem ss_try (i : Nat) (hs : X.stack = X.env :: X.outer) (hf : X.env.frame = some X.env.locals) (hN : X.N.Nodup) (hi : X.N[i]? = some n) (hln : X.env.kindOf n = some .local) (hc : Names X x c) (tk : Takes X W) (hpi : ∀ j ∈ pn, j ∉ [i])
    (hcat : ∀ (y : XV) (C : Addr) (r : Bool), cat y = some r → X.mg y.cls = some (.ref C) → PySem.W.exmOne X.K (.ref C) c = some r)
    (hb : ∀ (W : WX) (pn' : List (Addr × Obj)) (xe : Value → Shared → Prop), Takes (X.tr pn' xe) W → PassesOwn (model X.prog X.w) X.A X.env xe → SSs (X.tr pn' xe) W pn body b)
    (hsu : ∀ (y : XV) (a C dd : Addr) (oe : Obj) (pn' : List (Addr × Obj)), cat y = some true → X.mg y.cls = some (.ref C) → Zc (.ref C) (some dd) oe → (∃ vs, oe.data = .fields vs) → USs (X.suite a ((a, oe) :: pn')) (ZE X.K i a dd y.fs) (b₀ :: suite) (h y)) :
    SS X W pn (.Try body [.ExceptHandler (some (.Name x np)) (some n) (b₀ :: suite) pos'] [] [] pos) (mTry cat i b h) := by
  refine PS.weaken' (ps_try_as (c := c) (tb := fun W' => rdS X W' pn b) (ts := fun a cls d D σ H => ∃ y C dd, cat y = some true ∧ X.mg y.cls = some (.ref C) ∧ cls = .ref C ∧ d = some dd ∧ rdU X (ZE X.K i a dd y.fs) (h y) D σ H) (Wout := W) hs hf hN hi hln hc tk (fun W' pn' xe tk' po => hb W' pn' xe tk' po)
    (fun a oe cls d pn' hz hfl => ⟨fun pins s σ H D I q => ?_⟩)) fun D σ H q => ?_
  · obtain ⟨y, C, dd, hy, hC, rfl, rfl, q⟩ := q
    exact (hsu y a C dd oe pn' hy hC hz hfl).run pins s σ H D I q
  · obtain ⟨s, f, h1, h2, h3⟩ := q
    refine ⟨s, f, h1, h2, ?_⟩
    unfold mTry at h3
    cases eb : b s with
    | nx s' => rw [eb] at h3; exact h3
    | bk s' => rw [eb] at h3; exact h3
    | ct s' => rw [eb] at h3; exact h3
    | rt y s' => rw [eb] at h3; exact h3
    | bad => rw [eb] at h3; exact h3
    | exc y s' =>
      rw [eb] at h3
      dsimp only at h3
      intro cls d σ' H' f' p1 xr sl le fr
      obtain ⟨C, dd, ws, hC, rfl, rfl, hd, hfs⟩ := xr
      cases ec : cat y with
      | none => rw [ec] at h3; exact h3.elim
      | some r =>
        rw [ec] at h3
        refine ⟨r, hcat y C r ec hC, fun er a na => ?_, fun er => ?_⟩
        · subst er
          dsimp only at h3
          have hiN : i < X.N.length := (List.getElem?_eq_some_iff.mp hi).1
          obtain ⟨f2, k1, k2⟩ := sl.forget i
          have pset : ∀ o, PinE pn σ (σ'.set i o) := fun o => p1.trans ⟨List.length_set, fun j hj => List.getElem?_set_ne (fun z => hpi j hj (by simp [z]))⟩
          by_cases hlt : i < s'.length
          · rw [if_pos hlt] at h3
            have k3 : SLR X.K H' (s'.set i none) (σ'.set i (some (.ref a))) f2 := SLR.setNone _ k1 (getElem?_set_none hlt)
            have hσ : (σ'.set i (some (V.ref a)))[i]? = some (some (.ref a)) := List.getElem?_set_self (by rw [sl.length]; exact hlt)
            refine ⟨y, C, dd, ec, hC, rfl, rfl, ⟨hσ, ws, hd, hfs⟩, s'.set i none, f2, k3, fun b => by have := k2 b; have := le b; omega, ?_⟩
            cases eh : h y (s'.set i none) with
            | bad => rw [eh] at h3; exact h3
            | ret z =>
              rw [eh] at h3
              intro v H2 g rv frv
              have sl2 : SLR X.K H2 (s'.set i none) σ' f2 := k1.keptZ frv.keep
              refine h3 v σ' H2 g f2 p1 rv sl2 (fun b => ?_) ⟨fun b o e z => frv.keep b o (fr.keep b o e z), fun b o e z => ?_⟩
              · by_cases hb : g b = 0
                · have := k2 b; have := le b; omega
                · have n0 := frv.new b hb
                  have : f2 b = 0 := live_of k1 n0
                  have := frv.le b
                  omega
              · have y1 := fr.own b o e z
                have : g b = 0 := by
                  refine Classical.byContradiction fun c => ?_
                  have n0 := frv.new b c
                  rw [fr.keep b o e z] at n0; cases n0
                have := k2 b
                show g b + f2 b = 0
                omega
            | nx =>
              rw [eh] at h3
              intro H2 kk
              have k4 : SLR X.K H2 (s'.set i none) ((σ'.set i (some (.ref a))).set i none) f2 := by
                have := SLR.setNone none (k3.keptZ kk) (getElem?_set_none hlt)
                exact this
              refine h3 _ H2 f2 ?_ k4 (fun b => by have := k2 b; have := le b; omega) ⟨fun b o e z => kk b o (fr.keep b o e z), fun b o e z => by have := fr.own b o e z; have := k2 b; omega⟩
              rw [List.set_set]
              exact pset none
          · rw [if_neg hlt] at h3; exact h3.elim
        · subst er
          exact h3 (.ref C) (some dd) σ' H' f' p1 ⟨C, dd, ws, hC, rfl, rfl, hd, hfs⟩ sl le fr
end
end Bv
set_option maxHeartbeats 1000000
namespace Bv
open PySem PySem.Spec PyProof.Rows L2
/-! ### x * k -/
theorem tuple_mul1 (l : Addr) (items : Array Value) (n : Nat) (sl : Array (Option Value)) (dd : Option Addr) (x : Int) (u : Tok) (c0 : (decide (x < -(2 ^ 63)) || decide (x ≥ 2 ^ 63)) = false) (c1 : (items.isEmpty || x == 1) = true) :
    Meets (Builtin.«tuple.__mul__» ⟨[.ref l, .int x u], []⟩) (fun _ R s => s.heap.get? l = some { cls := .type "tuple", dict := dd, data := .seq items n, slots := sl } ∧ R (.ok (.ret (Value.ref l))) s) :=
  .of_wp fun prog w A R s h => by
    obtain ⟨hp, g, d, tk, os⟩ := s
    obtain ⟨hl, h⟩ := h
    have f1 := AutoSeq1.idx_int
    wp_walk using wpAny_loadPart' hl
    repeat (first
      | (refine wpAny_ite_false (decide_eq_false (by rw [c0]; exact Bool.false_ne_true)) ?_; wp_walk using wpAny_loadPart' hl)
      | (refine wpAny_ite_true (decide_eq_true c1) ?_; wp_walk using wpAny_loadPart' hl)
      | (refine wpAny_ite_true c1 ?_; wp_walk using wpAny_loadPart' hl)
      | (rw [if_pos c1]; wp_walk using wpAny_loadPart' hl))
    exact ⟨_, rfl, h⟩
theorem tuple_mul0 (l : Addr) (items : Array Value) (n : Nat) (sl : Array (Option Value)) (dd : Option Addr) (x : Int) (u : Tok) (c0 : (decide (x < -(2 ^ 63)) || decide (x ≥ 2 ^ 63)) = false) (c1 : (items.isEmpty || x == 1) = false) (c2 : (decide (x ≤ 0) || items.isEmpty) = true) :
    Meets (Builtin.«tuple.__mul__» ⟨[.ref l, .int x u], []⟩) (fun _ R s => s.heap.get? l = some { cls := .type "tuple", dict := dd, data := .seq items n, slots := sl } ∧
      R (.ok (.ret (Value.ref s.heap.objs.size))) { s with heap := s.heap.push { cls := Value.type "tuple", data := Data.seq #[] }, toks := s.toks }) :=
  .of_wp fun prog w A R s h => by
    obtain ⟨hp, g, d, tk, os⟩ := s
    obtain ⟨hl, h⟩ := h
    have f1 := AutoSeq1.idx_int
    wp_walk using wpAny_loadPart' hl
    repeat (first
      | (refine wpAny_ite_false (decide_eq_false (by rw [c0]; exact Bool.false_ne_true)) ?_; wp_walk using wpAny_loadPart' hl)
      | (refine wpAny_ite_false (decide_eq_false (by rw [c1]; exact Bool.false_ne_true)) ?_; wp_walk using wpAny_loadPart' hl)
      | (refine wpAny_ite_true (decide_eq_true c2) ?_; wp_walk using wpAny_loadPart' hl)
      | (rw [if_pos c2]; wp_walk using wpAny_loadPart' hl))
    exact ⟨_, rfl, h⟩
def repS (x : Str) (k : Int) : Str := if k < 1 then Str.empty else if (k == 1 || x.length == 0) = true then x else ⟨(List.replicate k.toNat x.cps).foldl (· ++ ·) #[]⟩
def rMul2 (K : PySem.W.Frag) : R2 := fun x y H Q => rMulAll K x y H Q ∨
  (∃ l k xs, x = .ref l ∧ y = .int k ∧ SqT K H l xs ∧ -1000 ≤ k ∧ k ≤ 1000 ∧ (xs = [] ∨ k = 1) ∧ Q (.ref l) H) ∨
  (∃ l k xs, x = .ref l ∧ y = .int k ∧ SqT K H l xs ∧ -1000 ≤ k ∧ k ≤ 0 ∧ xs ≠ [] ∧ ∀ p, H p = none → Q (.ref p) (upd H p (.tup []))) ∨
  (∃ z k, x = .str z ∧ y = .int k ∧ z.length ≤ 10 ∧ -1000000 ≤ k ∧ k ≤ 1000000 ∧ Q (.str (repS z k)) H)
theorem foldl_app (x : Array Nat) : ∀ (k : Nat) (acc : Array Nat), ((List.replicate k x).foldl (· ++ ·) acc).size = acc.size + k * x.size
  | 0, acc => by simp
  | k + 1, acc => by
    rw [List.replicate_succ, List.foldl_cons, foldl_app x k, Array.size_append, Nat.succ_mul]
    omega
section
variable {X : Cx}
theorem op_mul2 : OpR X (binaryOp .Mult) (rMul2 X.K) := by
  intro pins s σ H x y v u Q I rx ry h
  rcases h with h | ⟨l, k, xs, rfl, rfl, hT, h1, h2, h3, q⟩ | ⟨l, k, xs, rfl, rfl, hT, h1, h2, h3, q⟩ | ⟨z, k, rfl, rfl, hz, h1, h2, q⟩
  · exact op_mulAll pins s σ H x y v u Q I rx ry h
  · cases rx
    obtain ⟨t, rfl⟩ := ry
    obtain ⟨its, r, ⟨⟨cls, dd, data, sl⟩, ho, hc, n, hd⟩, hs⟩ := I.tuple hT
    simp only at hc hd
    subst hc hd
    have hle : its.length = xs.length := r.length.symm
    have c0 : (decide (k < -(2 ^ 63)) || decide (k ≥ 2 ^ 63)) = false := by
      rw [decide_eq_false (by omega), decide_eq_false (by omega)] <;> rfl
    have c1 : (its.toArray.isEmpty || k == 1) = true := by
      rcases h3 with e | e
      · subst e
        have : its = [] := List.eq_nil_of_length_eq_zero hle
        subst this
        rfl
      · subst e; simp
    exact wpAny_binaryOp_repeat_ref (T := "tuple") (U := "int") (by decide) ⟨_, ho, rfl⟩ (fun s' => typeIs_int s' k t) noFill_tuple_mul F.fills_int_mul F.slot_int_rmul repeat_tuple F.slot_int_index.lookup
      (call_meets F.slot_int_rmul (typeIs_int s k t) F.entry_int_rmul (F.args_int_rmul_2 _ _) (int_rmul_tuple k t l its.toArray n dd sl)
        ⟨ho, rfl, ⟨_, ho, rfl⟩, call_meets F.slot_tuple_mul ⟨_, ho, rfl⟩ F.entry_tuple_mul (F.args_tuple_mul_2 _ _) (tuple_mul1 l its.toArray n sl dd k t c0 c1) ⟨ho, ⟨.ref l, H, I, rfl, q⟩⟩⟩)
  · cases rx
    obtain ⟨t, rfl⟩ := ry
    obtain ⟨its, r, ⟨⟨cls, dd, data, sl⟩, ho, hc, n, hd⟩, hs⟩ := I.tuple hT
    simp only at hc hd
    subst hc hd
    have hle : its.length = xs.length := r.length.symm
    have c0 : (decide (k < -(2 ^ 63)) || decide (k ≥ 2 ^ 63)) = false := by
      rw [decide_eq_false (by omega), decide_eq_false (by omega)] <;> rfl
    have hi : its.toArray.isEmpty = false := by
      cases its with
      | nil => exact absurd (List.eq_nil_of_length_eq_zero hle.symm) h3
      | cons a b => rfl
    have c1 : (its.toArray.isEmpty || k == 1) = false := by
      rw [hi, Bool.false_or]
      exact beq_eq_false_iff_ne.mpr (by omega)
    have c2 : (decide (k ≤ 0) || its.toArray.isEmpty) = true := by rw [decide_eq_true h2, Bool.true_or]
    refine wpAny_binaryOp_repeat_ref (T := "tuple") (U := "int") (by decide) ⟨_, ho, rfl⟩ (fun s' => typeIs_int s' k t) noFill_tuple_mul F.fills_int_mul F.slot_int_rmul repeat_tuple F.slot_int_index.lookup
      (call_meets F.slot_int_rmul (typeIs_int s k t) F.entry_int_rmul (F.args_int_rmul_2 _ _) (int_rmul_tuple k t l its.toArray n dd sl)
        ⟨ho, rfl, ⟨_, ho, rfl⟩, call_meets F.slot_tuple_mul ⟨_, ho, rfl⟩ F.entry_tuple_mul (F.args_tuple_mul_2 _ _) (tuple_mul0 l its.toArray n sl dd k t c0 c1 c2) ⟨ho, ?_⟩⟩)
    refine ⟨.ref s.heap.objs.size, _, I.laid (t' := s.toks) (o := .tup []) (fun b ob q => Heap.get?_push_of_some _ q) (Nat.le_refl _) ?_, rfl, q _ (I.hok.fresh (Nat.le_refl _))⟩
    exact ⟨Nat.zero_le _, [], .nil, IsTup.new _ _⟩
  · obtain ⟨t, rfl⟩ := rx
    obtain ⟨t', rfl⟩ := ry
    have hs : sizeLine = 16777216 := sizeLine_eq
    refine P.mul_str ?_ (fun hk he => ?_) (fun hk he => ?_) ?_
    · rw [decide_eq_false (by omega), decide_eq_false (by omega)] <;> rfl
    · have : (10 : Int) ≤ (2 ^ 63 - 1) / k := by
        rw [Int.le_ediv_iff_mul_le (by omega)]
        omega
      omega
    · unfold Builtin.Str.tooLong
      have : z.length * k.toNat ≤ 10 * 1000000 := Nat.mul_le_mul hz (by omega)
      exact decide_eq_false (by omega)
    · unfold repS at q
      by_cases hk : k < 1
      · rw [if_pos hk] at q ⊢
        exact ⟨by decide, .str Str.empty, H, I.tok _, ⟨_, rfl⟩, q⟩
      · rw [if_neg hk] at q ⊢
        by_cases he : (k == 1 || z.length == 0) = true
        · rw [if_pos he] at q ⊢
          exact ⟨.str z, H, I, ⟨_, rfl⟩, q⟩
        · rw [if_neg he] at q ⊢
          refine ⟨?_, .str _, H, I.tok _, ⟨_, rfl⟩, q⟩
          show ((List.replicate k.toNat z.cps).foldl (· ++ ·) #[]).size ≤ sizeLine
          rw [foldl_app]
          have : k.toNat * z.cps.size ≤ 1000000 * 10 := Nat.mul_le_mul (by omega) hz
          have e0 : (#[] : Array Nat).size = 0 := rfl
          omega
end
noncomputable def pMul2 : List PV → Option PV
  | [.int a, .int b] => pMul [.int a, .int b]
  | [.tup xs, .int k] => @ite _ (PV.owns xs = false ∧ xs.length ≤ 1000 ∧ -1000 ≤ k ∧ k ≤ 1000) (Classical.propDecidable _) (some (.tup (List.replicate k.toNat xs).flatten)) none
  | [.str x, .int k] => @ite _ (x.length ≤ 10 ∧ -1000000 ≤ k ∧ k ≤ 1000000) (Classical.propDecidable _) (some (.str (repS x k))) none
  | _ => none
section
variable {K : PySem.W.Frag}
theorem vo_mul2 : VOp K pMul2 (r2L (rMul2 K)) := by
  intro H xs vs z Q hr hf q
  match xs, hf with
  | [.int a, .int b], hf =>
    obtain ⟨x, y, e, h⟩ := vo_mul H [.int a, .int b] vs z Q hr hf q
    exact ⟨x, y, e, .inl h⟩
  | [.tup as, .int k], hf =>
    simp only [pMul2] at hf
    split at hf
    · rename_i hc
      obtain ⟨n1, n2, n3, n4⟩ := hc
      cases hf
      by_cases h2 : as = [] ∨ k = 1
      · obtain ⟨v, w, g, l, rfl, ra, ⟨rfl, _⟩⟩ := rw2 hr
        obtain ⟨a, va, rfl, ha, za, sa⟩ := ra.tupAt
        have ta := sa.seq n1
        have e : (List.replicate k.toNat as).flatten = as := by
          rcases h2 with h2 | h2
          · subst h2; simp
          · subst h2; simp
        rw [e] at q
        refine ⟨_, _, rfl, .inr (.inl ⟨a, k, va, rfl, rfl, ha, n3, n4, ?_, q _ H Z0 ⟨a, va, rfl, ha, za, ta.reps⟩ (fr0 H)⟩)⟩
        rcases h2 with h2 | h2
        · subst h2; exact .inl (List.length_eq_zero_iff.mp ta.len)
        · exact .inr h2
      · have hne : as ≠ [] := fun e => h2 (.inl e)
        have hk1 : k ≠ 1 := fun e => h2 (.inr e)
        by_cases h0 : k ≤ 0
        · obtain ⟨v, w, g, l, rfl, ra, ⟨rfl, _⟩⟩ := rw2 hr
          obtain ⟨a, va, rfl, ha, za, sa⟩ := ra.tupAt
          have ta := sa.seq n1
          have e : (List.replicate k.toNat as).flatten = [] := by
            have : k.toNat = 0 := by omega
            rw [this]; rfl
          rw [e] at q
          refine ⟨_, _, rfl, .inr (.inr (.inl ⟨a, k, va, rfl, rfl, ha, n3, h0, fun e => hne (by subst e; exact List.length_eq_zero_iff.mp ta.len.symm), fun p np => ?_⟩))⟩
          exact q _ _ Z0 ⟨p, [], rfl, SqT.of upd_same, Nat.zero_le _, ⟨rfl, fun _ => rfl⟩⟩ (Fresh.upd np fun b => Nat.zero_le _)
        · have hf : pMul [.tup as, .int k] = some (.tup (List.replicate k.toNat as).flatten) := by
            simp only [pMul]
            rw [if_pos ⟨n1, hne, n2, by omega, n4⟩]
          obtain ⟨x, y, e, h⟩ := vo_mul H [.tup as, .int k] vs _ Q hr hf q
          exact ⟨x, y, e, .inl h⟩
    · cases hf
  | [.str x, .int k], hf =>
    obtain ⟨v, w, g, l, rfl, ⟨rfl, _⟩, ⟨rfl, _⟩⟩ := rw2 hr
    simp only [pMul2] at hf
    split at hf
    · rename_i hc
      cases hf
      exact ⟨_, _, rfl, .inr (.inr (.inr ⟨x, k, rfl, rfl, hc.1, hc.2.1, hc.2.2, q _ H Z0 rep_str (fr0 H)⟩))⟩
    · cases hf
/-! ### x[::-1] -/
end
end Bv
set_option maxHeartbeats 1000000
namespace Bv
open PySem PySem.Spec PyProof.Rows L2
section
variable {X : Cx} {W : WX} {e : Expr} {p1 p2 p3 pos : Pos} {k : Nat}
/-! ### x[::-1] -/
/-! ### sum -/
def rSum2 (K : PySem.W.Frag) : List V → Hp → VK → Prop := fun vs H Q => rSum K vs H Q ∨ ∃ (a : Addr) (ns : List Int), vs = [V.ref a] ∧ SqT K H a (ns.map V.int) ∧ Q (.int ns.sum) H
theorem preSum_take (ns : List Int) : ∀ n, n ≤ ns.length → preSum (fun i => ns.getD i 0) n = (ns.take n).sum
  | 0, _ => rfl
  | n + 1, h => by
    have e : ns.getD n 0 = ns[n] := by rw [List.getD_eq_getElem?_getD, List.getElem?_eq_getElem (by omega)] <;> rfl
    rw [L2.sum_take (List.getElem?_eq_getElem (show n < ns.length by omega)), ← preSum_take ns n (by omega), ← e]
    rfl
theorem call_sum2 (hc : X.calm = true) : CallR X (.builtin "sum") (rSum2 X.K) := by
  intro pins s σ H xs us Q I r h
  rcases h with h | ⟨a, ns, rfl, ha, q⟩
  · exact cr_sum hc pins s σ H xs us Q I r h
  · obtain ⟨u, rfl, rx⟩ := vals1 r
    cases rx
    obtain ⟨its, rv, ht, hz⟩ := I.tuple ha
    have hlen : its.length = ns.length := by rw [← rv.length, List.length_map]
    have hh : X.A.in1.handled = none := I.ok.hd hc
    refine call_sum_walkG (wpAny_pyIter_tuple (show s.heap.IsTuple a its.toArray from ht) ?_)
    obtain ⟨oa, hoa, _⟩ := id ht
    have hne : a ≠ s.heap.objs.size := Nat.ne_of_lt (Heap.lt_size hoa)
    refine ⟨s.heap.objs.size, _, _, _, _, _, fun i => ns.getD i 0, rfl, Walks.tuple hh s.heap.objs.size a hne its.toArray, ⟨⟨_, Heap.get?_push_size _ rfl, rfl, rfl⟩, ht.keeps fun _ _ e => Heap.get?_push_of_some _ e⟩, fun b hb => ?_, fun i v hv => ?_, fun h' tk t' hk => ?_⟩
    · have hb : b = s.heap.objs.size ∨ b = a := by simpa using hb
      show b < (s.heap.push _).objs.size
      rw [Heap.size_push]
      rcases hb with e | e
      · rw [e]; exact Nat.lt_succ_self _
      · have := Heap.lt_size hoa; rw [e]; exact Nat.lt_succ_of_lt this
    · have hv : its[i]? = some v := by simpa using hv
      have hi : i < its.length := (List.getElem?_eq_some_iff.mp hv).1
      obtain ⟨w, hw, t, e⟩ := rv.get (i := i) (x := V.int (ns.getD i 0)) (by
        have hi' : i < ns.length := by omega
        rw [List.getElem?_map, List.getD_eq_getElem?_getD, List.getElem?_eq_getElem (by omega)]; rfl)
      rw [hv] at hw
      cases hw
      exact ⟨t, e⟩
    · rw [show its.toArray.size = ns.length by rw [List.size_toArray, hlen], preSum_take ns ns.length (Nat.le_refl _), List.take_length]
      refine ⟨.int ns.sum, H, I.kept (t' := tk) fun b o e => hk b o (fun hm => ?_) (Heap.get?_push_of_some _ e), ⟨_, rfl⟩, q⟩
      have hm : b = s.heap.objs.size := by simpa using hm
      exact absurd (Heap.lt_size e) (by rw [hm]; exact Nat.lt_irrefl _)
def pSum1 : PV → Option PV
  | .lst _ xs => (intsP xs).map fun ns => .int ns.sum
  | .tup xs => (intsP xs).map fun ns => .int ns.sum
  | _ => none
def pSum := Bv.p1 pSum1
theorem vo_sum {K : PySem.W.Frag} : VOp K pSum (rSum2 K) := by
  refine vo1 fun H x v g z Q r hf q => ?_
  cases x with
  | lst o ys =>
    simp only [pSum1, Option.map_eq_some_iff] at hf
    obtain ⟨bs, e, rfl⟩ := hf
    obtain ⟨a, va, ga, rfl, ha, za, sa⟩ := r.lstAt
    exact .inl ⟨a, bs, rfl, by rw [← ints_ok e sa]; exact ha, q _ H Z0 rep_int (fr0 H)⟩
  | tup ys =>
    simp only [pSum1, Option.map_eq_some_iff] at hf
    obtain ⟨bs, e, rfl⟩ := hf
    obtain ⟨a, va, rfl, ha, za, sa⟩ := r.tupAt
    exact .inr ⟨a, bs, rfl, by rw [← ints_ok e sa]; exact ha, q _ H Z0 rep_int (fr0 H)⟩
  | _ => simp [pSum1] at hf
/-! ### methods of texts -/
def mStr1 (f : List PV → Option PV) (mo : M PV) (oe : M Pnd) : M PV := fun s => (mo s).bind fun x s1 => match x with
  | .str a => (oe s1).bind fun p s2 => (match Pnd.gets s2 [.val (.str a), p] with
    | some xs => (match f xs with | some z => .ok z s2 | none => .bad)
    | none => .bad)
  | _ => .bad
theorem str1_end {f : List PV → Option PV} {r : V → List V → Hp → VK → Prop} {mo : M PV} {oe : M Pnd} (vo : VOp X.K f (fun vs H Q => ∃ x y, vs = [x, y] ∧ r x [y] H Q)) {σ : L2.St} {H : Hp} {Q : VK} (q : rdG (Rep X.K) X W (mStr1 f mo oe) σ H Q) :
    tM1 r (rdG (Rep X.K) X W mo) (fun σ H Q => rdG (PRep X.K σ) X W oe σ H Q) σ H Q := by
  refine rdG.bind (ρ := Rep X.K) q fun F x s1 v H1 g f1 h0 h1 h2 h3 h4 h5 => ?_
  cases x with
  | str a =>
    refine ⟨⟨a, h1.1⟩, ?_⟩
    have h1' : PRep X.K σ H1 (.val (.str a)) v g := h1
    refine rdG.next (ρ := PRep X.K σ) (stable_prep X.K σ) h1' h2 h3 h4 h5 fun p s2 w H2 g2 f2 k1 k2 k3 k4 k5 k6 => ?_
    obtain ⟨x', y', e, hq⟩ := op_end (r := fun vs H Q => ∃ x y, vs = [x, y] ∧ r x [y] H Q) vo (g := fun b => g b + g2 b) (ps := [.val (.str a), p]) (vs := [v, w]) ⟨v, [w], g, g2, rfl, k1, ⟨w, [], g2, Z0, rfl, k2, ⟨rfl, fun _ => rfl⟩, fun _ => rfl⟩, fun _ => rfl⟩ k3 k4 k5 k6
    cases e
    exact hq
  | _ => exact h5.elim
def pSplit : List PV → Option PV
  | [.str a, .str b] => if (b.length == 0) = false ∧ a.length + 2 ≤ LIM ∧ (Txt.split a b).length ≤ LIM then some (.lst true ((Txt.split a b).map .str)) else none
  | _ => none
theorem seq_strs {K : PySem.W.Frag} {H : Hp} (ys : List Str) : Seq0 K H (ys.map PV.str) (ys.map V.str) := by
  refine ⟨by simp, fun i x v h1 h2 => ?_⟩
  rw [List.getElem?_map] at h1 h2
  cases e : ys[i]? with
  | none => rw [e] at h1; cases h1
  | some y =>
    rw [e] at h1 h2
    cases h1
    cases h2
    exact rep_str
theorem vo_split {K : PySem.W.Frag} : VOp K pSplit (fun vs H Q => ∃ x y, vs = [x, y] ∧ (fun x xs H Q => ∃ a b, x = .str a ∧ xs = [.str b] ∧ (b.length == 0) = false ∧ a.length + 2 ≤ sizeLine ∧ rNewStrs (Txt.split a b) H Q) x [y] H Q) := by
  intro H xs vs z Q hr hf q
  match xs, hf with
  | [.str a, .str b], hf =>
    obtain ⟨v, w, g, k, rfl, ⟨rfl, _⟩, ⟨rfl, _⟩⟩ := rw2 hr
    simp only [pSplit] at hf
    split at hf
    · rename_i hc
      cases hf
      refine ⟨_, _, rfl, a, b, rfl, rfl, hc.1, by rw [lim_eq]; exact hc.2.1, fun p np => ?_⟩
      obtain ⟨r, f⟩ := newLst (seq_strs (Txt.split a b)) (by rw [List.length_map, lim_eq]; exact hc.2.2) np
      exact q _ _ _ r f
    · cases hf
variable {a : Expr} {mo : M PV} {oe : M Pnd} {apos : Pos}
theorem se_split (ho : SE X W e mo) (he : SO X W a oe) (hs : starEach [a] X.env = [(false, eval a X.env)] := by rfl) (hbase : attributeBase e "split" X.env (eval e X.env) = eval e X.env := by rfl) (hline : (apos.endLine == pos.line) = true := by rfl) :
    SE X W (.Call (.Attribute e "split" apos) [a] [] pos) (mStr1 pSplit mo oe) := PE.weaken (pe_split ho he hs hbase hline) fun σ H Q q => str1_end vo_split q
end
end Bv
set_option maxHeartbeats 1000000
namespace Bv
open PySem PySem.Spec PyProof.Rows L2
abbrev pLt : Int → Int → Bool := fun i j => decide (i < j)
abbrev pLe : Int → Int → Bool := fun i j => decide (i ≤ j)
abbrev pGt : Int → Int → Bool := fun i j => decide (j < i)
abbrev pGe : Int → Int → Bool := fun i j => decide (j ≤ i)
theorem bt_len : bootBuiltins "len" = some (.builtin "len") := by decide +kernel
theorem bt_abs : bootBuiltins "abs" = some (.builtin "abs") := by decide +kernel
theorem bt_all : bootBuiltins "all" = some (.builtin "all") := by decide +kernel
theorem bt_any : bootBuiltins "any" = some (.builtin "any") := by decide +kernel
theorem bt_sum : bootBuiltins "sum" = some (.builtin "sum") := by decide +kernel
theorem bt_int : bootBuiltins "int" = some (.type "int") := by decide +kernel
theorem bt_str : bootBuiltins "str" = some (.type "str") := by decide +kernel
theorem bt_bool : bootBuiltins "bool" = some (.type "bool") := by decide +kernel
theorem bt_list : bootBuiltins "list" = some (.type "list") := by decide +kernel
theorem bt_tuple : bootBuiltins "tuple" = some (.type "tuple") := by decide +kernel
theorem bt_ve : bootBuiltins "ValueError" = some (.type "ValueError") := by decide +kernel
theorem hu64 {k : Nat} {A : Around} (hr : Room k A) : A.units + 64 < cLine := hr.units
theorem hu65 {k : Nat} {A : Around} (hr : Room k A) : A.units + 65 < cLine := by have := hr.un; omega
end Bv
set_option maxHeartbeats 1000000
namespace Bv
open PySem PySem.Spec PyProof.Rows L2
theorem hu64s {k : Nat} {A : Around} {h : Option Value} (hr : Room k A) : (A.mark h).units + 64 < cLine := hr.units
/-- which classes a clause takes -/
def catOf (l : List (Str × Bool)) (y : XV) : Option Bool := l.lookup y.cls
inductive CatC (K : PySem.W.Frag) (mg : Str → Option Value) (c : Value) : List (Str × Bool) → Prop where
  | nil : CatC K mg c []
  | cons {x : Str} {r : Bool} {a : Addr} {l : List (Str × Bool)} (hm : mg x = some (.ref a)) (he : PySem.W.exmOne K (.ref a) c = some r) (t : CatC K mg c l) : CatC K mg c ((x, r) :: l)
theorem cat_ok {K : PySem.W.Frag} {mg : Str → Option Value} {c : Value} : ∀ {l : List (Str × Bool)}, CatC K mg c l → ∀ (y : XV) (C : Addr) (r : Bool), catOf l y = some r → mg y.cls = some (.ref C) → PySem.W.exmOne K (.ref C) c = some r
  | _, .nil, y, C, r, h, _ => by simp [catOf] at h
  | _, .cons (x := x) (l := l) hm he t, y, C, r, h, hC => by
    unfold catOf at h
    simp only [List.lookup] at h
    cases hb : (y.cls == x) with
    | true =>
      rw [hb] at h
      have e : y.cls = x := by simpa using hb
      rw [e, hm] at hC
      cases hC
      cases h
      exact he
    | false =>
      rw [hb] at h
      exact cat_ok t y C r h hC
def byCls (l : List (Str × (XV → Sl → UO))) (y : XV) : Sl → UO := match l.lookup y.cls with | some f => f y | none => fun _ => .bad
inductive USsC (X : Cx) (Z : XV → Addr → Addr → L2.St → Hp → Prop) (body : List Stmt) : List (Str × (XV → Sl → UO)) → Prop where
  | nil : USsC X Z body []
  | cons {x : Str} {m : XV → Sl → UO} {l : List (Str × (XV → Sl → UO))} (h : ∀ (y : XV) (a C dd : Addr) (oe : Obj) (pn' : List (Addr × Obj)), y.cls = x → X.mg y.cls = some (.ref C) → Zc (.ref C) (some dd) oe → (∃ vs, oe.data = .fields vs) → USs (X.suite a ((a, oe) :: pn')) (Z y a dd) body (m y))
      (t : USsC X Z body l) : USsC X Z body ((x, m) :: l)
theorem addr_of {mg : Str → Option Value} {x : Str} {a C : Addr} {y : XV} (hm : mg x = some (.ref a)) (hy : y.cls = x) (hC : mg y.cls = some (.ref C)) : C = a := by
  rw [hy, hm] at hC
  cases hC
  rfl
theorem byCls_ok0 {X : Cx} {Z : XV → Addr → Addr → L2.St → Hp → Prop} {body : List Stmt} : ∀ {l : List (Str × (XV → Sl → UO))}, USsC X Z body l → ∀ (y : XV) (a C dd : Addr) (oe : Obj) (pn' : List (Addr × Obj)), X.mg y.cls = some (.ref C) → Zc (.ref C) (some dd) oe → (∃ vs, oe.data = .fields vs) → USs (X.suite a ((a, oe) :: pn')) (Z y a dd) body (byCls l y)
  | _, .nil, y, a, C, dd, oe, pn', hC, hz, hf => ⟨fun pins s σ H D I q => by
    obtain ⟨_, s', f', _, _, q⟩ := q
    exact q.elim⟩
  | _, .cons (x := x) (m := m) (l := l) h t, y, a, C, dd, oe, pn', hC, hz, hf => by
    by_cases hb : (y.cls == x) = true
    · have e : byCls ((x, m) :: l) y = m y := by simp only [byCls, List.lookup, hb]
      rw [e]
      exact h y a C dd oe pn' (by simpa using hb) hC hz hf
    · have hb' : (y.cls == x) = false := by simpa using hb
      have e : byCls ((x, m) :: l) y = byCls l y := by simp only [byCls, List.lookup, hb']
      rw [e]
      exact byCls_ok0 t y a C dd oe pn' hC hz hf
theorem byCls_ok {X : Cx} {i : Nat} {body : List Stmt} {cat : XV → Option Bool} {l : List (Str × (XV → Sl → UO))} (_ : True) (h : USsC X (fun y a dd => ZE X.K i a dd y.fs) body l) (y : XV) (a C dd : Addr) (oe : Obj) (pn' : List (Addr × Obj)) (_ : cat y = some true) (hC : X.mg y.cls = some (.ref C)) (hz : Zc (.ref C) (some dd) oe) (hf : ∃ vs, oe.data = .fields vs) :
    USs (X.suite a ((a, oe) :: pn')) (ZE X.K i a dd y.fs) body (byCls l y) := byCls_ok0 h y a C dd oe pn' hC hz hf
end Bv
set_option maxHeartbeats 1000000
namespace Bv
open PySem PySem.Spec PyProof.Rows L2
/-! ### the end -/
def spLawB (K : PySem.W.Frag) : Sp := fun vs H Q _ => ∃ (a : Addr) (ns : List Int), vs = [.ref a] ∧ SqL K H a (ns.map V.int) ∧ ns.length ≤ 63 ∧ ∀ H', Q (.bl true) H'
theorem reps_ints {K : PySem.W.Frag} {H : Hp} : ∀ ns : List Int, Reps K H (ns.map PV.int) (ns.map V.int) Z0
  | [] => ⟨rfl, fun _ => rfl⟩
  | n :: ns => ⟨.int n, ns.map V.int, Z0, Z0, rfl, rep_int, reps_ints ns, fun _ => rfl⟩
theorem law_sp {K : PySem.W.Frag} {mg : Str → Option Value} {C : List PV → CR} (plain : ∀ (o : Bool) (ns : List Int), ns.length ≤ 63 → ∃ ys, C [.lst o (ns.map PV.int)] = .ok (.bl true) ys) (vs : List V) (H : Hp) (Q : VK) (E : XK) (h : spLawB K vs H Q E) : spB K mg 1 C vs H Q E := by
  obtain ⟨a, ns, rfl, hs, hl, q⟩ := h
  have hz : (ns.map PV.int).length ≤ sizeLine := by rw [List.length_map, lim_eq]; unfold LIM; omega
  have fin : ∀ (o : Bool) (f : Fp), Rep K H (.lst o (ns.map PV.int)) (.ref a) f → (∀ b, f b ≤ 1) → spB K mg 1 C [.ref a] H Q E := fun o f r le => by
    obtain ⟨ys, e⟩ := plain o ns hl
    refine ⟨[.lst o (ns.map PV.int)], f, rfl, ⟨.ref a, [], f, Z0, rfl, r, ⟨rfl, fun _ => rfl⟩, fun _ => rfl⟩, le, ?_⟩
    rw [e]
    intro v H' g f' r1 _ _ _
    rw [r1.1]
    exact q H'
  rcases hs with (h | ⟨o, h⟩) | h
  · exact fin true (one a) ⟨a, _, Z0, rfl, h, hz, reps_ints ns, fun b => by simp⟩ fun b => by unfold one; split <;> omega
  · exact fin false Z0 ⟨a, _, rfl, .inl ⟨o, h⟩, hz, reps_ints ns, fun _ => rfl⟩ fun b => Nat.zero_le _
  · exact fin false Z0 ⟨a, _, rfl, .inr h, hz, reps_ints ns, fun _ => rfl⟩ fun b => Nat.zero_le _
theorem no_cx {P : Program} {w : World} (H : Hp) (s : Shared) (e : Value) (s' : Shared) (h : L2.CX P w [] H s (fun _ _ _ => False) e s') : False := by
  obtain ⟨_, _, _, _, _, _, _, _, _, _, _, _, z⟩ := h
  exact z
end Bv
set_option maxHeartbeats 1000000
namespace Bv
open PySem PySem.Spec PyProof.Rows L2
/-! ### reading the semantics off -/
section
variable {α β : Type} (s s' : Sl)
@[simp] theorem then_nx (n : MS) : (Out.nx s).then n = n s := rfl
@[simp] theorem then_rt (n : MS) (x : PV) : (Out.rt x s).then n = .rt x s := rfl
@[simp] theorem then_exc (n : MS) (x : XV) : (Out.exc x s).then n = .exc x s := rfl
@[simp] theorem then_bk (n : MS) : (Out.bk s).then n = .bk s := rfl
@[simp] theorem then_ct (n : MS) : (Out.ct s).then n = .ct s := rfl
@[simp] theorem then_bad (n : MS) : Out.bad.then n = .bad := rfl
@[simp] theorem ap_seq (m n : MS) : mSeq m n s = (m s).then n := Eq.trans rfl rfl
@[simp] theorem ap_nx : mNx s = .nx s := Eq.trans rfl rfl
@[simp] theorem ap_if (c : M Bool) (a b : MS) : mIf c a b s = (c s).out fun d s' => if d then a s' else b s' := Eq.trans rfl rfl
@[simp] theorem ap_asg (m : M PV) (t : PV → Sl → Option Sl) : mAsg m t s = (m s).out fun x s' => match t x s' with | some s2 => .nx s2 | none => .bad := Eq.trans rfl rfl
@[simp] theorem ap_t1 (i : Nat) (x : PV) : t1 i x s = some (s.set i (some x)) := Eq.trans rfl rfl
@[simp] theorem ap_drop (m : M PV) : mDrop m s = (m s).out fun _ s' => .nx s' := Eq.trans rfl rfl
@[simp] theorem ap_ret (m : M PV) : mRet m s = (m s).out fun x s' => .rt x s' := Eq.trans rfl rfl
@[simp] theorem ap_C (x : PV) : mC x s = .ok x s := Eq.trans rfl rfl
@[simp] theorem ap_oE (m : M PV) : oE m s = (m s).bind fun x s' => .ok (.val x) s' := Eq.trans rfl rfl
@[simp] theorem ap_oNil : oNil s = .ok [] s := Eq.trans rfl rfl
@[simp] theorem ap_oCons (o : M Pnd) (os : M (List Pnd)) : oCons o os s = (o s).bind fun p s1 => (os s1).bind fun ps s2 => .ok (p :: ps) s2 := Eq.trans rfl rfl
@[simp] theorem ap_oN (i : Nat) : oN i s = match s[i]? with | some (some _) => .ok (.loc i) s | _ => .bad := Eq.trans rfl rfl
@[simp] theorem ap_N (i : Nat) : mN i s = match s[i]? with | some (some x) => .ok x (if x.own then s.set i none else s) | _ => .bad := Eq.trans rfl rfl
@[simp] theorem ap_Op (f : List PV → Option PV) (os : M (List Pnd)) : mOp f os s = (os s).bind fun ps s' => match Pnd.gets s' ps with
  | some xs => match f xs with | some z => .ok z s' | none => .bad
  | none => .bad := Eq.trans rfl rfl
@[simp] theorem ap_T (m : M PV) : mT m s = (m s).bind fun x s' => match x with | .bl b => .ok b s' | _ => .bad := Eq.trans rfl rfl
@[simp] theorem ap_And (a b : M Bool) : mAnd a b s = (a s).bind fun c s' => if c then b s' else .ok false s' := Eq.trans rfl rfl
@[simp] theorem ap_Or (a b : M Bool) : mOr a b s = (a s).bind fun c s' => if c then .ok true s' else b s' := Eq.trans rfl rfl
@[simp] theorem ap_Not (a : M Bool) : mNot a s = (a s).bind fun c s' => .ok (!c) s' := Eq.trans rfl rfl
@[simp] theorem ap_AndV (a b : M PV) : mAndV a b s = (a s).bind fun x s' => match x with | .bl c => if c then b s' else .ok (.bl false) s' | _ => .bad := Eq.trans rfl rfl
@[simp] theorem ap_OrV (a b : M PV) : mOrV a b s = (a s).bind fun x s' => match x with | .bl c => if c then .ok (.bl true) s' else b s' | _ => .bad := Eq.trans rfl rfl
@[simp] theorem ap_NotV (a : M PV) : mNotV a s = (a s).bind fun x s' => match x with | .bl c => .ok (.bl (!c)) s' | _ => .bad := Eq.trans rfl rfl
@[simp] theorem ap_ite {α : Type} (c : M Bool) (a b : M α) : mIte c a b s = (c s).bind fun d s' => if d then a s' else b s' := Eq.trans rfl rfl
@[simp] theorem ap_vNil : vNil s = .ok [] s := Eq.trans rfl rfl
@[simp] theorem ap_vCons (m : M PV) (ms : M (List PV)) : vCons m ms s = (m s).bind fun x s1 => (ms s1).bind fun xs s2 => .ok (x :: xs) s2 := Eq.trans rfl rfl
@[simp] theorem ap_Tup (ms : M (List PV)) : mTup ms s = (ms s).bind fun xs s' => if xs.length ≤ LIM then .ok (.tup xs) s' else .bad := Eq.trans rfl rfl
@[simp] theorem ap_Lst (ms : M (List PV)) : mLst ms s = (ms s).bind fun xs s' => if xs.length ≤ LIM then .ok (.lst true xs) s' else .bad := Eq.trans rfl rfl
@[simp] theorem ap_Fz (m : M PV) : mFz m s = (m s).bind fun x s' => match frzP x with | some y => .ok y s' | none => .bad := Eq.trans rfl rfl
@[simp] theorem ap_FzN (i : Nat) : mFzN i s = match s[i]? with
  | some (some x) => match frzP x with | some y => .ok y (s.set i (some y)) | none => .bad
  | _ => .bad := Eq.trans rfl rfl
@[simp] theorem ap_SetI (i : Nat) (ie m : M PV) : mSetI i ie m s = (m s).out fun z s1 => match s1[i]? with
  | some (some _) => (ie s1).out fun k s2 => match k with
    | .int j => match s2[i]? with
      | some (some (.lst true xs)) => match ixN xs.length j with
        | some n => .nx (s2.set i (some (.lst true (xs.set n z))))
        | none => .bad
      | _ => .bad
    | _ => .bad
  | _ => .bad := Eq.trans rfl rfl
@[simp] theorem ap_AugI (i k : Nat) (f : Int → Int → Int) (m : M PV) : mAugI i k f m s = match s[i]? with
  | some (some (.lst true xs)) => match xs[k]? with
    | some (.int a) => (m s).out fun y s1 => match y with
      | .int b => match s1[i]? with
        | some (some (.lst true ys)) => if k < ys.length then .nx (s1.set i (some (.lst true (ys.set k (.int (f a b)))))) else .bad
        | _ => .bad
      | _ => .bad
    | _ => .bad
  | _ => .bad := Eq.trans rfl rfl
@[simp] theorem ap_Chain (p p' : Int → Int → Bool) (oa ob oc : M Pnd) : mChain p p' oa ob oc s = (oa s).bind fun pa s1 => (ob s1).bind fun pb s2 =>
  match intOf s2 pa, intOf s2 pb with
  | some i, some j => if p i j then (oc s2).bind fun pc s3 => match intOf s3 pb, intOf s3 pc with | some j', some k => .ok (.bl (p' j' k)) s3 | _, _ => .bad
    else .ok (.bl false) s2
  | _, _ => .bad := Eq.trans rfl rfl
@[simp] theorem intOf_loc (i : Nat) : intOf s (.loc i) = match s[i]?.join with | some (.int k) => some k | _ => none := rfl
@[simp] theorem intOf_val (i : Int) : intOf s (.val (.int i)) = some i := rfl
@[simp] theorem ap_call (np : Nat) (C : List PV → CR) (os : M (List Pnd)) : mCallN np C os s = (os s).bind fun ps s1 => if ps.length = np then (match takeP ps s1 with
  | some (xs, s2) => match C xs with
    | .ok x ys => .ok x (putP ps ys s2)
    | .exc e ys => .exc e (putP ps ys s2)
    | .bad => .bad
  | none => .bad) else .bad := Eq.trans rfl rfl
@[simp] theorem ap_meth (i : Nat) (f : PV → List PV → Option (PV × PV)) (ms : M (List PV)) : mMeth i f ms s = match s[i]? with
  | some (some (.lst true _)) => (ms s).bind fun ys s1 => match s1[i]? with
    | some (some (.lst true xs)) => match f (.lst true xs) ys with
      | some (z, x') => .ok z (s1.set i (some x'))
      | none => .bad
    | _ => .bad
  | _ => .bad := Eq.trans rfl rfl
@[simp] theorem ap_par (i j : Nat) (ms : M (List PV)) : mPar i j ms s = (ms s).out fun xs s' => match xs with | [x, y] => .nx ((s'.set i (some x)).set j (some y)) | _ => .bad := Eq.trans rfl rfl
@[simp] theorem ap_for (pn : List Nat) (os : M (List Pnd)) (it : List PV → Option (List PV)) (t : PV → Sl → Option Sl) (b : MS) : mFor pn os it t b s = (os s).out fun ps s1 =>
  if locsIn pn ps = true then match takeP ps s1 with
    | some (vals, s2) => match it vals with
      | some xs => finL ps vals (forL t b xs s2)
      | none => .bad
    | none => .bad
  else .bad := Eq.trans rfl rfl
@[simp] theorem ap_comp (os : M (List Pnd)) (it : List PV → Option (List PV)) (t : PV → Sl → Option Sl) (cond : M Bool) (el : M PV) (own : List Nat) : mComp os it t cond el own s = (os s).bind fun ps s1 => match takeP ps s1 with
  | none => .bad
  | some (vals, s2) => match it vals with
    | none => .bad
    | some xs => if xs.length ≤ LIM then (match compL t cond el own xs (wipeS s2 own) [] with
      | .ok acc s3 => .ok (.lst true acc) (putP ps vals s3)
      | _ => .bad) else .bad := Eq.trans rfl rfl
@[simp] theorem ap_yes : mYes s = .ok true s := Eq.trans rfl rfl
@[simp] theorem ap_raise (m : M XV) : mRaise m s = (m s).out fun x s' => .exc x s' := Eq.trans rfl rfl
@[simp] theorem gets_nil : Pnd.gets s [] = some [] := rfl
@[simp] theorem gets_val (x : PV) (ps : List Pnd) : Pnd.gets s (.val x :: ps) = match Pnd.gets s ps with | some xs => some (x :: xs) | none => none := by
  simp only [Pnd.gets, Pnd.get]
  cases Pnd.gets s ps <;> rfl
@[simp] theorem gets_loc (i : Nat) (ps : List Pnd) : Pnd.gets s (.loc i :: ps) = match s[i]?.join, Pnd.gets s ps with | some x, some xs => some (x :: xs) | _, _ => none := rfl
@[simp] theorem take_nil : takeP [] s = some ([], s) := rfl
@[simp] theorem take_val (x : PV) (r : List Pnd) : takeP (.val x :: r) s = match takeP r s with | some (xs, s') => some (x :: xs, s') | none => none := rfl
@[simp] theorem take_loc (i : Nat) (r : List Pnd) : takeP (.loc i :: r) s = match s[i]? with
    | some (some x) => match takeP r (if x.own then s.set i none else s) with | some (xs, s') => some (x :: xs, s') | none => none
    | _ => none := rfl
@[simp] theorem put_nil (ys : List PV) : putP [] ys s = s := by cases ys <;> rfl
@[simp] theorem put_val (x y : PV) (r : List Pnd) (ys : List PV) : putP (.val x :: r) (y :: ys) s = putP r ys s := rfl
@[simp] theorem put_loc (i : Nat) (r : List Pnd) (y : PV) (ys : List PV) : putP (.loc i :: r) (y :: ys) s = putP r ys (match s[i]? with | some none => s.set i (some y) | _ => s) := rfl
@[simp] theorem own_int (i : Int) : (PV.int i).own = false := rfl
@[simp] theorem own_bl (i : Bool) : (PV.bl i).own = false := rfl
@[simp] theorem own_str (i : Str) : (PV.str i).own = false := rfl
@[simp] theorem own_non : PV.non.own = false := rfl
@[simp] theorem own_tup (xs : List PV) : (PV.tup xs).own = PV.owns xs := rfl
@[simp] theorem own_lst (o : Bool) (xs : List PV) : (PV.lst o xs).own = (o || PV.owns xs) := rfl
@[simp] theorem owns_nil : PV.owns [] = false := rfl
@[simp] theorem owns_cons (x : PV) (r : List PV) : PV.owns (x :: r) = (x.own || PV.owns r) := rfl
@[simp] theorem owns_app : ∀ (a b : List PV), PV.owns (a ++ b) = (PV.owns a || PV.owns b)
  | [], b => rfl
  | x :: a, b => by simp only [List.cons_append, owns_cons, owns_app a b, Bool.or_assoc]
@[simp] theorem owns_ints : ∀ ns : List Int, PV.owns (ns.map PV.int) = false
  | [] => rfl
  | n :: ns => by simp only [List.map_cons, owns_cons, own_int, Bool.false_or, owns_ints ns]
@[simp] theorem owns_strs : ∀ ns : List Str, PV.owns (ns.map PV.str) = false
  | [] => rfl
  | n :: ns => by simp only [List.map_cons, owns_cons, own_str, Bool.false_or, owns_strs ns]
@[simp] theorem frz_lst (xs : List PV) : frzP (.lst true xs) = if PV.owns xs = false then some (.lst false xs) else none := rfl
@[simp] theorem frz_lstF (xs : List PV) : frzP (.lst false xs) = if PV.owns xs = false then some (.lst false xs) else none := rfl
@[simp] theorem frz_tup (xs : List PV) : frzP (.tup xs) = if PV.owns xs = false then some (.tup xs) else none := rfl
@[simp] theorem frz_int (i : Int) : frzP (.int i) = some (.int i) := rfl
@[simp] theorem frz_str (i : Str) : frzP (.str i) = some (.str i) := rfl
@[simp] theorem frz_bl (i : Bool) : frzP (.bl i) = some (.bl i) := rfl
@[simp] theorem frz_non : frzP .non = some .non := rfl
@[simp] theorem pp_cmp (p : Int → Int → Bool) (a b : Int) : pCmp p [.int a, .int b] = some (.bl (p a b)) := rfl
@[simp] theorem pp_add (a b : Int) : pAdd [.int a, .int b] = some (.int (a + b)) := rfl
@[simp] theorem pp_sub (a b : Int) : pSub [.int a, .int b] = some (.int (a - b)) := rfl
@[simp] theorem pp_mul (a b : Int) : pMul2 [.int a, .int b] = if small64 a || small64 b then some (.int (a * b)) else none := rfl
@[simp] theorem pp_fdiv (a b : Int) : pFdiv [.int a, .int b] = if 0 < b ∧ b < 1073741824 then some (.int (a / b)) else none := by
  by_cases h : 0 < b ∧ b < 1073741824 <;> simp [pFdiv, h]
@[simp] theorem pp_mod (a b : Int) : pMod [.int a, .int b] = if 0 < b then some (.int (a % b)) else none := rfl
@[simp] theorem pp_abs (a : Int) : pAbs [.int a] = some (.int (if a < 0 then -a else a)) := rfl
@[simp] theorem pp_int (a : Int) : pInt1 [.int a] = some (.int a) := rfl
@[simp] theorem pp_intb (a : Bool) : pInt1 [.bl a] = some (.int (if a then 1 else 0)) := rfl
@[simp] theorem pp_ixL (o : Bool) (xs : List PV) (i : Int) : pIx [.lst o xs, .int i] = match atI xs i with | some x => if x.own then none else some x | none => none := rfl
@[simp] theorem pp_ixT (xs : List PV) (i : Int) : pIx [.tup xs, .int i] = match atI xs i with | some x => if x.own then none else some x | none => none := rfl
@[simp] theorem pp_lenL (o : Bool) (xs : List PV) : pLen [.lst o xs] = pLen1 (.lst o xs) := rfl
@[simp] theorem pp_lenT (xs : List PV) : pLen [.tup xs] = pLen1 (.tup xs) := rfl
@[simp] theorem pp_lenS (xs : Str) : pLen [.str xs] = pLen1 (.str xs) := rfl
end
theorem atI_of {α : Type} {xs : List α} {i : Int} {x : α} (h0 : 0 ≤ i) (h : xs[i.toNat]? = some x) : atI xs i = some x := by
  unfold atI ixN
  have : i < xs.length := by
    have := (List.getElem?_eq_some_iff.mp h).1
    omega
  rw [if_pos h0, if_pos this]
  exact h
@[simp] theorem atI_0 {α : Type} (x : α) (r : List α) : atI (x :: r) 0 = some x := atI_of (by decide) rfl
@[simp] theorem atI_1 {α : Type} (x y : α) (r : List α) : atI (x :: y :: r) 1 = some y := atI_of (by decide) rfl
@[simp] theorem atI_2 {α : Type} (x y z : α) (r : List α) : atI (x :: y :: z :: r) 2 = some z := atI_of (by decide) rfl
@[simp] theorem atI_3 {α : Type} (x y z w : α) (r : List α) : atI (x :: y :: z :: w :: r) 3 = some w := atI_of (by decide) rfl
@[simp] theorem atI_4 {α : Type} (x y z w u : α) (r : List α) : atI (x :: y :: z :: w :: u :: r) 4 = some u := atI_of (by decide) rfl
@[simp] theorem end_nx (pn : List Nat) (xs : List PV) (s : Sl) : endB pn xs (.nx s) = match backP pn 0 xs s with | some ys => .ok .non ys | none => .bad := rfl
@[simp] theorem end_rt (pn : List Nat) (xs : List PV) (x : PV) (s : Sl) : endB pn xs (.rt x s) = match backP pn 0 xs s with | some ys => .ok x ys | none => .bad := rfl
@[simp] theorem end_exc (pn : List Nat) (xs : List PV) (x : XV) (s : Sl) : endB pn xs (.exc x s) = match backP pn 0 xs s with | some ys => .exc x ys | none => .bad := rfl
@[simp] theorem back_nil (pn : List Nat) (i : Nat) (s : Sl) : backP pn i [] s = some [] := by cases s <;> rfl
@[simp] theorem back_cons (pn : List Nat) (i : Nat) (x : PV) (r : List PV) (o : Option PV) (t : Sl) : backP pn i (x :: r) (o :: t) = match (if x.own then (if pn.contains i then o else none) else some x), backP pn (i + 1) r t with
    | some y, some ys => some (y :: ys)
    | _, _ => none := rfl
def big6000 : Int := 1 * 2 ^ (6000 : Int).toNat
theorem big6000_pos : 0 < big6000 := by
  unfold big6000
  rw [Int.one_mul]
  exact Int.pow_pos (by decide)
@[simp] theorem pp_shl6000 : pShl [.int 1, .int 6000] = some (.int big6000) := by
  show @ite _ ((0 : Int) ≤ 6000 ∧ (6000 : Int) ≤ 1000000 ∧ (1 : Int).natAbs < 2 ^ 64) (Classical.propDecidable _) (some (PV.int (1 * 2 ^ (6000 : Int).toNat))) none = _
  rw [if_pos ⟨by decide, by decide, by decide⟩]
  rfl
@[simp] theorem pp_pow18 : pPow [.int 10, .int 18] = some (.int 1000000000000000000) := by
  show @ite _ ((0 : Int) ≤ 18 ∧ (18 : Int) ≤ 1000000 ∧ (10 : Int).natAbs < 2 ^ 64) (Classical.propDecidable _) (some (PV.int (10 ^ (18 : Int).toNat))) none = _
  rw [if_pos ⟨by decide, by decide, by decide⟩]
  rfl
@[simp] theorem len_lst (o : Bool) (xs : List PV) : pLen1 (.lst o xs) = some (.int xs.length) := rfl
@[simp] theorem len_tup (xs : List PV) : pLen1 (.tup xs) = some (.int xs.length) := rfl
theorem sm_of {i : Int} (h : -18446744073709551616 < i) (h2 : i < 18446744073709551616) : Bv.small64 i = true := by
  unfold Bv.small64
  exact @decide_eq_true _ (Classical.propDecidable _) ⟨by omega, by omega⟩
@[simp] theorem sm_2 : Bv.small64 2 = true := sm_of (by decide) (by decide)
@[simp] theorem sm_16807 : Bv.small64 16807 = true := sm_of (by decide) (by decide)
@[simp] theorem sm_48271 : Bv.small64 48271 = true := sm_of (by decide) (by decide)
@[simp] theorem sm_69621 : Bv.small64 69621 = true := sm_of (by decide) (by decide)
end Bv
set_option maxHeartbeats 1000000
namespace Bv
open PySem PySem.Spec PyProof.Rows L2
/-! ### comprehensions and loops, read off -/
/-- a row made of a row, the places left as they were -/
theorem compL_map {t : PV → Sl → Option Sl} {el : M PV} {own : List Nat} {f : PV → PV} {s : Sl} : ∀ {xs : List PV},
    (∀ x ∈ xs, ∃ s1 s3, t x s = some s1 ∧ el s1 = .ok (f x) s3 ∧ wipeS s3 own = s) → ∀ acc, compL t mYes el own xs s acc = .ok (acc ++ xs.map f) s
  | [], _, acc => by simp [compL]
  | x :: xs, h, acc => by
    obtain ⟨s1, s3, e1, e2, e3⟩ := h x List.mem_cons_self
    have ih := compL_map (xs := xs) (fun z hz => h z (List.mem_cons_of_mem _ hz)) (acc ++ [f x])
    simp [compL, e1, e2, mYes, e3, ih]
/-- .. with a test -/
theorem compL_filter {t : PV → Sl → Option Sl} {cond : M Bool} {el : M PV} {own : List Nat} {f : PV → PV} {c : PV → Bool} {s : Sl} : ∀ {xs : List PV},
    (∀ x ∈ xs, ∃ s1 s2 s3, t x s = some s1 ∧ cond s1 = .ok (c x) s2 ∧ (c x = true → el s2 = .ok (f x) s3 ∧ wipeS s3 own = s) ∧ (c x = false → wipeS s2 own = s)) → ∀ acc, compL t cond el own xs s acc = .ok (acc ++ (xs.filter c).map f) s
  | [], _, acc => by simp [compL]
  | x :: xs, h, acc => by
    obtain ⟨s1, s2, s3, e1, e2, e3, e4⟩ := h x List.mem_cons_self
    cases hc : c x with
    | true =>
      obtain ⟨e5, e6⟩ := e3 hc
      have ih := compL_filter (xs := xs) (fun z hz => h z (List.mem_cons_of_mem _ hz)) (acc ++ [f x])
      rw [hc] at e2
      simp [compL, e1, e2, e5, e6, ih, hc]
    | false =>
      have e6 := e4 hc
      have ih := compL_filter (xs := xs) (fun z hz => h z (List.mem_cons_of_mem _ hz)) acc
      rw [hc] at e2
      simp [compL, e1, e2, e6, ih, hc]
theorem forL_inv {t : PV → Sl → Option Sl} {b : MS} {Inv : Nat → Sl → Prop} : ∀ {xs : List PV} (k : Nat),
    (∀ i x, xs[i]? = some x → ∀ s, Inv (k + i) s → ∃ s1 s2, t x s = some s1 ∧ (b s1 = .nx s2 ∨ b s1 = .ct s2) ∧ Inv (k + i + 1) s2) → ∀ s, Inv k s → ∃ s', forL t b xs s = .nx s' ∧ Inv (k + xs.length) s'
  | [], k, _, s, hs => ⟨s, rfl, hs⟩
  | x :: xs, k, h, s, hs => by
    obtain ⟨s1, s2, e1, e2, i⟩ := h 0 x rfl s hs
    obtain ⟨s', e3, i3⟩ := forL_inv (xs := xs) (k + 1) (fun j y hy s' hs' => by
      have := h (j + 1) y (by simpa using hy) s' (by rw [show k + (j + 1) = k + 1 + j by omega]; exact hs')
      rw [show k + (j + 1) + 1 = k + 1 + j + 1 by omega] at this
      exact this) s2 i
    refine ⟨s', ?_, by rw [show k + (x :: xs).length = k + 1 + xs.length by simp; omega]; exact i3⟩
    rcases e2 with e2 | e2 <;> simp [forL, e1, e2, e3]
theorem keysL_map {t : PV → Sl → Option Sl} {el : M PV} {own : List Nat} {f : PV → Key} {g : PV → PV} {s : Sl} : ∀ {xs : List PV},
    (∀ x ∈ xs, ∃ s1 s3, t x s = some s1 ∧ el s1 = .ok (g x) s3 ∧ keyP (g x) = some (f x) ∧ wipeS s3 own = s) → ∀ acc, keysL t mYes el own xs s acc = .ok ((xs.map f).foldl insK acc) s
  | [], _, acc => by simp [keysL]
  | x :: xs, h, acc => by
    obtain ⟨s1, s3, e1, e2, e4, e3⟩ := h x List.mem_cons_self
    have ih := keysL_map (xs := xs) (f := f) (g := g) (fun z hz => h z (List.mem_cons_of_mem _ hz)) (insK acc (f x))
    simp [keysL, e1, e2, mYes, e3, e4, ih]
theorem insK_fold_nodup : ∀ (l acc : List Key), (∀ k ∈ l, k ∉ acc) → l.Nodup → l.foldl insK acc = acc ++ l
  | [], acc, _, _ => by simp
  | k :: l, acc, h, nd => by
    have hk : k ∉ acc := h k List.mem_cons_self
    have e : insK acc k = acc ++ [k] := by unfold insK; rw [if_neg hk]
    rw [List.foldl_cons, e, insK_fold_nodup l (acc ++ [k]) (fun j hj => by
      rw [List.mem_append, List.mem_singleton]
      rintro (z | z)
      · exact h j (List.mem_cons_of_mem _ hj) z
      · subst z; exact (List.nodup_cons.mp nd).1 hj) (List.nodup_cons.mp nd).2]
    simp
theorem insK_fold_le : ∀ (l acc : List Key), (l.foldl insK acc).length ≤ acc.length + l.length
  | [], acc => by simp
  | k :: l, acc => by
    have := insK_fold_le l (insK acc k)
    have := insK_len acc k
    rw [List.foldl_cons, List.length_cons]
    omega
theorem insK_fold_lt : ∀ (l acc : List Key), ¬ ((∀ k ∈ l, k ∉ acc) ∧ l.Nodup) → (l.foldl insK acc).length < acc.length + l.length
  | [], acc, h => absurd ⟨by simp, List.nodup_nil⟩ h
  | k :: l, acc, h => by
    rw [List.foldl_cons, List.length_cons]
    by_cases hk : k ∈ acc
    · have e : insK acc k = acc := by unfold insK; rw [if_pos hk]
      rw [e]
      have := insK_fold_le l acc
      omega
    · have e : insK acc k = acc ++ [k] := by unfold insK; rw [if_neg hk]
      rw [e]
      have := insK_fold_lt l (acc ++ [k]) (fun ⟨h1, h2⟩ => h ⟨fun j hj => by
        rcases List.mem_cons.mp hj with z | z
        · subst z; exact hk
        · exact fun y => h1 j z (List.mem_append_left _ y), List.nodup_cons.mpr ⟨fun z => h1 k z (by simp), h2⟩⟩)
      rw [List.length_append, List.length_singleton] at this
      omega
@[simp] theorem wipe_nil (s : Sl) : wipeS s [] = s := rfl
@[simp] theorem wipe_cons (s : Sl) (v : Nat) (vs : List Nat) : wipeS s (v :: vs) = (wipeS s vs).set v none := rfl
@[simp] theorem itSeq_lst (o : Bool) (xs : List PV) : itSeq [.lst o xs] = if PV.owns xs = false then some xs else none := rfl
@[simp] theorem itSeq_tup (xs : List PV) : itSeq [.tup xs] = if PV.owns xs = false then some xs else none := rfl
@[simp] theorem itSeq_str (y : Str) : itSeq [.str y] = some (y.cps.toList.map fun c => .str ⟨#[c]⟩) := rfl
theorem itR1 (j : Int) : itRng1 [.int j] = if -(2 ^ 62) ≤ j ∧ j < 2 ^ 62 then some ((List.range j.toNat).map fun (k : Nat) => .int (k : Int)) else none := by
  by_cases h : -(2 ^ 62) ≤ j ∧ j < 2 ^ 62 <;> simp only [itRng1, h, and_self, if_true, if_false]
@[simp] theorem tN_tup (is : List Nat) (xs : List PV) (s : Sl) : tN is (.tup xs) s = if xs.length = is.length then some ((is.zip xs).foldl (fun s p => s.set p.1 (some p.2)) s) else none := rfl
@[simp] theorem fin_nx (ps : List Pnd) (vals : List PV) (s : Sl) : finL ps vals (.nx s) = .nx (putP ps vals s) := rfl
@[simp] theorem fin_rt (ps : List Pnd) (vals : List PV) (x : PV) (s : Sl) : finL ps vals (.rt x s) = .rt x (putP ps vals s) := rfl
@[simp] theorem locs_nil (pn : List Nat) : locsIn pn [] = true := rfl
@[simp] theorem locs_loc (pn : List Nat) (i : Nat) (r : List Pnd) : locsIn pn (.loc i :: r) = (pn.contains i && locsIn pn r) := rfl
@[simp] theorem locs_val (pn : List Nat) (x : PV) (r : List Pnd) : locsIn pn (.val x :: r) = locsIn pn r := rfl
@[simp] theorem app_app (xs : List PV) (y : PV) : fApp (.lst true xs) [y] = if xs.length < LIM then some (.non, .lst true (xs ++ [y])) else none := rfl
@[simp] theorem pp_tupleL (o : Bool) (xs : List PV) : pTuple [.lst o xs] = if PV.owns xs = false then some (.tup xs) else none := rfl
@[simp] theorem pp_tupleT (xs : List PV) : pTuple [.tup xs] = if PV.owns xs = false then some (.tup xs) else none := rfl
@[simp] theorem pp_listL (o : Bool) (xs : List PV) : pList [.lst o xs] = if PV.owns xs = false then some (.lst true xs) else none := rfl
@[simp] theorem pp_listT (xs : List PV) : pList [.tup xs] = if PV.owns xs = false then some (.lst true xs) else none := rfl
end Bv
set_option maxHeartbeats 1000000
namespace Bv
open PySem PySem.Spec PyProof.Rows L2
theorem sh_int (i : Int) : shD (.int i) = some (.int i) := rfl
theorem sh_str {x : Str} (h : PyData.strOk x = true) : shD (.str x) = some (.str x) := by
  have e : SeqAt.shaped (.str x) = true := by
    unfold SeqAt.shaped
    rw [show PyData.canLay0 (.str x) = true from h, show PyData.depth (.str x) = 0 from rfl]
    rfl
  unfold shD
  show (if SeqAt.shaped (.str x) = true then some (PyData.str x) else none) = _
  rw [if_pos e]
@[simp] theorem eq_int (n : Bool) (a b : Int) : pEq n [.int a, .int b] = some (.bl (if n then !decide (a = b) else decide (a = b))) := by
  have e : PyData.eqv (.int a) (.int b) = decide (a = b) := by
    show (a == b) = _
    by_cases h : a = b <;> simp [h]
  unfold pEq
  simp only [sh_int, e]
theorem eq_str (n : Bool) {a b : Str} (ha : PyData.strOk a = true) (hb : PyData.strOk b = true) : pEq n [.str a, .str b] = some (.bl (if n then !decide (a = b) else decide (a = b))) := by
  have e : PyData.eqv (.str a) (.str b) = decide (a = b) := by
    show (a == b) = _
    by_cases h : a = b <;> simp [h]
  unfold pEq
  simp only [sh_str ha, sh_str hb, e]
@[simp] theorem pp_split_in (n : Bool) (a b : Str) : pIn n [.str a, .str b] = some (inStr n a b) := rfl
@[simp] theorem pp_pop (xs : List PV) (i : Int) : fPopAt (.lst true xs) [.int i] = if -(2 ^ 63) ≤ i ∧ i < 2 ^ 63 then (match seqIndex? i xs.length with
    | some k => match xs[k]? with | some y => some (y, .lst true (xs.eraseIdx k)) | none => none
    | none => none) else none := by
  by_cases h : -(2 ^ 63) ≤ i ∧ i < 2 ^ 63
  · rw [if_pos h]; show @ite _ _ (Classical.propDecidable _) _ _ = _; rw [if_pos h] <;> rfl
  · rw [if_neg h]; show @ite _ _ (Classical.propDecidable _) _ _ = _; rw [if_neg h]
theorem seqIx {i : Int} {n : Nat} (h0 : 0 ≤ i) (h1 : i < n) : seqIndex? i n = some i.toNat := by
  have h2 : ¬ i < 0 := by omega
  unfold seqIndex?
  simp [h2, h0, h1]
theorem frz_id {x : PV} (h : x.own = false) : frzP x = some x := by
  cases x with
  | lst o xs =>
    cases o with
    | true => simp at h
    | false => simp at h; simp [h]
  | tup xs => simp at h; simp [h]
  | dK _ => simp [PV.own] at h
  | dT _ => simp [PV.own] at h
  | sK _ => simp [PV.own] at h
  | _ => rfl
theorem perm_erase_cons {α : Type} : ∀ {l : List α} {k : Nat} (h : k < l.length), (l[k] :: l.eraseIdx k).Perm l
  | x :: l, 0, h => .refl _
  | x :: l, k + 1, h => by
    have hk : k < l.length := by simpa using h
    have ih := perm_erase_cons (l := l) (k := k) hk
    show (l[k] :: x :: l.eraseIdx k).Perm (x :: l)
    exact (List.Perm.swap x l[k] _).trans (List.Perm.cons x ih)
def rngP (n : Nat) : List PV := (List.range n).map fun (k : Nat) => .int (k : Int)
theorem it_nat {j : Int} (h0 : 0 ≤ j) (h : j < 4611686018427387904) : itRng1 [.int j] = some (rngP j.toNat) := by
  rw [itR1, if_pos ⟨by omega, by omega⟩]
  rfl
@[simp] theorem rngP_len (n : Nat) : (rngP n).length = n := by unfold rngP; simp
theorem lim_le {n : Nat} (h : n ≤ 16777216) : n ≤ LIM := h
theorem lim_lt {n : Nat} (h : n < 16777216) : n < LIM := h
@[simp] theorem lim_0 : 0 ≤ LIM := Nat.zero_le _
@[simp] theorem lim_1 : 1 ≤ LIM := by decide
@[simp] theorem lim_2 : 2 ≤ LIM := by decide
@[simp] theorem lim_3 : 3 ≤ LIM := by decide
@[simp] theorem lim_4 : 4 ≤ LIM := by decide
@[simp] theorem lim_5 : 5 ≤ LIM := by decide
@[simp] theorem lim_6 : 6 ≤ LIM := by decide
end Bv
set_option maxHeartbeats 1000000
namespace Bv
open PySem PySem.Spec PyProof.Rows L2
/-! ### is None, is not None -/
def isNon : PV → Bool
  | .non => true
  | _ => false
def pIsN (n : Bool) : List PV → Option PV
  | [x, .non] => some (.bl (if n then !isNon x else isNon x))
  | _ => none
section
variable {K : PySem.W.Frag} {H : Hp}
theorem non_iff {x : PV} {v : V} {g : Fp} (r : Rep K H x v g) : decide (v = V.non) = isNon x := by
  cases x with
  | non => rw [r.1]; rfl
  | bl b => rw [r.1]; rfl
  | int b => rw [r.1]; rfl
  | str b => rw [r.1]; rfl
  | tup xs => obtain ⟨a, va, rfl, _⟩ := r.tupAt; rfl
  | lst o xs => obtain ⟨a, va, ga, rfl, _⟩ := r.lstAt; rfl
  | dK xs => obtain ⟨a, ws, g, rfl, _⟩ := r; rfl
  | dT xs => obtain ⟨a, ws, g, rfl, _⟩ := r; rfl
  | sK _ => exact r.elim
theorem vo_notN : VOp K (pIsN true) (r2L (fun x y H Q => y = .non ∧ Q (.bl (!decide (x = .non))) H)) := by
  intro H xs vs z Q hr hf q
  match xs, hf with
  | [x, .non], hf =>
    obtain ⟨v, w, g, k, rfl, rx, ⟨rfl, _⟩⟩ := rw2 hr
    cases (Option.some.inj hf)
    exact ⟨v, _, rfl, rfl, by rw [non_iff rx]; exact q _ H Z0 rep_bl (fr0 H)⟩
end
/-! ### slices with both bounds -/
section
variable {X : Cx} {W : WX} {a b c e : Expr} {es : List Expr} {pos p2 p : Pos}
def mSl3 (oa ob oc : M Pnd) : M PV := fun s => (oa s).bind fun pa s1 => (ob s1).bind fun pb s2 => match intOf s2 pb with
  | some i => (oc s2).bind fun pc s3 => (match intOf s3 pc with
    | some j => (match Pnd.gets s3 [pa] with
      | some xs => (match p1 (pCut (some i) (some j)) xs with | some z => .ok z s3 | none => .bad)
      | none => .bad)
    | none => .bad)
  | none => .bad
/-! ### texts: endswith, count; places in lists -/
variable {o : Expr} {mo : M PV} {oe oo : M Pnd} {apos : Pos}
/-- a reading method of a list (it is not changed), one argument -/
def mLst1 (f : List PV → Option PV) (oo oe : M Pnd) : M PV := fun s => (oo s).bind fun p1 s1 => match Pnd.gets s1 [p1] with
  | some [.lst _ _] => (oe s1).bind fun p s2 => (match Pnd.gets s2 [p1, p] with
    | some xs => (match f xs with | some z => .ok z s2 | none => .bad)
    | none => .bad)
  | _ => .bad
theorem lst1_end {f : List PV → Option PV} {r : V → List V → Hp → VK → Prop} (vo : VOp X.K f (fun vs H Q => ∃ x y, vs = [x, y] ∧ r x [y] H Q)) {σ : L2.St} {H : Hp} {Q : VK} (q : rdG (Rep X.K) X W (mLst1 f oo oe) σ H Q) :
    rdG (PRep X.K σ) X W oo σ H (fun x H1 => tyV X.K "list" x H1 ∧ rdG (PReps X.K σ) X W (oCons oe oNil) σ H1 (fun xs H2 => r x xs H2 Q)) := by
  refine rdG.bind (ρ := PRep X.K σ) q fun F p1 s1 v H1 g f1 h0 h1 h2 h3 h4 h5 => ?_
  cases e1 : Pnd.gets s1 [p1] with
  | none => rw [e1] at h5; exact h5.elim
  | some xs =>
    rw [e1] at h5
    have rw_ := gets_rep h2 (ps := [p1]) (vs := [v]) (g := g) ⟨v, [], g, Z0, rfl, h1, ⟨rfl, fun _ => rfl⟩, fun b => rfl⟩ e1
    match xs, h5 with
    | [.lst o ys], h5 =>
      obtain ⟨v', g', ev, r'⟩ := rw1 rw_
      cases ev
      obtain ⟨p, va, ga, rfl, ha, za, sa⟩ := r'.lstAt
      refine ⟨.inl ⟨rfl, va, ha⟩, ?_⟩
      have h5' : GP (Rep X.K) X W H F σ Q ((oCons oe oNil s1).bind fun ps s2 => match Pnd.gets s2 (p1 :: ps) with
          | some xs => (match f xs with | some z => .ok z s2 | none => .bad)
          | none => .bad) := by
        have e : ((oCons oe oNil s1).bind fun ps s2 => match Pnd.gets s2 (p1 :: ps) with
          | some xs => (match f xs with | some z => R.ok z s2 | none => .bad)
          | none => .bad) = ((oe s1).bind fun p s2 => match Pnd.gets s2 [p1, p] with
          | some xs => (match f xs with | some z => R.ok z s2 | none => .bad)
          | none => .bad) := by simp only [oCons, oNil, R.bind_assoc, R.bind_ok]
        rw [e]; exact h5
      refine rdG.next (ρ := PReps X.K σ) (stable_prep X.K σ) h1 h2 h3 h4 h5' fun ps s2 ws H2 g2 f2 k1 k2 k3 k4 k5 k6 => ?_
      obtain ⟨x', y', e, hq⟩ := op_end (r := fun vs H Q => ∃ x y, vs = [x, y] ∧ r x [y] H Q) vo (g := fun b => g b + g2 b) (ps := p1 :: ps) (vs := .ref p :: ws) ⟨.ref p, ws, g, g2, rfl, k1, k2, fun _ => rfl⟩ k3 k4 k5 k6
      cases e
      exact hq
end
/-! ### for k, x in enumerate(list) -/
def enumP : Nat → List PV → List PV
  | _, [] => []
  | n, x :: r => .tup [.int (n : Nat), x] :: enumP (n + 1) r
theorem enumP_len : ∀ (n : Nat) (xs : List PV), (enumP n xs).length = xs.length
  | _, [] => rfl
  | n, x :: r => by simp [enumP, enumP_len (n + 1) r]
theorem enumP_get : ∀ (n : Nat) (xs : List PV) (i : Nat), (enumP n xs)[i]? = (xs[i]?).map fun x => .tup [.int ((n + i : Nat)), x]
  | _, [], i => by simp [enumP]
  | n, x :: r, 0 => by simp [enumP]
  | n, x :: r, i + 1 => by
    simp only [enumP, List.getElem?_cons_succ, enumP_get (n + 1) r i]
    rw [show n + 1 + i = n + (i + 1) by omega]
def itEnum : List PV → Option (List PV)
  | [.lst _ xs] => if PV.owns xs = false then some (enumP 0 xs) else none
  | _ => none
section
variable {K : PySem.W.Frag} {X : Cx} {W : WX} {l : Expr} {p pos tpos : Pos} {elts : List Expr} {kk : Nat}
theorem vi_enum : VIt K itEnum (fun vs H R => ∃ a xs, vs = [.ref a] ∧ SqL K H a xs ∧ R (Ite K a) H) := by
  intro H vals vs g xs R hr hf q
  match vals, hf with
  | [.lst o ys], hf =>
    obtain ⟨v, ws, g1, g2, rfl, r, ⟨rfl, z2⟩, hg⟩ := hr
    have hgg : ∀ b, g b = g1 b := fun b => by rw [hg b, z2 b]; rfl
    have r : Rep K H (.lst o ys) v g := r.congr hgg
    simp only [itEnum] at hf
    split at hf
    · rename_i n
      cases hf
      obtain ⟨a, va, ga, rfl, ha, za, sa⟩ := id r.lstAt
      refine ⟨a, va, rfl, ha, q _ (fun H' => Rep K H' (.lst o ys) (.ref a) g) ⟨fun i H' hi hlt => ?_, fun H' hi => ?_, fun i H' v H2 x hi hx hy => ?_, fun H' H2 F k m d hi => hi.kept k m d⟩ r⟩
      · obtain ⟨a', vb, gb, e, hb, _, sb⟩ := hi.lstAt
        cases e
        have : i < vb.length := by rw [sb.length]; rw [enumP_len] at hlt; exact hlt
        exact ⟨vb, vb[i], hb, List.getElem?_eq_getElem this⟩
      · obtain ⟨a', vb, gb, e, hb, _, sb⟩ := hi.lstAt
        cases e
        exact ⟨vb, hb, by rw [sb.length, enumP_len]; exact Nat.le_refl _⟩
      · obtain ⟨a', vb, gb, e, hb, _, sb⟩ := hi.lstAt
        cases e
        obtain ⟨T, u, rfl, hT, rfl, hv⟩ := hy
        rw [enumP_get] at hx
        cases ey : ys[i]? with
        | none => rw [ey] at hx; cases hx
        | some y =>
          rw [ey] at hx
          have hx : PV.tup [.int ((0 + i : Nat)), y] = x := by simpa using hx
          subst hx
          have ru := (sb.seq n).at' i y u ey (hv vb hb)
          have sq : Seq0 K H' [.int ((0 + i : Nat)), y] [.int ((0 + i : Nat)), u] := ⟨rfl, fun j x v h1 h2 => by
            match j with
            | 0 => simp at h1 h2; subst h1; subst h2; exact rep_int
            | 1 => simp at h1 h2; subst h1; subst h2; exact ru
            | j + 2 => simp at h1⟩
          rw [show ((i : Nat) : Int) = ((0 + i : Nat) : Int) by omega]
          obtain ⟨t1, t2⟩ := newTup (p := T) sq (by rw [lim_eq]; exact (lim_2 : 2 ≤ LIM)) hT
          exact ⟨t1, t2.keep⟩
    · cases hf
end
/-! ### recursion: nothing is promised -/
@[simp] theorem pp_isN (n : Bool) (x : PV) : pIsN n [x, .non] = some (.bl (if n then !isNon x else isNon x)) := rfl
@[simp] theorem isNon_non : isNon .non = true := rfl
@[simp] theorem isNon_int (i : Int) : isNon (.int i) = false := rfl
@[simp] theorem isNon_tup (i : List PV) : isNon (.tup i) = false := rfl
@[simp] theorem isNon_lst (o : Bool) (i : List PV) : isNon (.lst o i) = false := rfl
@[simp] theorem isNon_str (i : Str) : isNon (.str i) = false := rfl
@[simp] theorem isNon_bl (i : Bool) : isNon (.bl i) = false := rfl
@[simp] theorem ap_Sl3 (oa ob oc : M Pnd) (s : Sl) : mSl3 oa ob oc s = (oa s).bind fun pa s1 => (ob s1).bind fun pb s2 => match intOf s2 pb with
  | some i => (oc s2).bind fun pc s3 => (match intOf s3 pc with
    | some j => (match Pnd.gets s3 [pa] with
      | some xs => (match p1 (pCut (some i) (some j)) xs with | some z => .ok z s3 | none => .bad)
      | none => .bad)
    | none => .bad)
  | none => .bad := Eq.trans rfl rfl
@[simp] theorem ap_Lst1 (f : List PV → Option PV) (oo oe : M Pnd) (s : Sl) : mLst1 f oo oe s = (oo s).bind fun p1 s1 => match Pnd.gets s1 [p1] with
  | some [.lst _ _] => (oe s1).bind fun p s2 => (match Pnd.gets s2 [p1, p] with
    | some xs => (match f xs with | some z => .ok z s2 | none => .bad)
    | none => .bad)
  | _ => .bad := Eq.trans rfl rfl
@[simp] theorem ap_Mk (cls : Str) (flds : List Str) (ms : M (List PV)) (s : Sl) : mMk cls flds ms s = (ms s).bind fun xs s' => if xs.length = flds.length ∧ PV.owns xs = false then .ok ⟨cls, (flds.zip xs).reverse⟩ s' else .bad := Eq.trans rfl rfl
@[simp] theorem ap_Try (cat : XV → Option Bool) (i : Nat) (b : MS) (h : XV → Sl → UO) (s : Sl) : mTry cat i b h s = match b s with
  | .exc x s' => match cat x with
    | some true => if i < s'.length then (match h x (s'.set i none) with
      | .ret y => .rt y (s'.set i none)
      | .nx => .nx (s'.set i none)
      | .bad => .bad) else .bad
    | some false => .exc x s'
    | none => .bad
  | o => o := Eq.trans rfl rfl
end Bv
set_option maxHeartbeats 1000000
namespace Bv
open PySem PySem.Spec PyProof.Rows L2
/-! ### max, min of a row of ints -/
/-! ### insert, extend -/
section
variable {K : PySem.W.Frag} {H : Hp}
theorem Reps.app : ∀ {xs ys : List PV} {vs ws : List V} {f g : Fp}, Reps K H xs vs f → Reps K H ys ws g → Reps K H (xs ++ ys) (vs ++ ws) (fun b => f b + g b)
  | [], ys, vs, ws, f, g, r, s => by
    obtain ⟨rfl, z⟩ := r
    have : (fun b => f b + g b) = g := funext fun b => by rw [z b]; omega
    rw [this]; exact s
  | x :: xs, ys, vs, ws, f, g, r, s => by
    obtain ⟨v, us, g1, g2, rfl, r1, r2, hg⟩ := r
    exact ⟨v, us ++ ws, g1, fun b => g2 b + g b, rfl, r1, Reps.app r2 s, fun b => by have := hg b; show f b + g b = g1 b + (g2 b + g b); omega⟩
end
/-! ### text.index(text) where it is found -/
/-! ### x[i], x[j] = .., two places of one list -/
def mSwap (i a b : Nat) (m : M PV) : MS := fun s => (m s).out fun z s1 => match z with
  | .tup [z1, z2] => (if PV.owns [z1, z2] = false then (match s1[a]?, s1[b]?, s1[i]? with
    | some (some (.int ja)), some (some (.int jb)), some (some (.lst true xs)) => (match ixN xs.length ja, ixN xs.length jb with
      | some n, some k => .nx (s1.set i (some (.lst true ((xs.set n z1).set k z2))))
      | _, _ => .bad)
    | _, _, _ => .bad) else .bad)
  | _ => .bad
/-! ### for x, y in zip(..): two lists or two tuples -/
section
variable {K : PySem.W.Frag} {X : Cx} {W : WX} {l l2 : Expr} {p pos tpos : Pos} {elts : List Expr} {kk : Nat}
theorem pair_rep {H : Hp} {x y : PV} {u w : V} {T : Addr} (r1 : Rep K H x u Z0) (r2 : Rep K H y w Z0) (hT : H T = none) : Rep K (upd H T (.tup [u, w])) (.tup [x, y]) (.ref T) Z0 ∧ ∀ b o, H b = some o → upd H T (.tup [u, w]) b = some o := by
  have sq : Seq0 K H [x, y] [u, w] := ⟨rfl, fun j z v h1 h2 => by
    match j with
    | 0 => simp at h1 h2; subst h1; subst h2; exact r1
    | 1 => simp at h1 h2; subst h1; subst h2; exact r2
    | j + 2 => simp at h1⟩
  obtain ⟨t1, t2⟩ := newTup (p := T) sq (by rw [lim_eq]; exact (lim_2 : 2 ≤ LIM)) hT
  exact ⟨t1, t2.keep⟩
end
/-! ### places of tuples in a suite -/
@[simp] theorem ap_Swap (i a b : Nat) (m : M PV) (s : Sl) : mSwap i a b m s = (m s).out fun z s1 => match z with
  | .tup [z1, z2] => (if PV.owns [z1, z2] = false then (match s1[a]?, s1[b]?, s1[i]? with
    | some (some (.int ja)), some (some (.int jb)), some (some (.lst true xs)) => (match ixN xs.length ja, ixN xs.length jb with
      | some n, some k => .nx (s1.set i (some (.lst true ((xs.set n z1).set k z2))))
      | _, _ => .bad)
    | _, _, _ => .bad) else .bad)
  | _ => .bad := Eq.trans rfl rfl
end Bv
set_option maxHeartbeats 1000000
namespace Bv
open PySem PySem.Spec PyProof.Rows L2
/-! ### defs called in the suite of an except clause: such as raise nothing there and walk over nothing -/
end Bv
set_option maxHeartbeats 1000000
namespace Bv
open PySem PySem.Spec PyProof.Rows L2
/-! ### == and in over rows of rows: numbers, texts, None -/
mutual
def pu : PV → Bool
  | .non => true
  | .int _ => true
  | .str x => PyData.strOk x
  | .tup xs => pus xs
  | .lst _ xs => pus xs
  | _ => false
def pus : List PV → Bool
  | [] => true
  | x :: r => pu x && pus r
end
mutual
def dpt : PV → Nat
  | .tup xs => dpts xs + 1
  | .lst _ xs => dpts xs + 1
  | _ => 0
def dpts : List PV → Nat
  | [] => 0
  | x :: r => max (dpt x) (dpts r)
end
mutual
def nf : PV → PV
  | .tup xs => .tup (nfs xs)
  | .lst _ xs => .lst false (nfs xs)
  | x => x
def nfs : List PV → List PV
  | [] => []
  | x :: r => nf x :: nfs r
end
mutual
def td : PV → PyData
  | .int i => .int i
  | .str x => .str x
  | .tup xs => .tuple (tds xs)
  | .lst _ xs => .list (tds xs)
  | _ => .none
def tds : List PV → List PyData
  | [] => []
  | x :: r => td x :: tds r
end
mutual
theorem toD_pu : ∀ {x : PV}, pu x = true → toD x = some (td x)
  | .non, _ => rfl
  | .bl _, h => by simp [pu] at h
  | .int _, _ => rfl
  | .str _, _ => rfl
  | .tup xs, h => by
    have e := toDs_pu (xs := xs) h
    simp only [toD, e, Option.map_some, td]
  | .lst o xs, h => by
    have e := toDs_pu (xs := xs) h
    simp only [toD, e, Option.map_some, td]
  | .dK _, h => by simp [pu] at h
  | .dT _, h => by simp [pu] at h
  | .sK _, h => by simp [pu] at h
theorem toDs_pu : ∀ {xs : List PV}, pus xs = true → toDs xs = some (tds xs)
  | [], _ => rfl
  | x :: r, h => by
    have h : (pu x && pus r) = true := h
    rw [Bool.and_eq_true] at h
    simp only [toDs, toD_pu h.1, toDs_pu h.2, tds]
end
mutual
theorem lay_pu : ∀ {x : PV}, pu x = true → (td x).canLay0 = true
  | .non, _ => rfl
  | .bl _, h => by simp [pu] at h
  | .int _, _ => rfl
  | .str _, h => h
  | .tup xs, h => lays_pu (xs := xs) h
  | .lst o xs, h => lays_pu (xs := xs) h
  | .dK _, h => by simp [pu] at h
  | .dT _, h => by simp [pu] at h
  | .sK _, h => by simp [pu] at h
theorem lays_pu : ∀ {xs : List PV}, pus xs = true → PyData.canLayAll0 (tds xs) = true
  | [], _ => rfl
  | x :: r, h => by
    have h : (pu x && pus r) = true := h
    rw [Bool.and_eq_true] at h
    show ((td x).canLay0 && PyData.canLayAll0 (tds r)) = true
    rw [lay_pu h.1, lays_pu h.2]
    rfl
end
mutual
theorem dep_pu : ∀ (x : PV), PyData.depth (td x) = dpt x
  | .non => rfl
  | .bl _ => rfl
  | .int _ => rfl
  | .str _ => rfl
  | .tup xs => congrArg (· + 1) (deps_pu xs)
  | .lst _ xs => congrArg (· + 1) (deps_pu xs)
  | .dK _ => rfl
  | .dT _ => rfl
  | .sK _ => rfl
theorem deps_pu : ∀ (xs : List PV), PyData.depthAll (tds xs) = dpts xs
  | [] => rfl
  | x :: r => by
    show max (PyData.depth (td x)) (PyData.depthAll (tds r)) = max (dpt x) (dpts r)
    rw [dep_pu x, deps_pu r]
end
theorem shaped_pu {x : PV} (h : pu x = true) (d : dpt x ≤ 64) : SeqAt.shaped (td x) = true := by
  unfold SeqAt.shaped
  rw [lay_pu h, dep_pu x]
  simpa using d
theorem shD_pu {x : PV} (h : pu x = true) (d : dpt x ≤ 64) : shD x = some (td x) := by
  unfold shD
  rw [toD_pu h]
  show (if SeqAt.shaped (td x) = true then some (td x) else none) = _
  rw [if_pos (shaped_pu h d)]
mutual
theorem eqv_pu : ∀ {x y : PV}, pu x = true → pu y = true → (PyData.eqv (td x) (td y) = true ↔ nf x = nf y)
  | .non, .non, _, _ => ⟨fun _ => rfl, fun _ => rfl⟩
  | .int i, .int j, _, _ => by
    show ((i == j) = true) ↔ _
    simp [nf]
  | .str a, .str b, _, _ => by
    show ((a == b) = true) ↔ _
    simp [nf]
  | .tup xs, .tup ys, h, g => by
    show PyData.eqvAll (tds xs) (tds ys) = true ↔ _
    rw [eqvs_pu h g]
    simp [nf]
  | .lst o xs, .lst o' ys, h, g => by
    show PyData.eqvAll (tds xs) (tds ys) = true ↔ _
    rw [eqvs_pu h g]
    simp [nf]
  | .non, .int _, _, _ | .non, .str _, _, _ | .non, .tup _, _, _ | .non, .lst _ _, _, _ => ⟨fun e => (by cases e), fun e => (by simp [nf] at e)⟩
  | .int _, .non, _, _ | .int _, .str _, _, _ | .int _, .tup _, _, _ | .int _, .lst _ _, _, _ => ⟨fun e => (by cases e), fun e => (by simp [nf] at e)⟩
  | .str _, .non, _, _ | .str _, .int _, _, _ | .str _, .tup _, _, _ | .str _, .lst _ _, _, _ => ⟨fun e => (by cases e), fun e => (by simp [nf] at e)⟩
  | .tup _, .non, _, _ | .tup _, .int _, _, _ | .tup _, .str _, _, _ | .tup _, .lst _ _, _, _ => ⟨fun e => (by cases e), fun e => (by simp [nf] at e)⟩
  | .lst _ _, .non, _, _ | .lst _ _, .int _, _, _ | .lst _ _, .str _, _, _ | .lst _ _, .tup _, _, _ => ⟨fun e => (by cases e), fun e => (by simp [nf] at e)⟩
  | .bl _, _, h, _ => by simp [pu] at h
  | .dK _, _, h, _ => by simp [pu] at h
  | .dT _, _, h, _ => by simp [pu] at h
  | .sK _, _, h, _ => by simp [pu] at h
  | .non, .bl _, _, h | .int _, .bl _, _, h | .str _, .bl _, _, h | .tup _, .bl _, _, h | .lst _ _, .bl _, _, h => by simp [pu] at h
  | .non, .dK _, _, h | .int _, .dK _, _, h | .str _, .dK _, _, h | .tup _, .dK _, _, h | .lst _ _, .dK _, _, h => by simp [pu] at h
  | .non, .dT _, _, h | .int _, .dT _, _, h | .str _, .dT _, _, h | .tup _, .dT _, _, h | .lst _ _, .dT _, _, h => by simp [pu] at h
  | .non, .sK _, _, h | .int _, .sK _, _, h | .str _, .sK _, _, h | .tup _, .sK _, _, h | .lst _ _, .sK _, _, h => by simp [pu] at h
theorem eqvs_pu : ∀ {xs ys : List PV}, pus xs = true → pus ys = true → (PyData.eqvAll (tds xs) (tds ys) = true ↔ nfs xs = nfs ys)
  | [], [], _, _ => ⟨fun _ => rfl, fun _ => rfl⟩
  | [], y :: s, _, _ => ⟨fun e => (by cases e), fun e => (by simp [nfs] at e)⟩
  | x :: r, [], _, _ => ⟨fun e => (by cases e), fun e => (by simp [nfs] at e)⟩
  | x :: r, y :: s, h, g => by
    have h : (pu x && pus r) = true := h
    have g : (pu y && pus s) = true := g
    rw [Bool.and_eq_true] at h g
    show ((PyData.eqv (td x) (td y) && PyData.eqvAll (tds r) (tds s)) = true) ↔ _
    rw [Bool.and_eq_true, eqv_pu h.1 g.1, eqvs_pu h.2 g.2]
    simp [nfs]
end
open Classical in
/-- x == y -/
theorem eq_pu (n : Bool) {x y : PV} (hx : pu x = true) (hy : pu y = true) (dx : dpt x ≤ 64) (dy : dpt y ≤ 64) : pEq n [x, y] = some (.bl (if n then !decide (nf x = nf y) else decide (nf x = nf y))) := by
  have e : PyData.eqv (td x) (td y) = decide (nf x = nf y) := by
    by_cases h : nf x = nf y
    · rw [(eqv_pu hx hy).mpr h]; simp [h]
    · cases h2 : PyData.eqv (td x) (td y) with
      | true => exact absurd ((eqv_pu hx hy).mp h2) h
      | false => simp [h]
  show (match shD x, shD y with
    | some d, some e => some (PV.bl (if n then !PyData.eqv d e else PyData.eqv d e))
    | _, _ => none) = _
  rw [shD_pu hx dx, shD_pu hy dy]
  dsimp only
  rw [e]
@[simp] theorem pu_int (i : Int) : pu (.int i) = true := rfl
@[simp] theorem pu_non : pu .non = true := rfl
@[simp] theorem pu_str (x : Str) : pu (.str x) = PyData.strOk x := rfl
@[simp] theorem pu_tup (xs : List PV) : pu (.tup xs) = pus xs := rfl
@[simp] theorem pu_lst (o : Bool) (xs : List PV) : pu (.lst o xs) = pus xs := rfl
@[simp] theorem pus_nil : pus [] = true := rfl
@[simp] theorem pus_cons (x : PV) (r : List PV) : pus (x :: r) = (pu x && pus r) := rfl
@[simp] theorem dpt_int (i : Int) : dpt (.int i) = 0 := rfl
@[simp] theorem dpt_non : dpt .non = 0 := rfl
@[simp] theorem dpt_str (x : Str) : dpt (.str x) = 0 := rfl
@[simp] theorem dpt_tup (xs : List PV) : dpt (.tup xs) = dpts xs + 1 := rfl
@[simp] theorem dpt_lst (o : Bool) (xs : List PV) : dpt (.lst o xs) = dpts xs + 1 := rfl
@[simp] theorem dpts_nil : dpts [] = 0 := rfl
@[simp] theorem dpts_cons (x : PV) (r : List PV) : dpts (x :: r) = max (dpt x) (dpts r) := rfl
theorem pus_of {xs : List PV} (h : ∀ x ∈ xs, pu x = true) : pus xs = true := by
  induction xs with
  | nil => rfl
  | cons x r ih => rw [pus_cons, h x List.mem_cons_self, ih fun z hz => h z (List.mem_cons_of_mem _ hz)]; rfl
theorem dpts_of {xs : List PV} {k : Nat} (h : ∀ x ∈ xs, dpt x ≤ k) : dpts xs ≤ k := by
  induction xs with
  | nil => exact Nat.zero_le _
  | cons x r ih =>
    have := h x List.mem_cons_self
    have := ih fun z hz => h z (List.mem_cons_of_mem _ hz)
    rw [dpts_cons]; omega
end Bv
set_option maxHeartbeats 1000000
namespace BvE
open PySem PySem.Spec PyProof.Rows L2
open PySem.Sem (wp)
/-! ### enumerate(tuple) -/
theorem meets_enumerate_newT (l : Addr) (items : Array Value) :
    Meets (Builtin.«enumerate.__new__» ⟨[.type "enumerate", .ref l], []⟩) (fun _ R s => s.heap.IsTuple l items ∧
      R (.ok (.ret (.ref (s.heap.push { cls := .type "tuple_iterator", data := .fields #[.ref l, .int 0 0] }).objs.size)))
        { s with heap := (s.heap.push { cls := .type "tuple_iterator", data := .fields #[.ref l, .int 0 0] }).push { cls := .type "enumerate", data := .fields #[.none, .bool false, .ref s.heap.objs.size, rawInt 0, .none, .none] } }) :=
  .of_wp fun prog w A R s h => by
    obtain ⟨hp, g, d, tk, os⟩ := s; obtain ⟨hL, h⟩ := h
    have hsub := sub_enumerate
    obtain ⟨o, hl, hc, n, hd⟩ := id hL
    wp_walk using wpAny_loadPart' hl
    refine wpAny_stack_any fun st => wpAny_pure ?_
    split
    · rename_i c _ _ _ _ _
      cases (c == Value.type "enumerate")
      · wp_walk using wpAny_loadPart' hl, wpAny_pyIter_tuple hL
        exact ⟨_, rfl, h⟩
      · wp_walk using wpAny_loadPart' hl, wpAny_pyIter_tuple hL
        exact ⟨_, rfl, h⟩
    · wp_walk using wpAny_loadPart' hl, wpAny_pyIter_tuple hL
      exact ⟨_, rfl, h⟩
section
variable {prog : Program} {w : World} {A : Around} {E : Value → Shared → Prop} {s : Shared}
theorem call_enumerate_tuple {l : Addr} {items : Array Value} {Q : Value → Shared → Prop} (hL : s.heap.IsTuple l items)
    (h : ∀ h', IsEnum h' (s.heap.objs.size + 1) s.heap.objs.size 0 .none → h'.IsTupleIter s.heap.objs.size l 0 → h'.objs.size = s.heap.objs.size + 2 →
      (∀ b o, s.heap.get? b = some o → h'.get? b = some o) → Q (.ref (s.heap.objs.size + 1)) { s with heap := h' }) :
    wpAny (model prog w) A (call (.type "enumerate") [.ref l]) Q E s := by
  refine callType_new F.called_enumerate (by decide) (F.typeCall_enumerate_1 _) (F.newCall_enumerate_1 _) (fun obj => F.args_object_init_2 obj _) F.entry_enumerate_new
    (meets_enumerate_newT l items) ⟨hL, ?_⟩
  have hz : (s.heap.push { cls := .type "tuple_iterator", data := .fields #[.ref l, .int 0 0] }).objs.size = s.heap.objs.size + 1 := Heap.size_push ..
  show _ ∧ _
  rw [hz]
  have he : IsEnum ((s.heap.push { cls := .type "tuple_iterator", data := .fields #[.ref l, .int 0 0] }).push
      { cls := .type "enumerate", data := .fields #[.none, .bool false, .ref s.heap.objs.size, rawInt 0, .none, .none] }) (s.heap.objs.size + 1) s.heap.objs.size 0 .none := by
    have := Heap.get?_push_size (s.heap.push { cls := .type "tuple_iterator", data := .fields #[.ref l, .int 0 0] })
      (o := { cls := .type "enumerate", data := .fields #[.none, .bool false, .ref s.heap.objs.size, rawInt 0, .none, .none] }) rfl
    rw [hz] at this; exact this
  refine ⟨⟨_, he, rfl⟩, h _ he ⟨_, Heap.get?_push_of_some _ (Heap.get?_push_size _ rfl), rfl, rfl⟩ (by rw [Heap.size_push, hz]) fun b o x => Heap.get?_push_of_some _ (Heap.get?_push_of_some _ x)⟩
theorem enumT_end {e it t : Addr} {i : Int} {j : Nat} {items : Array Value} {old : Value} {Q : Option Value → Shared → Prop} (hh : A.handled = none)
    (he : IsEnum s.heap e it i old) (hit : s.heap.IsTupleIter it t j) (hl : s.heap.IsTuple t items) (hx : items[j]? = none)
    (hQ : ∀ h', Heap.ExtBut it s.heap h' → Q none { s with heap := h' }) : wpAny (model prog w) A (pyNext (.ref e)) Q E s := by
  have hT : s.TypeIs (.ref e) "enumerate" := ⟨_, he, rfl⟩
  unfold pyNext
  refine wpAny_bind (wpAny_attempt (wpAny_callSpecial?_slot (name := Str.ofString "__next__") hT F.slot_enumerate_next
    (wpAny_call_entry F.slot_enumerate_next hT F.entry_enumerate_next ?_ (F.args_enumerate_next_1 _))))
  show wpAny _ _ (field (.ref e) 2 >>= _) _ _ _
  refine wpAny_bind (wpAny_field he rfl (x := .ref it) rfl ?_)
  refine wpAny_bind (_root_.RZ.nextOf_tuple_end (show A.in1.handled = none from hh) hit hl hx fun h' x he' hx' => ?_)
  obtain ⟨o, ho, hc⟩ := hx'
  refine wpAny_bind (wpAny_isInstance (T := "StopIteration") (b := true) ⟨o, ho, hc⟩ isSubtype_stop ?_)
  exact wpAny_pure (hQ _ he')
end
def IteT (K : PySem.W.Frag) (a : Addr) : It :=
  ⟨fun i H => ∃ (xs : List V) (x : V), SqT K H a xs ∧ xs[i]? = some x, fun i H v H' => ∃ T x, v = .ref T ∧ H T = none ∧ H' = upd H T (.tup [.int (i : Nat), x]) ∧ ∀ xs, SqT K H a xs → xs[i]? = some x, fun i H => ∃ xs : List V, SqT K H a xs ∧ xs.length ≤ i⟩
theorem turn_enumT {P : Program} {w : World} {K : PySem.W.Frag} {elts : List Expr} {kk : Nat} {tpos : Pos} (a e it : Addr) :
    Turn P w K (.Tuple elts kk tpos) (IteT K a) [e, it] e (fun i h => (∃ old, IsEnum h e it ((i : Nat) : Int) old) ∧ h.IsTupleIter it a i ∧ e ≠ it ∧ a ≠ it ∧ a ≠ e) where
  mem := by simp
  obj := fun i h st b hb => by
    obtain ⟨⟨old, he⟩, ⟨o, ho, hc, hd⟩, _⟩ := st
    have e' : b = e ∨ b = it := by simpa using hb
    rcases e' with z | z
    · rw [z]; exact ⟨_, he, fun v q => nomatch q⟩
    · rw [z]; exact ⟨o, ho, fun v q => by rw [hd] at q; cases q⟩
  keep := fun i h h' st k => let ⟨⟨old, he⟩, hi, hne⟩ := st; ⟨⟨old, k e (by simp) _ he⟩, hi.at fun o q => k it (by simp) o q, hne⟩
  item := by
    intro X hP hw hK hc i pins s σ H E I hf st hg
    subst hP hw hK
    obtain ⟨⟨old, he⟩, hit, hne, hai, hae⟩ := st
    obtain ⟨xs, x, hq, hx⟩ := hg
    obtain ⟨its, rv, p, hz⟩ := I.tuple hq
    have p : s.heap.IsTuple a its.toArray := p
    obtain ⟨u, hu, ru⟩ := rv.get hx
    have hel : e < s.heap.objs.size := Heap.lt_size he
    have hil : it < s.heap.objs.size := by obtain ⟨_, q, _⟩ := hit; exact Heap.lt_size q
    have hlt : i < its.toArray.size := by
      have := (List.getElem?_eq_some_iff.mp hu).1
      simpa using this
    refine wpAny_pyNext_enum_itemD (Draws.tuple (A := X.A.in1) (I.ok.hd hc) it a hai its.toArray) he ⟨hit, p⟩ hlt hne (by simp; exact ⟨hne, fun z => hae z.symm⟩) fun x' h' tk hP ho hs' hT hsz hk => ?_
    obtain ⟨hit', _⟩ := hs'
    have ex : x' = u := by
      have h1 : its.toArray[i]? = some x' := hP
      have h2 : its.toArray[i]? = some u := by simpa using hu
      rw [h1] at h2
      exact Option.some.inj h2
    subst ex
    refine ⟨_, rfl, wpAny_letOwnedTupleGo_enum (s := { s with heap := h', toks := tk + 1 }) ho fun h'' he' sb => ?_⟩
    have hT2 : h''.get? s.heap.objs.size = some { cls := .type "tuple", data := .seq #[.int i tk, x'] } := (sb.2 _ (Nat.ne_of_gt hel)).trans hT
    have new : ObjOk X.prog X.w (upd H s.heap.objs.size (.tup [.int (i : Nat), x])) h'' s.heap.objs.size (.tup [.int (i : Nat), x]) :=
      ⟨by show 2 ≤ sizeLine; decide, [.int i tk, x'], .cons ⟨_, rfl⟩ (.cons ru .nil), ⟨_, hT2, rfl, _, rfl⟩⟩
    have I1 : Inv X pins σ (upd H s.heap.objs.size (.tup [.int (i : Nat), x])) { s with heap := h'', toks := tk + 1 } :=
      I.turnedNew (ch := [e, it]) (fun b ob hb q => (sb.2 b (fun z => hb (by simp [z]))).trans (hk b ob (fun z => hb (by simp [z])) (fun z => hb (by simp [z])) q)) hf (Nat.le_refl _) new
    refine ⟨.ref s.heap.objs.size, _, I1, rfl, ⟨_, x, rfl, I.hok.fresh (Nat.le_refl _), rfl, fun ys hy => by rw [I.tuple_inj hy hq]; exact hx⟩, ⟨⟨x', ?_⟩, hit'.at fun o q => (sb.2 it (Ne.symm hne)).trans q, hne, hai, hae⟩, fun b hb => ?_⟩
    · have e1 : ((i + 1 : Nat) : Int) = (i : Int) + 1 := by omega
      rw [e1]; exact he'
    · have hb' : b < s.heap.objs.size := by
        have e' : b = e ∨ b = it := by simpa using hb
        rcases e' with z | z
        · rw [z]; exact hel
        · rw [z]; exact hil
      rw [upd_ne (Nat.ne_of_lt hb')]
      exact (hf b hb).1
  done := by
    intro X hP hw hK hc i pins s σ H E I hf st hg
    subst hP hw hK
    obtain ⟨⟨old, he⟩, hit, hne, _⟩ := st
    obtain ⟨xs, hq, hx⟩ := hg
    obtain ⟨its, rv, p, hz⟩ := I.tuple hq
    have p : s.heap.IsTuple a its.toArray := p
    obtain ⟨f0, f1, f2, f3, f4, f5⟩ := hf it (by simp)
    have hl := rv.length
    exact enumT_end (I.ok.hd hc) he hit p (by simp; omega) fun h' eb => ⟨rfl, I.turned (t' := s.toks) (fun b o hb q => eb b o hb q) f0 f1 f3 f4 f5⟩
  self := fun A i s Q E st h => let ⟨⟨_, he⟩, _⟩ := st; wpAny_pyIter_enum he h
theorem pi_enumA {X : Cx} {e : Expr} {ta : TA} {p pos tpos : Pos} {elts : List Expr} {kk : Nat} (hg : Gl X "enumerate") (hm : X.mg "enumerate" = none) (ha : PA X [e] ta) (hs : starEach [e] X.env = [(false, eval e X.env)]) :
    PI X (.Tuple elts kk tpos) (.Call (.Name "enumerate" p) [e] [] pos) (fun σ H R => ta σ H fun vs H1 => ∃ a xs, vs = [.ref a] ∧ ((SqL X.K H1 a xs ∧ R (Ite X.K a) H1) ∨ (SqT X.K H1 a xs ∧ R (IteT X.K a) H1))) := by
  refine ⟨fun pins s σ H R I h => ?_⟩
  refine Call_ (ld_blt I hg hm boot_enumerate (PyProof.Rows.callWith_type1 (thn (ha.run pos pins s σ H _ I h) fun us s1 ⟨vs, H1, I1, r1, q1⟩ => ?_) hs rfl))
  obtain ⟨a, xs, ex, hq⟩ := q1
  subst ex
  cases r1 with
  | cons r rr =>
    cases rr
    cases r
    have fresh : ∀ b, b = s1.heap.objs.size + 1 ∨ b = s1.heap.objs.size → FpOk X pins H1 b := fun b e' => by
      have hle : s1.heap.objs.size ≤ b := by
        rcases e' with z | z
        · rw [z]; exact Nat.le_add_right _ _
        · rw [z]; exact Nat.le_refl _
      exact I1.fpOk hle (I1.hok.fresh hle)
    rcases hq with ⟨hq, q⟩ | ⟨hq, q⟩
    · obtain ⟨its, rv, p', hz⟩ := I1.list hq
      refine call_enumerate_list p'.isList fun h' he hit hsz hk => wpAny_pyIter_enum he ?_
      have I2 : Inv X pins σ H1 { s1 with heap := h' } := I1.kept (t' := s1.toks) hk
      exact ⟨s1.heap.objs.size + 1, [s1.heap.objs.size + 1, s1.heap.objs.size], _, _, H1, rfl, I2, turn_enum a (s1.heap.objs.size + 1) s1.heap.objs.size, ⟨⟨.none, he⟩, hit, Nat.succ_ne_self _⟩, fun b hb => fresh b (by simpa using hb), q⟩
    · obtain ⟨its, rv, p', hz⟩ := I1.tuple hq
      have p' : s1.heap.IsTuple a its.toArray := p'
      have hal : a < s1.heap.objs.size := by obtain ⟨_, q, _⟩ := p'; exact Heap.lt_size q
      refine call_enumerate_tuple p' fun h' he hit hsz hk => wpAny_pyIter_enum he ?_
      have I2 : Inv X pins σ H1 { s1 with heap := h' } := I1.kept (t' := s1.toks) hk
      exact ⟨s1.heap.objs.size + 1, [s1.heap.objs.size + 1, s1.heap.objs.size], _, _, H1, rfl, I2, turn_enumT a (s1.heap.objs.size + 1) s1.heap.objs.size, ⟨⟨.none, he⟩, hit, Nat.succ_ne_self _, Nat.ne_of_lt hal, Nat.ne_of_lt (Nat.lt_succ_of_lt hal)⟩, fun b hb => fresh b (by simpa using hb), q⟩
end BvE
namespace Bv
open PySem PySem.Spec PyProof.Rows L2
open BvE
def itEnumA : List PV → Option (List PV)
  | [.lst _ xs] => if PV.owns xs = false then some (enumP 0 xs) else none
  | [.tup xs] => if PV.owns xs = false then some (enumP 0 xs) else none
  | _ => none
section
variable {K : PySem.W.Frag} {X : Cx} {W : WX} {l : Expr} {p pos tpos : Pos} {elts : List Expr} {kk : Nat}
theorem si_enumA {o : M Pnd} (h : SO X W l o) (hg : Gl X "enumerate") (hm : X.mg "enumerate" = none) (hst : starEach [l] X.env = (false, eval l X.env) :: starEach [] X.env) (hs : starEach [l] X.env = [(false, eval l X.env)]) : SI X W (.Tuple elts kk tpos) (.Call (.Name "enumerate" p) [l] [] pos) (oCons o oNil) (fun vs H R => ∃ a xs, vs = [.ref a] ∧ ((SqL X.K H a xs ∧ R (Ite X.K a) H) ∨ (SqT X.K H a xs ∧ R (IteT X.K a) H))) :=
  pi_enumA hg hm (sa_cons h sa_nil hst) hs
theorem enum_pair {H' : Hp} {x y : PV} {u : V} {T : Addr} {i : Nat} (ru : Rep K H' y u Z0) (hT : H' T = none) : Rep K (upd H' T (.tup [.int ((i : Nat) : Int), u])) (.tup [.int ((0 + i : Nat)), y]) (.ref T) Z0 ∧ ∀ b o, H' b = some o → upd H' T (.tup [.int ((i : Nat) : Int), u]) b = some o := by
  rw [Nat.zero_add]
  exact pair_rep rep_int ru hT
theorem vi_enumA : VIt K itEnumA (fun vs H R => ∃ a xs, vs = [.ref a] ∧ ((SqL K H a xs ∧ R (Ite K a) H) ∨ (SqT K H a xs ∧ R (IteT K a) H))) := by
  intro H vals vs g xs R hr hf q
  match vals, hf with
  | [.lst o ys], hf =>
    obtain ⟨a, xs2, e1, e2, e3⟩ := vi_enum H _ vs g xs R hr (show itEnum [.lst o ys] = some xs from hf) q
    exact ⟨a, xs2, e1, .inl ⟨e2, e3⟩⟩
  | [.tup ys], hf =>
    obtain ⟨v, ws, g1, g2, rfl, r, ⟨rfl, z2⟩, hg⟩ := hr
    have hgg : ∀ b, g b = g1 b := fun b => by rw [hg b, z2 b]; rfl
    have r : Rep K H (.tup ys) v g := r.congr hgg
    simp only [itEnumA] at hf
    split at hf
    · rename_i n
      cases hf
      obtain ⟨a, va, rfl, ha, za, sa⟩ := id r.tupAt
      refine ⟨a, va, rfl, .inr ⟨ha, q _ (fun H' => Rep K H' (.tup ys) (.ref a) g) ⟨fun i H' hi hlt => ?_, fun H' hi => ?_, fun i H' v H2 x hi hx hy => ?_, fun H' H2 F k m d hi => hi.kept k m d⟩ r⟩⟩
      · obtain ⟨a', vb, e, hb, _, sb⟩ := hi.tupAt
        cases e
        have : i < vb.length := by rw [sb.length]; rw [enumP_len] at hlt; exact hlt
        exact ⟨vb, vb[i], hb, List.getElem?_eq_getElem this⟩
      · obtain ⟨a', vb, e, hb, _, sb⟩ := hi.tupAt
        cases e
        exact ⟨vb, hb, by rw [sb.length, enumP_len]; exact Nat.le_refl _⟩
      · obtain ⟨a', vb, e, hb, _, sb⟩ := hi.tupAt
        cases e
        obtain ⟨T, u, rfl, hT, rfl, hv⟩ := hy
        rw [enumP_get] at hx
        cases ey : ys[i]? with
        | none => rw [ey] at hx; cases hx
        | some y =>
          rw [ey] at hx
          have hx : PV.tup [.int ((0 + i : Nat)), y] = x := by simpa using hx
          subst hx
          have ru := (sb.seq n).at' i y u ey (hv vb hb)
          exact enum_pair (x := y) ru hT
    · cases hf
end
@[simp] theorem it_enumL (o : Bool) (xs : List PV) : itEnumA [.lst o xs] = if PV.owns xs = false then some (enumP 0 xs) else none := rfl
@[simp] theorem it_enumT (xs : List PV) : itEnumA [.tup xs] = if PV.owns xs = false then some (enumP 0 xs) else none := rfl
/-! ### list.count -/
section
variable {X : Cx} {W : WX} {o a : Expr} {pos apos : Pos} {oo oe : M Pnd}
def rCountD (K : PySem.W.Frag) : V → List V → Hp → VK → Prop := fun x xs H Q => ∃ (a : Addr) (y : V) (d : PyData) (ds : List PyData), x = V.ref a ∧ xs = [y] ∧ Dp K H (V.ref a) (.list ds) ∧ Dp K H y d ∧
  SeqAt.shaped (.list ds) = true ∧ SeqAt.shaped d = true ∧ Q (.int (ds.countP (fun z => PyData.eqv z d) : Nat)) H
theorem mt_countD (hu : X.A.units + 65 < cLine) : MtR X "list.count" (rCountD X.K) := by
  intro pins s σ H x xs v us Q I rx rxs h
  obtain ⟨a, y, d, ds, rfl, rfl, hl, hy, sl, sd, q⟩ := h
  cases rx
  cases rxs with
  | cons ry rt =>
    rename_i uy ut
    cases rt
    obtain ⟨bs, r1⟩ := Dp.reads I d y uy hy ry
    have hxs : PyData.canLayAll0 ds = true := SeqAt.canLay_of_shaped sl
    have hroom : X.A.units + 1 + min (PyData.depthAll ds) d.depth < cLine := room_in_shaped sd hu
    cases hl with
    | lst hs ha =>
      obtain ⟨its, rv, ⟨⟨cls, dd, data, sls⟩, n, ho, hc, hdn, hdt⟩, hlen⟩ := I.list hs
      simp only at hc hdt
      subst hc hdt
      obtain ⟨as, h4⟩ := Dp.readsAll I ds _ its ha rv
      have hmap : its.map (SeqAt.readOf s.heap) = ds := SeqAt.readsAll_map ds its as hxs h4
      refine call_meets PySem.F.slot_list_count ⟨_, ho, rfl⟩ PySem.F.entry_list_count (PySem.F.args_list_count_2 _ _)
        (SeqAt.list_countAt a its.toArray n dd sls uy (fun u => PyData.eqv (SeqAt.readOf s.heap u) d)) ⟨ho, SeqAt.items_eqAt (vs := its.toArray) (show ReadsAll s.heap its.toArray.toList ds as from h4) r1 hxs (SeqAt.canLay_of_shaped sd) hroom, ?_⟩
      have e : its.toArray.toList.countP (fun u => PyData.eqv (SeqAt.readOf s.heap u) d) = ds.countP (fun z => PyData.eqv z d) := by
        rw [← hmap, List.countP_map]
        rfl
      rw [e]
      exact ⟨.int (ds.countP (fun z => PyData.eqv z d) : Nat), H, I.tok _, ⟨_, rfl⟩, q⟩
def pLCount : List PV → Option PV
  | [.lst _ ys, x] => match shD x, toDs ys with
    | some d, some ds => if SeqAt.shaped (.list ds) = true then some (.int (ds.countP (fun z => PyData.eqv z d) : Nat)) else none
    | _, _ => none
  | _ => none
theorem vo_lcount {K : PySem.W.Frag} : VOp K pLCount (fun vs H Q => ∃ x y, vs = [x, y] ∧ rCountD K x [y] H Q) := by
  intro H xs vs z Q hr hf q
  match xs, hf with
  | [.lst o ys, x], hf =>
    obtain ⟨v, w, g, k, rfl, rl, rx⟩ := rw2 hr
    simp only [pLCount] at hf
    cases e1 : shD x with
    | none => rw [e1] at hf; cases hf
    | some d =>
      cases e2 : toDs ys with
      | none => rw [e1, e2] at hf; cases hf
      | some ds =>
        rw [e1, e2] at hf
        dsimp only at hf
        split at hf
        · rename_i hs
          cases hf
          obtain ⟨a1, a2⟩ := shD_ok e1
          have rl' := rl
          obtain ⟨p, va, ga, ep, ha, za, sa⟩ := rl'.lstAt
          subst ep
          exact ⟨_, _, rfl, p, w, d, ds, rfl, rfl, dp_of rl (by simp only [toD, e2, Option.map_some]), dp_of rx a1, hs, a2, q _ H Z0 rep_int (fr0 H)⟩
        · cases hf
theorem se_lcount (hu : X.A.units + 65 < cLine) (ho : SO X W o oo) (he : SO X W a oe)
    (hbase : attributeBase o "count" X.env (eval o X.env) = eval o X.env := by rfl)
    (hfew : ((backTo pos (starEach [a] X.env)).all (fun x => !x.1) && (backToKw pos (keywordEach [] X.env)).all (fun x => x.1.isSome)
      && decide ([a].length + ([] : List Keyword).length + (if ([] : List Keyword).isEmpty then 0 else 1) < 30)) = true := by rfl)
    (hline : (apos.endLine == pos.line) = true := by rfl) (hs : starEach [a] X.env = (false, eval a X.env) :: starEach [] X.env := by rfl) (hplain : (backTo pos (starEach [] X.env)).any (·.1) = false := by rfl) :
    SE X W (.Call (.Attribute o "count" apos) [a] [] pos) (mLst1 pLCount oo oe) :=
  PE.weaken (pe_bm PySem.F.plainAttrs_list PySem.F.slot_list_count PySem.F.type_list_count (mt_countD hu) ho (sa_cons he sa_nil hs) hbase hfew hline hs hplain) fun σ H Q q => lst1_end vo_lcount q
end
/-- how often a value stands in a list of data -/
theorem lcount_pu (o : Bool) {x : PV} {ys : List PV} (hx : pu x = true) (hy : pus ys = true) (dx : dpt x ≤ 64) (dy : dpts ys ≤ 63) : pLCount [.lst o ys, x] = some (.int (ys.countP (fun z => @decide (nf z = nf x) (Classical.propDecidable _)) : Nat)) := by
  have hs : SeqAt.shaped (.list (tds ys)) = true := shaped_pu (x := .lst true ys) hy (by show dpts ys + 1 ≤ 64; omega)
  have e : (tds ys).countP (fun z => PyData.eqv z (td x)) = ys.countP (fun z => @decide (nf z = nf x) (Classical.propDecidable _)) := by
    clear hs dy
    induction ys with
    | nil => rfl
    | cons y r ih =>
      have hy : (pu y && pus r) = true := hy
      rw [Bool.and_eq_true] at hy
      have h := eqv_pu hy.1 hx
      show (td y :: tds r).countP _ = _
      rw [List.countP_cons, List.countP_cons, ih hy.2]
      congr 1
      by_cases c : nf y = nf x
      · rw [if_pos (h.mpr c), if_pos (by simpa using c)]
      · rw [if_neg (fun z => c (h.mp z)), if_neg (by simpa using c)]
  show (match shD x, toDs ys with
    | some d, some ds => if SeqAt.shaped (.list ds) = true then some (PV.int (ds.countP (fun z => PyData.eqv z d) : Nat)) else none
    | _, _ => none) = _
  rw [shD_pu hx dx, toDs_pu hy]
  show (if SeqAt.shaped (.list (tds ys)) = true then some (PV.int ((tds ys).countP (fun z => PyData.eqv z (td x)) : Nat)) else none) = _
  rw [if_pos hs, e]
end Bv
set_option maxHeartbeats 1000000
namespace Bv
open PySem PySem.Spec PyProof.Rows L2
/-! ### list * int -/
def rMul3 (K : PySem.W.Frag) : R2 := fun x y H Q => rMul2 K x y H Q ∨ rRep x y H Q
section
variable {X : Cx}
theorem op_mul3 : OpR X (binaryOp .Mult) (rMul3 X.K) := op_mul2.or op_rep
end
noncomputable def pMul3 : List PV → Option PV
  | [.lst true xs, .int k] => @ite _ (PV.owns xs = false ∧ xs.length ≤ 1000 ∧ 0 ≤ k ∧ k ≤ 1000) (Classical.propDecidable _) (some (.lst true (List.replicate k.toNat xs).flatten)) none
  | xs => pMul2 xs
theorem flat_len {α : Type} (n : Nat) (xs : List α) : (List.replicate n xs).flatten.length = n * xs.length := by
  induction n with
  | zero => simp
  | succ n ih => rw [List.replicate_succ, List.flatten_cons, List.length_append, ih, Nat.succ_mul]; omega
section
variable {K : PySem.W.Frag}
theorem vo_mul3 : VOp K pMul3 (r2L (rMul3 K)) := by
  intro H xs vs z Q hr hf q
  unfold pMul3 at hf
  split at hf
  · rename_i ys k
    split at hf
    · rename_i hc
      obtain ⟨n1, n2, n3, n4⟩ := hc
      cases hf
      obtain ⟨v, w, g, l, rfl, ra, ⟨rfl, _⟩⟩ := rw2 hr
      obtain ⟨a, va, ga, rfl, ha, za, sa, _⟩ := id ra
      have ta := sa.seq n1
      have hl : va.length = ys.length := ta.len
      have hs : sizeLine = 16777216 := sizeLine_eq
      have hm : ys.length * k.toNat ≤ 1000 * 1000 := Nat.mul_le_mul n2 (by omega)
      refine ⟨_, _, rfl, .inr ⟨a, k, va, rfl, rfl, ha, by omega, by omega, by rw [hl]; omega, fun p np => ?_⟩⟩
      obtain ⟨t1, t2⟩ := newLst (p := p) (ta.flat k.toNat) (by rw [flat_len, Nat.mul_comm]; omega) np
      exact q _ _ _ t1 t2
    · cases hf
  · obtain ⟨x, y, e, h⟩ := vo_mul2 H _ vs z Q hr hf q
    exact ⟨x, y, e, .inl h⟩
end
end Bv
set_option maxHeartbeats 1000000
namespace Bv
open PySem PySem.Spec PyProof.Rows L2
/-! ### x is True, x is not True of bools -/
/-! ### sorted(list of ints) -/
def insI (x : Int) : List Int → List Int
  | [] => [x]
  | y :: r => if x ≤ y then x :: y :: r else y :: insI x r
def sortI : List Int → List Int
  | [] => []
  | x :: r => insI x (sortI r)
def pSorted : List PV → Option PV
  | [.lst _ xs] => match intsP xs with
    | some ns => if ns.length < 64 then some (.lst true ((sortI ns).map PV.int)) else none
    | none => none
  | _ => none
@[simp] theorem pp_sorted (o : Bool) (xs : List PV) : pSorted [.lst o xs] = match intsP xs with
    | some ns => if ns.length < 64 then some (.lst true ((sortI ns).map PV.int)) else none
    | none => none := Eq.trans rfl rfl
/-! ### a, b, c = x, y, z -/
section
variable {X : Cx} {W : WX} {pn : List Nat} {pos : Pos}
def mPar3 (i j l : Nat) (ms : M (List PV)) : MS := fun s => (ms s).out fun xs s' => match xs with | [x, y, z] => .nx (((s'.set i (some x)).set j (some y)).set l (some z)) | _ => .bad
end
@[simp] theorem ap_par3 (i j l : Nat) (ms : M (List PV)) (s : Sl) : mPar3 i j l ms s = (ms s).out fun xs s' => match xs with | [x, y, z] => .nx (((s'.set i (some x)).set j (some y)).set l (some z)) | _ => .bad := Eq.trans rfl rfl
end Bv
set_option maxHeartbeats 4000000
namespace K04
open PySem PySem.Spec PyProof.Rows L2 Bv
def tS (i : Nat) : Stmt := PySem.Challenge.pw_ratewarrant_k04_rates_before_and_makers.main.body.getD i (.Pass ⟨0, 0, 0, 0⟩)
/-- what the top has written -/
structure Tx (P : Program) (w : World) (K : PySem.W.Frag) (mg : Str → Option Value) (base : Heap) (aBadThing aRateError : Addr) : Prop where
  b_ValueError : mg "ValueError" = none
  b_abs : mg "abs" = none
  b_all : mg "all" = none
  b_any : mg "any" = none
  b_bool : mg "bool" = none
  b_enumerate : mg "enumerate" = none
  b_int : mg "int" = none
  b_isinstance : mg "isinstance" = none
  b_len : mg "len" = none
  b_list : mg "list" = none
  b_range : mg "range" = none
  b_str : mg "str" = none
  b_sum : mg "sum" = none
  b_tuple : mg "tuple" = none
  c_FAR : ∃ t, mg "FAR" = some (.int 1000000 t)
  c_LETTERS : ∃ t, mg "LETTERS" = some (.str "abcdefghijklmnopqrstuvwxyz" t)
  c_MODULUS : ∃ t, mg "MODULUS" = some (.int 9973 t)
  c_MOST_BLOCKS : ∃ t, mg "MOST_BLOCKS" = some (.int 60 t)
  c_MOST_NAME : ∃ t, mg "MOST_NAME" = some (.int 16 t)
  c_MOST_PHASES : ∃ t, mg "MOST_PHASES" = some (.int 6 t)
  c_MOST_QUEUES : ∃ t, mg "MOST_QUEUES" = some (.int 160 t)
  c_MOST_RATE : ∃ t, mg "MOST_RATE" = some (.int 12 t)
  c_MOST_START : ∃ t, mg "MOST_START" = some (.int 60 t)
  c_MOST_TIME : ∃ t, mg "MOST_TIME" = some (.int 60 t)
  c_SIGNS : ∃ t, mg "SIGNS" = some (.str "abcdefghijklmnopqrstuvwxyz0123456789_." t)
  m_BadThing : mg "BadThing" = some (.ref aBadThing)
  m_RateError : mg "RateError" = some (.ref aRateError)
  x_BadThing : XB P w K mg base 1 "BadThing" ["part"]
  e_BadThing_BadThing : PySem.W.exmOne K (.ref aBadThing) (.ref aBadThing) = some true
  g_BadThing : XfC K aBadThing
  n_BadThing_part : PySem.W.findIn K (.ref aBadThing) "part" = some none
  i_BadThing : L2.ExcC K aBadThing
  k_BadThing_RateError : PySem.W.kitOne K (.ref aBadThing) (.ref aRateError) = some true
  k_BadThing_ValueError : PySem.W.kitOne K (.ref aBadThing) (.type "ValueError") = some true
  f_whole : ∃ f fd, L2.Fun K "whole" "whole" (tS 14) f fd ∧ mg "whole" = some (.ref f) ∧ L2.Binds K fd ["thing", "low", "high"] []
  f_is_numbers : ∃ f fd, L2.Fun K "is_numbers" "is_numbers" (tS 15) f fd ∧ mg "is_numbers" = some (.ref f) ∧ L2.Binds K fd ["thing", "low", "high"] []
  f_is_name : ∃ f fd, L2.Fun K "is_name" "is_name" (tS 16) f fd ∧ mg "is_name" = some (.ref f) ∧ L2.Binds K fd ["thing"] []
  f_is_times : ∃ f fd, L2.Fun K "is_times" "is_times" (tS 17) f fd ∧ mg "is_times" = some (.ref f) ∧ L2.Binds K fd ["thing"] []
  f_is_deed : ∃ f fd, L2.Fun K "is_deed" "is_deed" (tS 18) f fd ∧ mg "is_deed" = some (.ref f) ∧ L2.Binds K fd ["thing"] []
  f_is_block : ∃ f fd, L2.Fun K "is_block" "is_block" (tS 19) f fd ∧ mg "is_block" = some (.ref f) ∧ L2.Binds K fd ["thing"] []
  f_is_rates : ∃ f fd, L2.Fun K "is_rates" "is_rates" (tS 20) f fd ∧ mg "is_rates" = some (.ref f) ∧ L2.Binds K fd ["thing", "size"] []
  f_is_start : ∃ f fd, L2.Fun K "is_start" "is_start" (tS 21) f fd ∧ mg "is_start" = some (.ref f) ∧ L2.Binds K fd ["thing"] []
  f_is_queue : ∃ f fd, L2.Fun K "is_queue" "is_queue" (tS 22) f fd ∧ mg "is_queue" = some (.ref f) ∧ L2.Binds K fd ["thing", "blocks"] []
  f_is_graph : ∃ f fd, L2.Fun K "is_graph" "is_graph" (tS 23) f fd ∧ mg "is_graph" = some (.ref f) ∧ L2.Binds K fd ["thing"] []
  f_check_graph : ∃ f fd, L2.Fun K "check_graph" "check_graph" (tS 24) f fd ∧ mg "check_graph" = some (.ref f) ∧ L2.Binds K fd ["graph"] []
  f_is_place : ∃ f fd, L2.Fun K "is_place" "is_place" (tS 25) f fd ∧ mg "is_place" = some (.ref f) ∧ L2.Binds K fd ["thing", "many"] []
  f_phases : ∃ f fd, L2.Fun K "phases" "phases" (tS 28) f fd ∧ mg "phases" = some (.ref f) ∧ L2.Binds K fd ["graph", "block"] []
  f_check_block : ∃ f fd, L2.Fun K "check_block" "check_block" (tS 29) f fd ∧ mg "check_block" = some (.ref f) ∧ L2.Binds K fd ["graph", "block"] []
  f_check_queue : ∃ f fd, L2.Fun K "check_queue" "check_queue" (tS 30) f fd ∧ mg "check_queue" = some (.ref f) ∧ L2.Binds K fd ["graph", "queue"] []
  f_sum_before : ∃ f fd, L2.Fun K "sum_before" "sum_before" (tS 31) f fd ∧ mg "sum_before" = some (.ref f) ∧ L2.Binds K fd ["rates", "firing"] []
  f_firing_with : ∃ f fd, L2.Fun K "firing_with" "firing_with" (tS 32) f fd ∧ mg "firing_with" = some (.ref f) ∧ L2.Binds K fd ["rates", "token"] []
  f_incoming : ∃ f fd, L2.Fun K "incoming" "incoming" (tS 33) f fd ∧ mg "incoming" = some (.ref f) ∧ L2.Binds K fd ["graph", "block"] []
  f_outgoing : ∃ f fd, L2.Fun K "outgoing" "outgoing" (tS 34) f fd ∧ mg "outgoing" = some (.ref f) ∧ L2.Binds K fd ["graph", "block"] []
  f_into : ∃ f fd, L2.Fun K "into" "into" (tS 35) f fd ∧ mg "into" = some (.ref f) ∧ L2.Binds K fd ["graph", "block"] []
  f_out_of : ∃ f fd, L2.Fun K "out_of" "out_of" (tS 36) f fd ∧ mg "out_of" = some (.ref f) ∧ L2.Binds K fd ["graph", "block"] []
  f_given_before : ∃ f fd, L2.Fun K "given_before" "given_before" (tS 37) f fd ∧ mg "given_before" = some (.ref f) ∧ L2.Binds K fd ["graph", "queue", "firing"] []
  f_taken_before : ∃ f fd, L2.Fun K "taken_before" "taken_before" (tS 38) f fd ∧ mg "taken_before" = some (.ref f) ∧ L2.Binds K fd ["graph", "queue", "firing"] []
  f_producer : ∃ f fd, L2.Fun K "producer" "producer" (tS 39) f fd ∧ mg "producer" = some (.ref f) ∧ L2.Binds K fd ["graph", "queue", "token"] []
  f_L_begin : ∃ f fd, L2.Fun K "_law_begin" "_law_begin" (tS 41) f fd ∧ mg "_law_begin" = some (.ref f) ∧ L2.Binds K fd ["script"] []
  f_L_draw : ∃ f fd, L2.Fun K "_law_draw" "_law_draw" (tS 42) f fd ∧ mg "_law_draw" = some (.ref f) ∧ L2.Binds K fd ["d", "many"] []
  f_L_pick : ∃ f fd, L2.Fun K "_law_pick" "_law_pick" (tS 43) f fd ∧ mg "_law_pick" = some (.ref f) ∧ L2.Binds K fd ["d", "row"] []
  f_L_pop : ∃ f fd, L2.Fun K "_law_pop" "_law_pop" (tS 44) f fd ∧ mg "_law_pop" = some (.ref f) ∧ L2.Binds K fd ["d", "row"] []
  f_L_rare : ∃ f fd, L2.Fun K "_law_rare" "_law_rare" (tS 45) f fd ∧ mg "_law_rare" = some (.ref f) ∧ L2.Binds K fd ["d", "many"] []
  f_L_pool : ∃ f fd, L2.Fun K "_law_pool" "_law_pool" (tS 46) f fd ∧ mg "_law_pool" = some (.ref f) ∧ L2.Binds K fd [] []
  f_L_is_int : ∃ f fd, L2.Fun K "_law_is_int" "_law_is_int" (tS 47) f fd ∧ mg "_law_is_int" = some (.ref f) ∧ L2.Binds K fd ["thing"] []
  f_L_is_ints : ∃ f fd, L2.Fun K "_law_is_ints" "_law_is_ints" (tS 48) f fd ∧ mg "_law_is_ints" = some (.ref f) ∧ L2.Binds K fd ["row"] []
  f_L_token : ∃ f fd, L2.Fun K "_law_token" "_law_token" (tS 49) f fd ∧ mg "_law_token" = some (.ref f) ∧ L2.Binds K fd ["d"] []
  f_L_tokens : ∃ f fd, L2.Fun K "_law_tokens" "_law_tokens" (tS 50) f fd ∧ mg "_law_tokens" = some (.ref f) ∧ L2.Binds K fd ["d", "many"] []
  f_L_before : ∃ f fd, L2.Fun K "_law_before" "_law_before" (tS 51) f fd ∧ mg "_law_before" = some (.ref f) ∧ L2.Binds K fd ["rates", "firing"] []
  f_L_row : ∃ f fd, L2.Fun K "_law_row" "_law_row" (tS 52) f fd ∧ mg "_law_row" = some (.ref f) ∧ L2.Binds K fd ["d", "size"] []
  f_L_made : ∃ f fd, L2.Fun K "_law_made" "_law_made" (tS 53) f fd ∧ mg "_law_made" = some (.ref f) ∧ L2.Binds K fd ["d"] []
  f_L_number : ∃ f fd, L2.Fun K "_law_number" "_law_number" (tS 54) f fd ∧ mg "_law_number" = some (.ref f) ∧ L2.Binds K fd ["d"] []
  f_L_sum : ∃ f fd, L2.Fun K "_law_sum" "_law_sum" (tS 55) f fd ∧ mg "_law_sum" = some (.ref f) ∧ L2.Binds K fd ["rates", "firing"] []
  f_L_right : ∃ f fd, L2.Fun K "_law_right" "_law_right" (tS 56) f fd ∧ mg "_law_right" = some (.ref f) ∧ L2.Binds K fd ["which", "row", "number", "told"] []
  f_L_told : ∃ f fd, L2.Fun K "_law_told" "_law_told" (tS 57) f fd ∧ mg "_law_told" = some (.ref f) ∧ L2.Binds K fd ["which", "graph", "queue", "number"] []
  f_L_block_refused : ∃ f fd, L2.Fun K "_law_block_refused" "_law_block_refused" (tS 58) f fd ∧ mg "_law_block_refused" = some (.ref f) ∧ L2.Binds K fd ["d", "graph"] []
  f_L_ends : ∃ f fd, L2.Fun K "_law_ends" "_law_ends" (tS 59) f fd ∧ mg "_law_ends" = some (.ref f) ∧ L2.Binds K fd ["graph"] []
  f_L_turn : ∃ f fd, L2.Fun K "_law_turn" "_law_turn" (tS 60) f fd ∧ mg "_law_turn" = some (.ref f) ∧ L2.Binds K fd ["d", "graph"] []
  f_L_refused : ∃ f fd, L2.Fun K "_law_refused" "_law_refused" (tS 61) f fd ∧ mg "_law_refused" = some (.ref f) ∧ L2.Binds K fd ["d", "graph"] []
  f_L_in : ∃ f fd, L2.Fun K "_law_in" "_law_in" (tS 62) f fd ∧ mg "_law_in" = some (.ref f) ∧ L2.Binds K fd ["thing", "low", "high"] []
  f_L_row_in : ∃ f fd, L2.Fun K "_law_row_in" "_law_row_in" (tS 63) f fd ∧ mg "_law_row_in" = some (.ref f) ∧ L2.Binds K fd ["thing", "low", "high", "least", "most"] []
  f_L_named : ∃ f fd, L2.Fun K "_law_named" "_law_named" (tS 64) f fd ∧ mg "_law_named" = some (.ref f) ∧ L2.Binds K fd ["thing"] []
  f_L_block_due : ∃ f fd, L2.Fun K "_law_block_due" "_law_block_due" (tS 65) f fd ∧ mg "_law_block_due" = some (.ref f) ∧ L2.Binds K fd ["thing"] []
  f_L_queue_due : ∃ f fd, L2.Fun K "_law_queue_due" "_law_queue_due" (tS 66) f fd ∧ mg "_law_queue_due" = some (.ref f) ∧ L2.Binds K fd ["thing", "blocks"] []
  f_L_graph_due : ∃ f fd, L2.Fun K "_law_graph_due" "_law_graph_due" (tS 67) f fd ∧ mg "_law_graph_due" = some (.ref f) ∧ L2.Binds K fd ["thing"] []
  f_L_row_spoilt : ∃ f fd, L2.Fun K "_law_row_spoilt" "_law_row_spoilt" (tS 68) f fd ∧ mg "_law_row_spoilt" = some (.ref f) ∧ L2.Binds K fd ["d", "row", "high"] []
  f_L_name_spoilt : ∃ f fd, L2.Fun K "_law_name_spoilt" "_law_name_spoilt" (tS 69) f fd ∧ mg "_law_name_spoilt" = some (.ref f) ∧ L2.Binds K fd ["d", "names"] []
  f_L_block_spoilt : ∃ f fd, L2.Fun K "_law_block_spoilt" "_law_block_spoilt" (tS 70) f fd ∧ mg "_law_block_spoilt" = some (.ref f) ∧ L2.Binds K fd ["d", "block", "names"] []
  f_L_queue_spoilt : ∃ f fd, L2.Fun K "_law_queue_spoilt" "_law_queue_spoilt" (tS 71) f fd ∧ mg "_law_queue_spoilt" = some (.ref f) ∧ L2.Binds K fd ["d", "queue", "many"] []
  f_L_graph_spoilt : ∃ f fd, L2.Fun K "_law_graph_spoilt" "_law_graph_spoilt" (tS 72) f fd ∧ mg "_law_graph_spoilt" = some (.ref f) ∧ L2.Binds K fd ["d", "graph"] []
  f_L_door : ∃ f fd, L2.Fun K "_law_door" "_law_door" (tS 73) f fd ∧ mg "_law_door" = some (.ref f) ∧ L2.Binds K fd ["which", "thing"] []
  f_L_same : ∃ f fd, L2.Fun K "_law_same" "_law_same" (tS 74) f fd ∧ mg "_law_same" = some (.ref f) ∧ L2.Binds K fd ["told", "due"] []
  f_L_kinds : ∃ f fd, L2.Fun K "_law_kinds" "_law_kinds" (tS 75) f fd ∧ mg "_law_kinds" = some (.ref f) ∧ L2.Binds K fd ["d", "graph"] []
  f_L_graphs : ∃ f fd, L2.Fun K "_law_graphs" "_law_graphs" (tS 76) f fd ∧ mg "_law_graphs" = some (.ref f) ∧ L2.Binds K fd ["d", "graph"] []
  f_law : ∃ f fd, L2.Fun K "law" "law" (tS 77) f fd ∧ mg "law" = some (.ref f) ∧ L2.Binds K fd ["script"] []
variable {P : Program} {w : World} {K : PySem.W.Frag} {mg : Str → Option Value} {base : Heap} {aBadThing aRateError : Addr}
/-! ### _law_begin -/
abbrev s_L_begin : Stmt := tS 41
theorem sc_L_begin : FnScope ["script", "cell"] ["script"] (defScope s_L_begin) := ⟨rfl, rfl, rfl, by decide +kernel, rfl, by decide +kernel, by decide +kernel⟩
noncomputable def m_L_begin : MS := mRet (mLst (vCons (mFz (mComp (oCons (oN 0) oNil) itSeq (t1 1) (mYes) (mOp pInt1 (oCons (oN 1) (oNil))) [1])) (vCons (mC (.int 0)) (vCons (mC (.int 0)) (vCons (mC (.int 7)) (vCons (mC (.int 3)) (vNil)))))))
noncomputable def C_L_begin : List PV → CR := runB 2 1 [0] m_L_begin
theorem fb_L_begin (T : Tx P w K mg base aBadThing aRateError) : FB P w K mg base 1 "_law_begin" 1 C_L_begin := by
  obtain ⟨f, fd, F, g, b⟩ := T.f_L_begin
  exact fb_of (N := ["script", "cell"]) (ps := ["script"]) (pn := [0]) (m := m_L_begin) (k := 0) F sc_L_begin g b fun cdv A outer s H E hr => (sss_one (ss_ret (se_lst (sv_cons (se_fz (se_comp rfl sc_L_begin.nd (si_seq (so_N 0 (pv 0))) vi_seq (own := [("cell", 1)]) (blkOk_by (N := ["script", "cell"]) (sc := defScope s_L_begin) (by decide +kernel)) (tgb_name 1 (fun _ _ _ _ _ => (pg_name (i := 1) sc_L_begin.nd rfl (Or.inl rfl)))) (by decide) (fun _ _ _ _ _ => sif_nil) (fun _ _ _ _ _ => (se_bty (CallR.or call_int1 call_int_str) vo_int1 (by rfl) T.b_int bt_int (sa_cons (so_N 1 (pv 1)) sa_nil))))) (sv_cons se_int (sv_cons se_int (sv_cons se_int (sv_cons se_int sv_nil))))))))
/-! ### _law_pool -/
abbrev s_L_pool : Stmt := tS 46
theorem sc_L_pool : FnScope ["text"] [] (defScope s_L_pool) := ⟨rfl, rfl, rfl, by decide +kernel, rfl, by decide +kernel, by decide +kernel⟩
noncomputable def m_L_pool : MS := mSeq (mAsg (mC (.str "a b2 sum left r k0 carry z9z full tail n m8 aa busy cnt p t4 even2 ab1 head u v2 w lowest high mid ")) (t1 0))
  (mSeq (mAsg (mOp pAdd (oCons (oN 0) (oCons (oE (mC (.str "s t e f g h i j k x y q7 deep turn gate l5 hold next1 o c0 d two zz1 near far9 last ring2 "))) oNil))) (t1 0))
  (mRet (mStr1 pSplit (mOp pAdd (oCons (oN 0) (oCons (oE (mC (.str "aaaaaaa8 b c1 top2 net3 row col7 v"))) oNil))) (oE (mC (.str " "))))))
noncomputable def C_L_pool : List PV → CR := runB 1 0 [] m_L_pool
theorem fb_L_pool (T : Tx P w K mg base aBadThing aRateError) : FB P w K mg base 1 "_law_pool" 0 C_L_pool := by
  obtain ⟨f, fd, F, g, b⟩ := T.f_L_pool
  exact fb_of (N := ["text"]) (ps := []) (pn := []) (m := m_L_pool) (k := 0) F sc_L_pool g b fun cdv A outer s H E hr => (sss_cons (ss_set 0 se_str sc_L_pool.nd rfl (Or.inl rfl) (by decide) (by rfl) (.inl rfl))
  (sss_cons (ss_set 0 (se_op2 op_addAll vo_add (so_N 0 (pv 0)) (so_E se_str)) sc_L_pool.nd rfl (Or.inl rfl) (by decide) (by rfl) (.inl rfl))
  (sss_one (ss_ret (se_split (se_op2 op_addAll vo_add (so_N 0 (pv 0)) (so_E se_str)) (so_E se_str))))))
/-! ### _law_draw -/
abbrev s_L_draw : Stmt := tS 42
theorem sc_L_draw : FnScope ["d", "many", "found", "size", "cell"] ["d", "many"] (defScope s_L_draw) := ⟨rfl, rfl, rfl, by decide +kernel, rfl, by decide +kernel, by decide +kernel⟩
noncomputable def m_L_draw : MS := mSeq (mIf (mT (mOp (pCmp pGt) (oCons (oE (mOp pIx (oCons (oN 0) (oCons (oE (mC (.int 2))) oNil)))) (oCons (oE (mC (.int 0))) oNil)))) (mSeq (mAsg (mOp pIx (oCons (oN 0) (oCons (oE (mC (.int 2))) oNil))) (t1 2))
  (mSeq (mSetI 0 (mC (.int 2)) (mFz (mOp pFdiv (oCons (oN 2) (oCons (oN 1) oNil)))))
  (mRet (mOp pMod (oCons (oE (mOp pInt1 (oCons (oN 2) (oNil)))) (oCons (oN 1) oNil)))))) (mNx))
  (mSeq (mAsg (mC (.int 0)) (t1 3))
  (mSeq (mIf (mT (mOp (pCmp pLt) (oCons (oE (mOp pIx (oCons (oN 0) (oCons (oE (mC (.int 1))) oNil)))) (oCons (oE (mOp pLen (oCons (oE (mOp pIx (oCons (oN 0) (oCons (oE (mC (.int 0))) oNil)))) (oNil)))) oNil)))) (mSeq (mAsg (mOp pIx (oCons (oE (mOp pIx (oCons (oN 0) (oCons (oE (mC (.int 0))) oNil)))) (oCons (oE (mOp pIx (oCons (oN 0) (oCons (oE (mC (.int 1))) oNil)))) oNil))) (t1 4))
  (mAsg (mOp pAdd (oCons (oE (mOp pMul2 (oCons (oE (mC (.int 2))) (oCons (oE (mOp pAbs (oCons (oN 4) (oNil)))) oNil)))) (oCons (oE (mOp pInt1 (oCons (oE (mOp (pCmp pLt) (oCons (oN 4) (oCons (oE (mC (.int 0))) oNil)))) (oNil)))) oNil))) (t1 3))) (mNx))
  (mSeq (mAugI 0 1 (fun i j => i + j) (mC (.int 1)))
  (mSeq (mIf (mT (mOp (pCmp pGe) (oCons (oN 3) (oCons (oE (mOp pMul2 (oCons (oE (mC (.int 2))) (oCons (oE (mOp pPow (oCons (oE (mC (.int 10))) (oCons (oE (mC (.int 18))) oNil)))) oNil)))) oNil)))) (mSeq (mAsg (mOp pMod (oCons (oE (mOp pInt1 (oCons (oE (mOp pFdiv (oCons (oN 3) (oCons (oE (mC (.int 2))) oNil)))) (oNil)))) (oCons (oE (mOp pShl (oCons (oE (mC (.int 1))) (oCons (oE (mC (.int 6000))) oNil)))) oNil))) (t1 2))
  (mSeq (mSetI 0 (mC (.int 2)) (mFz (mOp pFdiv (oCons (oN 2) (oCons (oN 1) oNil)))))
  (mRet (mOp pMod (oCons (oE (mOp pInt1 (oCons (oN 2) (oNil)))) (oCons (oN 1) oNil)))))) (mNx))
  (mSeq (mSetI 0 (mC (.int 3)) (mFz (mOp pMod (oCons (oE (mOp pInt1 (oCons (oE (mOp pAdd (oCons (oE (mOp pAdd (oCons (oE (mOp pAdd (oCons (oE (mOp pMul2 (oCons (oE (mOp pIx (oCons (oN 0) (oCons (oE (mC (.int 3))) oNil)))) (oCons (oE (mC (.int 48271))) oNil)))) (oCons (oE (mOp pMul2 (oCons (oE (mOp pMod (oCons (oE (mOp pInt1 (oCons (oN 3) (oNil)))) (oCons (oE (mC (.int 2147483629))) oNil)))) (oCons (oE (mC (.int 16807))) oNil)))) oNil)))) (oCons (oE (mOp pMul2 (oCons (oE (mOp pIx (oCons (oN 0) (oCons (oE (mC (.int 1))) oNil)))) (oCons (oE (mC (.int 69621))) oNil)))) oNil)))) (oCons (oE (mC (.int 11))) oNil)))) (oNil)))) (oCons (oE (mC (.int 2147483647))) oNil)))))
  (mRet (mOp pMod (oCons (oE (mOp pInt1 (oCons (oE (mOp pFdiv (oCons (oE (mOp pIx (oCons (oN 0) (oCons (oE (mC (.int 3))) oNil)))) (oCons (oE (mC (.int 16))) oNil)))) (oNil)))) (oCons (oN 1) oNil)))))))))
noncomputable def C_L_draw : List PV → CR := runB 5 2 [0, 1] m_L_draw
theorem fb_L_draw (T : Tx P w K mg base aBadThing aRateError) : FB P w K mg base 1 "_law_draw" 2 C_L_draw := by
  obtain ⟨f, fd, F, g, b⟩ := T.f_L_draw
  exact fb_of (N := ["d", "many", "found", "size", "cell"]) (ps := ["d", "many"]) (pn := [0, 1]) (m := m_L_draw) (k := 0) F sc_L_draw g b fun cdv A outer s H E hr => (sss_cons (ss_if (st_cmp op_gt (vo_cmp pGt) (so_E (se_ix ix_seq vo_ix (so_N 0 (pv 0)) (so_E se_int) (by intro _ _; rfl))) (so_E se_int) (nomark _)) (sss_cons (ss_set 2 (se_ix ix_seq vo_ix (so_N 0 (pv 0)) (so_E se_int) (by intro _ _; rfl)) sc_L_draw.nd rfl (Or.inl rfl) (by decide) (by rfl) (.inl rfl))
  (sss_cons (ss_setI 0 (se_fz (se_op2 op_fdiv vo_fdiv (so_N 2 (pv 2)) (so_N 1 (pv 1)))) (pv 0) se_int)
  (sss_one (ss_ret (se_op2 op_mod vo_mod (so_E (se_bty (CallR.or call_int1 call_int_str) vo_int1 (by rfl) T.b_int bt_int (sa_cons (so_N 2 (pv 2)) sa_nil))) (so_N 1 (pv 1))))))) sss_nil)
  (sss_cons (ss_set 3 se_int sc_L_draw.nd rfl (Or.inl rfl) (by decide) (by rfl) (.inl rfl))
  (sss_cons (ss_if (st_cmp op_lt (vo_cmp pLt) (so_E (se_ix ix_seq vo_ix (so_N 0 (pv 0)) (so_E se_int) (by intro _ _; rfl))) (so_E (se_blt call_len vo_len (by rfl) T.b_len bt_len (sa_cons (so_E (se_ix ix_seq vo_ix (so_N 0 (pv 0)) (so_E se_int) (by intro _ _; rfl))) sa_nil))) (nomark _)) (sss_cons (ss_set 4 (se_ix ix_seq vo_ix (so_E (se_ix ix_seq vo_ix (so_N 0 (pv 0)) (so_E se_int) (by intro _ _; rfl))) (so_E (se_ix ix_seq vo_ix (so_N 0 (pv 0)) (so_E se_int) (by intro _ _; rfl))) (by intro _ _; rfl)) sc_L_draw.nd rfl (Or.inl rfl) (by decide) (by rfl) (.inl rfl))
  (sss_one (ss_set 3 (se_op2 op_addAll vo_add (so_E (se_op2 op_mul2 vo_mul2 (so_E se_int) (so_E (se_blt call_abs vo_abs (by rfl) T.b_abs bt_abs (sa_cons (so_N 4 (pv 4)) sa_nil))))) (so_E (se_bty (CallR.or call_int1 call_int_str) vo_int1 (by rfl) T.b_int bt_int (sa_cons (so_E (se_cmp op_lt (vo_cmp pLt) (so_N 4 (pv 4)) (so_E se_int) (nomark _))) sa_nil)))) sc_L_draw.nd rfl (Or.inl rfl) (by decide) (by rfl) (.inl rfl)))) sss_nil)
  (sss_cons (ss_augI 0 1 (pv 0) ip_add se_int)
  (sss_cons (ss_if (st_cmp op_ge (vo_cmp pGe) (so_N 3 (pv 3)) (so_E (se_op2 op_mul2 vo_mul2 (so_E se_int) (so_E (se_op2 op_pow vo_pow (so_E se_int) (so_E se_int))))) (nomark _)) (sss_cons (ss_set 2 (se_op2 op_mod vo_mod (so_E (se_bty (CallR.or call_int1 call_int_str) vo_int1 (by rfl) T.b_int bt_int (sa_cons (so_E (se_op2 op_fdiv vo_fdiv (so_N 3 (pv 3)) (so_E se_int))) sa_nil))) (so_E (se_op2 op_shl vo_shl (so_E se_int) (so_E se_int)))) sc_L_draw.nd rfl (Or.inl rfl) (by decide) (by rfl) (.inl rfl))
  (sss_cons (ss_setI 0 (se_fz (se_op2 op_fdiv vo_fdiv (so_N 2 (pv 2)) (so_N 1 (pv 1)))) (pv 0) se_int)
  (sss_one (ss_ret (se_op2 op_mod vo_mod (so_E (se_bty (CallR.or call_int1 call_int_str) vo_int1 (by rfl) T.b_int bt_int (sa_cons (so_N 2 (pv 2)) sa_nil))) (so_N 1 (pv 1))))))) sss_nil)
  (sss_cons (ss_setI 0 (se_fz (se_op2 op_mod vo_mod (so_E (se_bty (CallR.or call_int1 call_int_str) vo_int1 (by rfl) T.b_int bt_int (sa_cons (so_E (se_op2 op_addAll vo_add (so_E (se_op2 op_addAll vo_add (so_E (se_op2 op_addAll vo_add (so_E (se_op2 op_mul2 vo_mul2 (so_E (se_ix ix_seq vo_ix (so_N 0 (pv 0)) (so_E se_int) (by intro _ _; rfl))) (so_E se_int))) (so_E (se_op2 op_mul2 vo_mul2 (so_E (se_op2 op_mod vo_mod (so_E (se_bty (CallR.or call_int1 call_int_str) vo_int1 (by rfl) T.b_int bt_int (sa_cons (so_N 3 (pv 3)) sa_nil))) (so_E se_int))) (so_E se_int))))) (so_E (se_op2 op_mul2 vo_mul2 (so_E (se_ix ix_seq vo_ix (so_N 0 (pv 0)) (so_E se_int) (by intro _ _; rfl))) (so_E se_int))))) (so_E se_int))) sa_nil))) (so_E se_int))) (pv 0) se_int)
  (sss_one (ss_ret (se_op2 op_mod vo_mod (so_E (se_bty (CallR.or call_int1 call_int_str) vo_int1 (by rfl) T.b_int bt_int (sa_cons (so_E (se_op2 op_fdiv vo_fdiv (so_E (se_ix ix_seq vo_ix (so_N 0 (pv 0)) (so_E se_int) (by intro _ _; rfl))) (so_E se_int))) sa_nil))) (so_N 1 (pv 1)))))))))))
/-! ### _law_pop -/
abbrev s_L_pop : Stmt := tS 44
theorem sc_L_pop : FnScope ["d", "row"] ["d", "row"] (defScope s_L_pop) := ⟨rfl, rfl, rfl, by decide +kernel, rfl, by decide +kernel, by decide +kernel⟩
noncomputable def m_L_pop : MS := mRet (mMeth 1 fPopAt (vCons (mFz (mCallN 2 C_L_draw (oCons (oN 0) (oCons (oE (mOp pLen (oCons (oN 1) (oNil)))) (oNil))))) (vNil)))
noncomputable def C_L_pop : List PV → CR := runB 2 2 [0, 1] m_L_pop
theorem fb_L_pop (T : Tx P w K mg base aBadThing aRateError) : FB P w K mg base 2 "_law_pop" 2 C_L_pop := by
  obtain ⟨f, fd, F, g, b⟩ := T.f_L_pop
  exact fb_of (N := ["d", "row"]) (ps := ["d", "row"]) (pn := [0, 1]) (m := m_L_pop) (k := 1) F sc_L_pop g b fun cdv A outer s H E hr => (sss_one (ss_ret (se_meth 1 PySem.F.slot_list_pop PySem.F.type_list_pop mt_popAt vm_popAt (pv 1) (sv_cons (se_fz (se_call bx_tk (fb_L_draw T) (hr.mono (by omega)) (by rfl) (sa_cons (so_N 0 (pv 0)) (sa_cons (so_E (se_blt call_len vo_len (by rfl) T.b_len bt_len (sa_cons (so_N 1 (pv 1)) sa_nil))) sa_nil)))) sv_nil))))
/-! ### _law_token -/
abbrev s_L_token : Stmt := tS 49
theorem sc_L_token : FnScope ["d", "kind"] ["d"] (defScope s_L_token) := ⟨rfl, rfl, rfl, by decide +kernel, rfl, by decide +kernel, by decide +kernel⟩
noncomputable def m_L_token : MS := mSeq (mAsg (mCallN 2 C_L_draw (oCons (oN 0) (oCons (oE (mC (.int 4))) (oNil)))) (t1 1))
  (mSeq (mIf (mT (mOp (pEq false) (oCons (oN 1) (oCons (oE (mC (.int 0))) oNil)))) (mRet (mCallN 2 C_L_draw (oCons (oN 0) (oCons (oE (mC (.int 9973))) (oNil))))) (mNx))
  (mSeq (mIf (mT (mOp (pEq false) (oCons (oN 1) (oCons (oE (mC (.int 1))) oNil)))) (mRet (mOp pSub (oCons (oE (mC (.int 9972))) (oCons (oE (mCallN 2 C_L_draw (oCons (oN 0) (oCons (oE (mC (.int 3))) (oNil))))) oNil)))) (mNx))
  (mRet (mCallN 2 C_L_draw (oCons (oN 0) (oCons (oE (mC (.int 12))) (oNil)))))))
noncomputable def C_L_token : List PV → CR := runB 2 1 [0] m_L_token
theorem fb_L_token (T : Tx P w K mg base aBadThing aRateError) : FB P w K mg base 2 "_law_token" 1 C_L_token := by
  obtain ⟨f, fd, F, g, b⟩ := T.f_L_token
  exact fb_of (N := ["d", "kind"]) (ps := ["d"]) (pn := [0]) (m := m_L_token) (k := 1) F sc_L_token g b fun cdv A outer s H E hr => (sss_cons (ss_set 1 (se_call bx_tk (fb_L_draw T) (hr.mono (by omega)) (by rfl) (sa_cons (so_N 0 (pv 0)) (sa_cons (so_E se_int) sa_nil))) sc_L_token.nd rfl (Or.inl rfl) (by decide) (by rfl) (.inl rfl))
  (sss_cons (ss_if (st_cmp (op_eqD (hu64 hr)) vo_eq (so_N 1 (pv 1)) (so_E se_int) (nomark _)) (sss_one (ss_ret (se_call bx_tk (fb_L_draw T) (hr.mono (by omega)) (by rfl) (sa_cons (so_N 0 (pv 0)) (sa_cons (so_E se_int) sa_nil))))) sss_nil)
  (sss_cons (ss_if (st_cmp (op_eqD (hu64 hr)) vo_eq (so_N 1 (pv 1)) (so_E se_int) (nomark _)) (sss_one (ss_ret (se_op2 op_sub vo_sub (so_E se_int) (so_E (se_call bx_tk (fb_L_draw T) (hr.mono (by omega)) (by rfl) (sa_cons (so_N 0 (pv 0)) (sa_cons (so_E se_int) sa_nil))))))) sss_nil)
  (sss_one (ss_ret (se_call bx_tk (fb_L_draw T) (hr.mono (by omega)) (by rfl) (sa_cons (so_N 0 (pv 0)) (sa_cons (so_E se_int) sa_nil))))))))
/-! ### _law_row -/
abbrev s_L_row : Stmt := tS 52
theorem sc_L_row : FnScope ["d", "size", "k", "kind", "row", "at"] ["d", "size"] (defScope s_L_row) := ⟨rfl, rfl, rfl, by decide +kernel, rfl, by decide +kernel, by decide +kernel⟩
noncomputable def m_L_row : MS := mSeq (mAsg (mCallN 2 C_L_draw (oCons (oN 0) (oCons (oE (mC (.int 3))) (oNil)))) (t1 3))
  (mSeq (mAsg (mComp (oCons (oN 1) oNil) itRng1 (t1 2) (mYes) (mC (.int 0)) [2]) (t1 4))
  (mSeq (mIf (mT (mOp (pEq false) (oCons (oN 3) (oCons (oE (mC (.int 0))) oNil)))) (mAsg (mComp (oCons (oN 1) oNil) itRng1 (t1 2) (mYes) (mFz (mCallN 2 C_L_draw (oCons (oN 0) (oCons (oE (mC (.int 2))) (oNil))))) [2]) (t1 4)) (mNx))
  (mSeq (mIf (mT (mOp (pEq false) (oCons (oN 3) (oCons (oE (mC (.int 1))) oNil)))) (mAsg (mComp (oCons (oN 1) oNil) itRng1 (t1 2) (mYes) (mFz (mCallN 2 C_L_draw (oCons (oN 0) (oCons (oE (mC (.int 13))) (oNil))))) [2]) (t1 4)) (mNx))
  (mSeq (mIf (mT (mOp (pEq false) (oCons (oE (mOp pSum (oCons (oN 4) (oNil)))) (oCons (oE (mC (.int 0))) oNil)))) (mSeq (mAsg (mCallN 2 C_L_draw (oCons (oN 0) (oCons (oN 1) (oNil)))) (t1 5))
  (mSetI 4 (mN 5) (mFz (mOp pAdd (oCons (oE (mC (.int 1))) (oCons (oE (mCallN 2 C_L_draw (oCons (oN 0) (oCons (oE (mC (.int 12))) (oNil))))) oNil)))))) (mNx))
  (mRet (mOp pTuple (oCons (oN 4) (oNil))))))))
noncomputable def C_L_row : List PV → CR := runB 6 2 [0, 1] m_L_row
theorem fb_L_row (T : Tx P w K mg base aBadThing aRateError) : FB P w K mg base 2 "_law_row" 2 C_L_row := by
  obtain ⟨f, fd, F, g, b⟩ := T.f_L_row
  exact fb_of (N := ["d", "size", "k", "kind", "row", "at"]) (ps := ["d", "size"]) (pn := [0, 1]) (m := m_L_row) (k := 1) F sc_L_row g b fun cdv A outer s H E hr => (sss_cons (ss_set 3 (se_call bx_tk (fb_L_draw T) (hr.mono (by omega)) (by rfl) (sa_cons (so_N 0 (pv 0)) (sa_cons (so_E se_int) sa_nil))) sc_L_row.nd rfl (Or.inl rfl) (by decide) (by rfl) (.inl rfl))
  (sss_cons (ss_setLc 4 rfl sc_L_row.nd rfl rfl (by decide) (sw_true rfl rfl rfl (by decide +kernel)) (si_rng1 (so_N 1 (pv 1)) (by rfl) T.b_range (by rfl) (by rfl)) vi_rng1 (own := [("k", 2)]) (blkOk_by (N := ["d", "size", "k", "kind", "row", "at"]) (sc := defScope s_L_row) (by decide +kernel)) (tgb_name 2 (fun _ _ _ _ _ => (pg_name (i := 2) sc_L_row.nd rfl (Or.inl rfl)))) (by decide) (fun _ _ _ _ _ => sif_nil) (fun _ _ _ _ _ => se_int))
  (sss_cons (ss_if (st_cmp (op_eqD (hu64 hr)) vo_eq (so_N 3 (pv 3)) (so_E se_int) (nomark _)) (sss_one (ss_setLc 4 rfl sc_L_row.nd rfl rfl (by decide) (sw_true rfl rfl rfl (by decide +kernel)) (si_rng1 (so_N 1 (pv 1)) (by rfl) T.b_range (by rfl) (by rfl)) vi_rng1 (own := [("k", 2)]) (blkOk_by (N := ["d", "size", "k", "kind", "row", "at"]) (sc := defScope s_L_row) (by decide +kernel)) (tgb_name 2 (fun _ _ _ _ _ => (pg_name (i := 2) sc_L_row.nd rfl (Or.inl rfl)))) (by decide) (fun _ _ _ _ _ => sif_nil) (fun _ _ _ _ _ => (se_fz (se_call takes0 (fb_L_draw T) (hr.mono (by omega)) (by rfl) (sa_cons (so_N 0 (pv 0)) (sa_cons (so_E se_int) sa_nil))))))) sss_nil)
  (sss_cons (ss_if (st_cmp (op_eqD (hu64 hr)) vo_eq (so_N 3 (pv 3)) (so_E se_int) (nomark _)) (sss_one (ss_setLc 4 rfl sc_L_row.nd rfl rfl (by decide) (sw_true rfl rfl rfl (by decide +kernel)) (si_rng1 (so_N 1 (pv 1)) (by rfl) T.b_range (by rfl) (by rfl)) vi_rng1 (own := [("k", 2)]) (blkOk_by (N := ["d", "size", "k", "kind", "row", "at"]) (sc := defScope s_L_row) (by decide +kernel)) (tgb_name 2 (fun _ _ _ _ _ => (pg_name (i := 2) sc_L_row.nd rfl (Or.inl rfl)))) (by decide) (fun _ _ _ _ _ => sif_nil) (fun _ _ _ _ _ => (se_fz (se_call takes0 (fb_L_draw T) (hr.mono (by omega)) (by rfl) (sa_cons (so_N 0 (pv 0)) (sa_cons (so_E se_int) sa_nil))))))) sss_nil)
  (sss_cons (ss_if (st_cmp (op_eqD (hu64 hr)) vo_eq (so_E (se_blt (call_sum2 rfl) vo_sum (by rfl) T.b_sum bt_sum (sa_cons (so_N 4 (pv 4)) sa_nil))) (so_E se_int) (nomark _)) (sss_cons (ss_set 5 (se_call bx_tk (fb_L_draw T) (hr.mono (by omega)) (by rfl) (sa_cons (so_N 0 (pv 0)) (sa_cons (so_N 1 (pv 1)) sa_nil))) sc_L_row.nd rfl (Or.inl rfl) (by decide) (by rfl) (.inl rfl))
  (sss_one (ss_setI 4 (se_fz (se_op2 op_addAll vo_add (so_E se_int) (so_E (se_call bx_tk (fb_L_draw T) (hr.mono (by omega)) (by rfl) (sa_cons (so_N 0 (pv 0)) (sa_cons (so_E se_int) sa_nil)))))) (pv 4) (se_N 5 (pv 5))))) sss_nil)
  (sss_one (ss_ret (se_bty call_tuple_of vo_tuple (by rfl) T.b_tuple bt_tuple (sa_cons (so_N 4 (pv 4)) sa_nil)))))))))
/-! ### _law_tokens -/
abbrev s_L_tokens : Stmt := tS 50
theorem sc_L_tokens : FnScope ["d", "many", "k"] ["d", "many"] (defScope s_L_tokens) := ⟨rfl, rfl, rfl, by decide +kernel, rfl, by decide +kernel, by decide +kernel⟩
noncomputable def m_L_tokens : MS := mRet (mOp pTuple (oCons (oE (mComp (oCons (oN 1) oNil) itRng1 (t1 2) (mYes) (mFz (mCallN 1 C_L_token (oCons (oN 0) (oNil)))) [2])) (oNil)))
noncomputable def C_L_tokens : List PV → CR := runB 3 2 [0, 1] m_L_tokens
theorem fb_L_tokens (T : Tx P w K mg base aBadThing aRateError) : FB P w K mg base 3 "_law_tokens" 2 C_L_tokens := by
  obtain ⟨f, fd, F, g, b⟩ := T.f_L_tokens
  exact fb_of (N := ["d", "many", "k"]) (ps := ["d", "many"]) (pn := [0, 1]) (m := m_L_tokens) (k := 2) F sc_L_tokens g b fun cdv A outer s H E hr => (sss_one (ss_ret (se_bty call_tuple_of vo_tuple (by rfl) T.b_tuple bt_tuple (sa_cons (so_E (se_comp rfl sc_L_tokens.nd (si_rng1 (so_N 1 (pv 1)) (by rfl) T.b_range (by rfl) (by rfl)) vi_rng1 (own := [("k", 2)]) (blkOk_by (N := ["d", "many", "k"]) (sc := defScope s_L_tokens) (by decide +kernel)) (tgb_name 2 (fun _ _ _ _ _ => (pg_name (i := 2) sc_L_tokens.nd rfl (Or.inl rfl)))) (by decide) (fun _ _ _ _ _ => sif_nil) (fun _ _ _ _ _ => (se_fz (se_call takes0 (fb_L_token T) (hr.mono (by omega)) (by rfl) (sa_cons (so_N 0 (pv 0)) sa_nil)))))) sa_nil))))
/-! ### _law_made -/
abbrev s_L_made : Stmt := tS 53
theorem sc_L_made : FnScope ["d", "j", "names", "blocks", "k", "times", "queues", "gives", "takes", "source", "target"] ["d"] (defScope s_L_made) := ⟨rfl, rfl, rfl, by decide +kernel, rfl, by decide +kernel, by decide +kernel⟩
noncomputable def m_L_made : MS := mSeq (mAsg (mCallN 0 C_L_pool oNil) (t1 2))
  (mSeq (mAsg (mLst (vNil)) (t1 3))
  (mSeq (mFor [0] (oCons (oE (mOp pAdd (oCons (oE (mC (.int 1))) (oCons (oE (mCallN 2 C_L_draw (oCons (oN 0) (oCons (oE (mC (.int 3))) (oNil))))) oNil)))) oNil) itRng1 (t1 4) (mSeq (mAsg (mOp pTuple (oCons (oE (mComp (oCons (oE (mOp pAdd (oCons (oE (mC (.int 1))) (oCons (oE (mCallN 2 C_L_draw (oCons (oN 0) (oCons (oE (mC (.int 6))) (oNil))))) oNil)))) oNil) itRng1 (t1 1) (mYes) (mFz (mCallN 2 C_L_draw (oCons (oN 0) (oCons (oE (mC (.int 61))) (oNil))))) [1])) (oNil))) (t1 5))
  (mDrop (mMeth 3 fApp (vCons (mTup (vCons (mFz (mCallN 2 C_L_pop (oCons (oN 0) (oCons (oN 2) (oNil))))) (vCons (mFzN 5) (vCons (mTup (vCons (mFz (mCallN 1 C_L_token (oCons (oN 0) (oNil)))) (vCons (mFz (mCallN 1 C_L_token (oCons (oN 0) (oNil)))) (vNil)))) (vNil))))) (vNil))))))
  (mSeq (mAsg (mLst (vNil)) (t1 6))
  (mSeq (mFor [0] (oCons (oE (mOp pAdd (oCons (oE (mC (.int 1))) (oCons (oE (mCallN 2 C_L_draw (oCons (oN 0) (oCons (oE (mC (.int 4))) (oNil))))) oNil)))) oNil) itRng1 (t1 4) (mSeq (mPar 9 10 (vCons (mCallN 2 C_L_draw (oCons (oN 0) (oCons (oE (mOp pLen (oCons (oN 3) (oNil)))) (oNil)))) (vCons (mCallN 2 C_L_draw (oCons (oN 0) (oCons (oE (mOp pLen (oCons (oN 3) (oNil)))) (oNil)))) (vNil))))
  (mSeq (mAsg (mCallN 2 C_L_row (oCons (oN 0) (oCons (oE (mOp pLen (oCons (oE (mOp pIx (oCons (oE (mOp pIx (oCons (oN 3) (oCons (oN 9) oNil)))) (oCons (oE (mC (.int 1))) oNil)))) (oNil)))) (oNil)))) (t1 7))
  (mSeq (mAsg (mCallN 2 C_L_row (oCons (oN 0) (oCons (oE (mOp pLen (oCons (oE (mOp pIx (oCons (oE (mOp pIx (oCons (oN 3) (oCons (oN 10) oNil)))) (oCons (oE (mC (.int 1))) oNil)))) (oNil)))) (oNil)))) (t1 8))
  (mDrop (mMeth 6 fApp (vCons (mTup (vCons (mFzN 9) (vCons (mFzN 7) (vCons (mFzN 10) (vCons (mFzN 8) (vCons (mFz (mCallN 2 C_L_tokens (oCons (oN 0) (oCons (oE (mCallN 2 C_L_draw (oCons (oN 0) (oCons (oE (mC (.int 4))) (oNil))))) (oNil))))) (vNil))))))) (vNil))))))))
  (mRet (mTup (vCons (mOp pTuple (oCons (oN 3) (oNil))) (vCons (mOp pTuple (oCons (oN 6) (oNil))) (vNil)))))))))
noncomputable def C_L_made : List PV → CR := runB 11 1 [0] m_L_made
theorem fb_L_made (T : Tx P w K mg base aBadThing aRateError) : FB P w K mg base 4 "_law_made" 1 C_L_made := by
  obtain ⟨f, fd, F, g, b⟩ := T.f_L_made
  exact fb_of (N := ["d", "j", "names", "blocks", "k", "times", "queues", "gives", "takes", "source", "target"]) (ps := ["d"]) (pn := [0]) (m := m_L_made) (k := 3) F sc_L_made g b fun cdv A outer s H E hr => (sss_cons (ss_set 2 (se_call0 bx_tk (fb_L_pool T) (hr.mono (by omega)) (by rfl)) sc_L_made.nd rfl (Or.inl rfl) (by decide) (by rfl) (.inl rfl))
  (sss_cons (ss_set 3 (se_lst sv_nil) sc_L_made.nd rfl (Or.inl rfl) (by decide) (by rfl) (.inl rfl))
  (sss_cons (ss_for bx_po rfl (si_rng1 (so_E (se_op2 op_addAll vo_add (so_E se_int) (so_E (se_call bx_tk (fb_L_draw T) (hr.mono (by omega)) (by rfl) (sa_cons (so_N 0 (pv 0)) (sa_cons (so_E se_int) sa_nil)))))) (by rfl) T.b_range (by rfl) (by rfl)) vi_rng1 (tg_name 4 (pg_name (i := 4) sc_L_made.nd rfl (Or.inl rfl))) (by decide) (by decide) (sss_cons (ss_set 5 (se_bty call_tuple_of vo_tuple (by rfl) T.b_tuple bt_tuple (sa_cons (so_E (se_comp rfl sc_L_made.nd (si_rng1 (so_E (se_op2 op_addAll vo_add (so_E se_int) (so_E (se_call bx_tk (fb_L_draw T) (hr.mono (by omega)) (by rfl) (sa_cons (so_N 0 (pv 0)) (sa_cons (so_E se_int) sa_nil)))))) (by rfl) T.b_range (by rfl) (by rfl)) vi_rng1 (own := [("j", 1)]) (blkOk_by (N := ["d", "j", "names", "blocks", "k", "times", "queues", "gives", "takes", "source", "target"]) (sc := defScope s_L_made) (by decide +kernel)) (tgb_name 1 (fun _ _ _ _ _ => (pg_name (i := 1) sc_L_made.nd rfl (Or.inl rfl)))) (by decide) (fun _ _ _ _ _ => sif_nil) (fun _ _ _ _ _ => (se_fz (se_call takes0 (fb_L_draw T) (hr.mono (by omega)) (by rfl) (sa_cons (so_N 0 (pv 0)) (sa_cons (so_E se_int) sa_nil))))))) sa_nil)) sc_L_made.nd rfl (Or.inl rfl) (by decide) (by rfl) (.inl rfl))
  (sss_one (ss_expr (se_meth 3 PySem.F.slot_list_append PySem.F.type_list_append mt_append vm_app (pv 3) (sv_cons (se_tup (sv_cons (se_fz (se_call bx_tk (fb_L_pop T) (hr.mono (by omega)) (by rfl) (sa_cons (so_N 0 (pv 0)) (sa_cons (so_N 2 (pv 2)) sa_nil)))) (sv_cons (se_FzN 5 (pv 5)) (sv_cons (se_tup (sv_cons (se_fz (se_call bx_tk (fb_L_token T) (hr.mono (by omega)) (by rfl) (sa_cons (so_N 0 (pv 0)) sa_nil))) (sv_cons (se_fz (se_call bx_tk (fb_L_token T) (hr.mono (by omega)) (by rfl) (sa_cons (so_N 0 (pv 0)) sa_nil))) sv_nil))) sv_nil)))) sv_nil)) (by rfl)))))
  (sss_cons (ss_set 6 (se_lst sv_nil) sc_L_made.nd rfl (Or.inl rfl) (by decide) (by rfl) (.inl rfl))
  (sss_cons (ss_for bx_po rfl (si_rng1 (so_E (se_op2 op_addAll vo_add (so_E se_int) (so_E (se_call bx_tk (fb_L_draw T) (hr.mono (by omega)) (by rfl) (sa_cons (so_N 0 (pv 0)) (sa_cons (so_E se_int) sa_nil)))))) (by rfl) T.b_range (by rfl) (by rfl)) vi_rng1 (tg_name 4 (pg_name (i := 4) sc_L_made.nd rfl (Or.inl rfl))) (by decide) (by decide) (sss_cons (ss_par 9 10 rfl sc_L_made.nd rfl rfl (by decide) rfl rfl (by decide) (sv_cons (se_call bx_tk (fb_L_draw T) (hr.mono (by omega)) (by rfl) (sa_cons (so_N 0 (pv 0)) (sa_cons (so_E (se_blt call_len vo_len (by rfl) T.b_len bt_len (sa_cons (so_N 3 (pv 3)) sa_nil))) sa_nil))) (sv_cons (se_call bx_tk (fb_L_draw T) (hr.mono (by omega)) (by rfl) (sa_cons (so_N 0 (pv 0)) (sa_cons (so_E (se_blt call_len vo_len (by rfl) T.b_len bt_len (sa_cons (so_N 3 (pv 3)) sa_nil))) sa_nil))) sv_nil)) (by rfl) (by rfl))
  (sss_cons (ss_set 7 (se_call bx_tk (fb_L_row T) (hr.mono (by omega)) (by rfl) (sa_cons (so_N 0 (pv 0)) (sa_cons (so_E (se_blt call_len vo_len (by rfl) T.b_len bt_len (sa_cons (so_E (se_ix ix_seq vo_ix (so_E (se_ix ix_seq vo_ix (so_N 3 (pv 3)) (so_N 9 (pv 9)) (by intro _ _; rfl))) (so_E se_int) (by intro _ _; rfl))) sa_nil))) sa_nil))) sc_L_made.nd rfl (Or.inl rfl) (by decide) (by rfl) (.inl rfl))
  (sss_cons (ss_set 8 (se_call bx_tk (fb_L_row T) (hr.mono (by omega)) (by rfl) (sa_cons (so_N 0 (pv 0)) (sa_cons (so_E (se_blt call_len vo_len (by rfl) T.b_len bt_len (sa_cons (so_E (se_ix ix_seq vo_ix (so_E (se_ix ix_seq vo_ix (so_N 3 (pv 3)) (so_N 10 (pv 10)) (by intro _ _; rfl))) (so_E se_int) (by intro _ _; rfl))) sa_nil))) sa_nil))) sc_L_made.nd rfl (Or.inl rfl) (by decide) (by rfl) (.inl rfl))
  (sss_one (ss_expr (se_meth 6 PySem.F.slot_list_append PySem.F.type_list_append mt_append vm_app (pv 6) (sv_cons (se_tup (sv_cons (se_FzN 9 (pv 9)) (sv_cons (se_FzN 7 (pv 7)) (sv_cons (se_FzN 10 (pv 10)) (sv_cons (se_FzN 8 (pv 8)) (sv_cons (se_fz (se_call bx_tk (fb_L_tokens T) (hr.mono (by omega)) (by rfl) (sa_cons (so_N 0 (pv 0)) (sa_cons (so_E (se_call bx_tk (fb_L_draw T) (hr.mono (by omega)) (by rfl) (sa_cons (so_N 0 (pv 0)) (sa_cons (so_E se_int) sa_nil)))) sa_nil)))) sv_nil)))))) sv_nil)) (by rfl)))))))
  (sss_one (ss_ret (se_tup (sv_cons (se_bty call_tuple_of vo_tuple (by rfl) T.b_tuple bt_tuple (sa_cons (so_N 3 (pv 3)) sa_nil)) (sv_cons (se_bty call_tuple_of vo_tuple (by rfl) T.b_tuple bt_tuple (sa_cons (so_N 6 (pv 6)) sa_nil)) sv_nil))))))))))
/-! ### is_name -/
abbrev s_is_name : Stmt := tS 16
theorem sc_is_name : FnScope ["thing", "sign"] ["thing"] (defScope s_is_name) := ⟨rfl, rfl, rfl, by decide +kernel, rfl, by decide +kernel, by decide +kernel⟩
noncomputable def m_is_name : MS := mSeq (mIf (mOr (mNot (mT (mOp (pIsi "str") (oCons (oN 0) oNil)))) (mNot (mT (mChain pLe pLe (oE (mC (.int 1))) (oE (mOp pLen (oCons (oN 0) (oNil)))) (oE (mC (.int 16))))))) (mRet (mC (.bl false))) (mNx))
  (mRet (mAndV (mOp (pIn false) (oCons (oE (mOp pIx (oCons (oN 0) (oCons (oE (mC (.int 0))) oNil)))) (oCons (oE (mC (.str "abcdefghijklmnopqrstuvwxyz"))) oNil))) (mOp pAll (oCons (oE (mComp (oCons (oN 0) oNil) itSeq (t1 1) (mYes) (mOp (pIn false) (oCons (oN 1) (oCons (oE (mC (.str "abcdefghijklmnopqrstuvwxyz0123456789_."))) oNil))) [1])) (oNil)))))
noncomputable def C_is_name : List PV → CR := runB 2 1 [0] m_is_name
theorem fb_is_name (T : Tx P w K mg base aBadThing aRateError) : FB P w K mg base 1 "is_name" 1 C_is_name := by
  obtain ⟨f, fd, F, g, b⟩ := T.f_is_name
  exact fb_of (N := ["thing", "sign"]) (ps := ["thing"]) (pn := [0]) (m := m_is_name) (k := 0) F sc_is_name g b fun cdv A outer s H E hr => (sss_cons (ss_if (st_bool (sw_or (st_not (st_val (se_isi kit_str (by rfl) T.b_isinstance (by rfl) T.b_str bt_str (so_N 0 (pv 0))))) (sw_or1 (st_not (st_chain (p := pLe) (p' := pLe) op_le op_le (so_E se_int) (so_E (se_blt call_len vo_len (by rfl) T.b_len bt_len (sa_cons (so_N 0 (pv 0)) sa_nil))) (so_E (se_Gint (by rfl) T.c_MOST_NAME))))))) (sss_one (ss_ret se_bl)) sss_nil)
  (sss_one (ss_ret (se_and (se_cmp (op_inAll (hu65 hr)) vo_in (so_E (se_ix ix_seq vo_ix (so_N 0 (pv 0)) (so_E se_int) (by intro _ _; rfl))) (so_E (se_Gstr (by rfl) T.c_LETTERS)) (by rfl)) (se_one (se_blt (cr_all rfl) vo_all (by rfl) T.b_all bt_all (sa_cons (so_E (se_comp rfl sc_is_name.nd (si_seq (so_N 0 (pv 0))) vi_seq (own := [("sign", 1)]) (blkOk_by (N := ["thing", "sign"]) (sc := defScope s_is_name) (by decide +kernel)) (tgb_name 1 (fun _ _ _ _ _ => (pg_name (i := 1) sc_is_name.nd rfl (Or.inl rfl)))) (by decide) (fun _ _ _ _ _ => sif_nil) (fun _ _ _ _ _ => (se_cmp (op_inAll (hu65 hr)) vo_in (so_N 1 (pv 1)) (so_E (se_Gstr (by rfl) T.c_SIGNS)) (by rfl))))) sa_nil)))))))
/-! ### whole -/
abbrev s_whole : Stmt := tS 14
theorem sc_whole : FnScope ["thing", "low", "high"] ["thing", "low", "high"] (defScope s_whole) := ⟨rfl, rfl, rfl, by decide +kernel, rfl, by decide +kernel, by decide +kernel⟩
noncomputable def m_whole : MS := mRet (mAndV (mOp (pIsi "int") (oCons (oN 0) oNil)) (mAndV (mNotV (mOp (pIsi "bool") (oCons (oN 0) oNil))) (mChain pLe pLe (oN 1) (oN 0) (oN 2))))
noncomputable def C_whole : List PV → CR := runB 3 3 [0, 1, 2] m_whole
theorem fb_whole (T : Tx P w K mg base aBadThing aRateError) : FB P w K mg base 1 "whole" 3 C_whole := by
  obtain ⟨f, fd, F, g, b⟩ := T.f_whole
  exact fb_of (N := ["thing", "low", "high"]) (ps := ["thing", "low", "high"]) (pn := [0, 1, 2]) (m := m_whole) (k := 0) F sc_whole g b fun cdv A outer s H E hr => (sss_one (ss_ret (se_and (se_isi kit_int (by rfl) T.b_isinstance (by rfl) T.b_int bt_int (so_N 0 (pv 0))) (se_and (se_not (se_isi kit_bool (by rfl) T.b_isinstance (by rfl) T.b_bool bt_bool (so_N 0 (pv 0)))) (se_one (se_chain (p := pLe) (p' := pLe) op_le op_le (so_N 1 (pv 1)) (so_N 0 (pv 0)) (so_N 2 (pv 2))))))))
/-! ### is_numbers -/
abbrev s_is_numbers : Stmt := tS 15
theorem sc_is_numbers : FnScope ["thing", "low", "high", "part"] ["thing", "low", "high"] (defScope s_is_numbers) := ⟨rfl, rfl, rfl, by decide +kernel, rfl, by decide +kernel, by decide +kernel⟩
noncomputable def m_is_numbers : MS := mSeq (mIf (mNot (mT (mOp (pIsi "tuple") (oCons (oN 0) oNil)))) (mRet (mC (.bl false))) (mNx))
  (mRet (mOp pAll (oCons (oE (mComp (oCons (oN 0) oNil) itSeq (t1 3) (mYes) (mFz (mCallN 3 C_whole (oCons (oN 3) (oCons (oN 1) (oCons (oN 2) (oNil)))))) [3])) (oNil))))
noncomputable def C_is_numbers : List PV → CR := runB 4 3 [0, 1, 2] m_is_numbers
theorem fb_is_numbers (T : Tx P w K mg base aBadThing aRateError) : FB P w K mg base 2 "is_numbers" 3 C_is_numbers := by
  obtain ⟨f, fd, F, g, b⟩ := T.f_is_numbers
  exact fb_of (N := ["thing", "low", "high", "part"]) (ps := ["thing", "low", "high"]) (pn := [0, 1, 2]) (m := m_is_numbers) (k := 1) F sc_is_numbers g b fun cdv A outer s H E hr => (sss_cons (ss_if (st_not (st_val (se_isi kit_tuple (by rfl) T.b_isinstance (by rfl) T.b_tuple bt_tuple (so_N 0 (pv 0))))) (sss_one (ss_ret se_bl)) sss_nil)
  (sss_one (ss_ret (se_blt (cr_all rfl) vo_all (by rfl) T.b_all bt_all (sa_cons (so_E (se_comp rfl sc_is_numbers.nd (si_seq (so_N 0 (pv 0))) vi_seq (own := [("part", 3)]) (blkOk_by (N := ["thing", "low", "high", "part"]) (sc := defScope s_is_numbers) (by decide +kernel)) (tgb_name 3 (fun _ _ _ _ _ => (pg_name (i := 3) sc_is_numbers.nd rfl (Or.inl rfl)))) (by decide) (fun _ _ _ _ _ => sif_nil) (fun _ _ _ _ _ => (se_fz (se_call takes0 (fb_whole T) (hr.mono (by omega)) (by rfl) (sa_cons (so_N 3 (pv 3)) (sa_cons (so_N 1 (pv 1)) (sa_cons (so_N 2 (pv 2)) sa_nil)))))))) sa_nil)))))
/-! ### is_times -/
abbrev s_is_times : Stmt := tS 17
theorem sc_is_times : FnScope ["thing"] ["thing"] (defScope s_is_times) := ⟨rfl, rfl, rfl, by decide +kernel, rfl, by decide +kernel, by decide +kernel⟩
noncomputable def m_is_times : MS := mRet (mAndV (mCallN 3 C_is_numbers (oCons (oN 0) (oCons (oE (mC (.int 0))) (oCons (oE (mC (.int 60))) (oNil))))) (mChain pLe pLe (oE (mC (.int 1))) (oE (mOp pLen (oCons (oN 0) (oNil)))) (oE (mC (.int 6)))))
noncomputable def C_is_times : List PV → CR := runB 1 1 [0] m_is_times
theorem fb_is_times (T : Tx P w K mg base aBadThing aRateError) : FB P w K mg base 3 "is_times" 1 C_is_times := by
  obtain ⟨f, fd, F, g, b⟩ := T.f_is_times
  exact fb_of (N := ["thing"]) (ps := ["thing"]) (pn := [0]) (m := m_is_times) (k := 2) F sc_is_times g b fun cdv A outer s H E hr => (sss_one (ss_ret (se_and (se_call bx_tk (fb_is_numbers T) (hr.mono (by omega)) (by rfl) (sa_cons (so_N 0 (pv 0)) (sa_cons (so_E se_int) (sa_cons (so_E (se_Gint (by rfl) T.c_MOST_TIME)) sa_nil)))) (se_one (se_chain (p := pLe) (p' := pLe) op_le op_le (so_E se_int) (so_E (se_blt call_len vo_len (by rfl) T.b_len bt_len (sa_cons (so_N 0 (pv 0)) sa_nil))) (so_E (se_Gint (by rfl) T.c_MOST_PHASES)))))))
/-! ### is_deed -/
abbrev s_is_deed : Stmt := tS 18
theorem sc_is_deed : FnScope ["thing"] ["thing"] (defScope s_is_deed) := ⟨rfl, rfl, rfl, by decide +kernel, rfl, by decide +kernel, by decide +kernel⟩
noncomputable def m_is_deed : MS := mRet (mAndV (mCallN 3 C_is_numbers (oCons (oN 0) (oCons (oE (mC (.int 0))) (oCons (oE (mOp pSub (oCons (oE (mC (.int 9973))) (oCons (oE (mC (.int 1))) oNil)))) (oNil))))) (mOp (pEq false) (oCons (oE (mOp pLen (oCons (oN 0) (oNil)))) (oCons (oE (mC (.int 2))) oNil))))
noncomputable def C_is_deed : List PV → CR := runB 1 1 [0] m_is_deed
theorem fb_is_deed (T : Tx P w K mg base aBadThing aRateError) : FB P w K mg base 3 "is_deed" 1 C_is_deed := by
  obtain ⟨f, fd, F, g, b⟩ := T.f_is_deed
  exact fb_of (N := ["thing"]) (ps := ["thing"]) (pn := [0]) (m := m_is_deed) (k := 2) F sc_is_deed g b fun cdv A outer s H E hr => (sss_one (ss_ret (se_and (se_call bx_tk (fb_is_numbers T) (hr.mono (by omega)) (by rfl) (sa_cons (so_N 0 (pv 0)) (sa_cons (so_E se_int) (sa_cons (so_E (se_op2 op_sub vo_sub (so_E (se_Gint (by rfl) T.c_MODULUS)) (so_E se_int))) sa_nil)))) (se_one (se_cmp (op_eqD (hu64 hr)) vo_eq (so_E (se_blt call_len vo_len (by rfl) T.b_len bt_len (sa_cons (so_N 0 (pv 0)) sa_nil))) (so_E se_int) (nomark _))))))
/-! ### is_block -/
abbrev s_is_block : Stmt := tS 19
theorem sc_is_block : FnScope ["thing"] ["thing"] (defScope s_is_block) := ⟨rfl, rfl, rfl, by decide +kernel, rfl, by decide +kernel, by decide +kernel⟩
noncomputable def m_is_block : MS := mSeq (mIf (mOr (mNot (mT (mOp (pIsi "tuple") (oCons (oN 0) oNil)))) (mT (mOp (pEq true) (oCons (oE (mOp pLen (oCons (oN 0) (oNil)))) (oCons (oE (mC (.int 3))) oNil))))) (mRet (mC (.bl false))) (mNx))
  (mRet (mAndV (mCallN 1 C_is_name (oCons (oE (mOp pIx (oCons (oN 0) (oCons (oE (mC (.int 0))) oNil)))) (oNil))) (mAndV (mCallN 1 C_is_times (oCons (oE (mOp pIx (oCons (oN 0) (oCons (oE (mC (.int 1))) oNil)))) (oNil))) (mCallN 1 C_is_deed (oCons (oE (mOp pIx (oCons (oN 0) (oCons (oE (mC (.int 2))) oNil)))) (oNil))))))
noncomputable def C_is_block : List PV → CR := runB 1 1 [0] m_is_block
theorem fb_is_block (T : Tx P w K mg base aBadThing aRateError) : FB P w K mg base 4 "is_block" 1 C_is_block := by
  obtain ⟨f, fd, F, g, b⟩ := T.f_is_block
  exact fb_of (N := ["thing"]) (ps := ["thing"]) (pn := [0]) (m := m_is_block) (k := 3) F sc_is_block g b fun cdv A outer s H E hr => (sss_cons (ss_if (st_bool (sw_or (st_not (st_val (se_isi kit_tuple (by rfl) T.b_isinstance (by rfl) T.b_tuple bt_tuple (so_N 0 (pv 0))))) (sw_or1 (st_cmp (op_neD (hu64 hr)) vo_ne (so_E (se_blt call_len vo_len (by rfl) T.b_len bt_len (sa_cons (so_N 0 (pv 0)) sa_nil))) (so_E se_int) (nomark _))))) (sss_one (ss_ret se_bl)) sss_nil)
  (sss_one (ss_ret (se_and (se_call bx_tk (fb_is_name T) (hr.mono (by omega)) (by rfl) (sa_cons (so_E (se_ix ix_seq vo_ix (so_N 0 (pv 0)) (so_E se_int) (by intro _ _; rfl))) sa_nil)) (se_and (se_call bx_tk (fb_is_times T) (hr.mono (by omega)) (by rfl) (sa_cons (so_E (se_ix ix_seq vo_ix (so_N 0 (pv 0)) (so_E se_int) (by intro _ _; rfl))) sa_nil)) (se_one (se_call bx_tk (fb_is_deed T) (hr.mono (by omega)) (by rfl) (sa_cons (so_E (se_ix ix_seq vo_ix (so_N 0 (pv 0)) (so_E se_int) (by intro _ _; rfl))) sa_nil))))))))
/-! ### is_rates -/
abbrev s_is_rates : Stmt := tS 20
theorem sc_is_rates : FnScope ["thing", "size"] ["thing", "size"] (defScope s_is_rates) := ⟨rfl, rfl, rfl, by decide +kernel, rfl, by decide +kernel, by decide +kernel⟩
noncomputable def m_is_rates : MS := mSeq (mIf (mOr (mNot (mT (mCallN 3 C_is_numbers (oCons (oN 0) (oCons (oE (mC (.int 0))) (oCons (oE (mC (.int 12))) (oNil))))))) (mT (mOp (pEq true) (oCons (oE (mOp pLen (oCons (oN 0) (oNil)))) (oCons (oN 1) oNil))))) (mRet (mC (.bl false))) (mNx))
  (mRet (mOp (pCmp pGt) (oCons (oE (mOp pSum (oCons (oN 0) (oNil)))) (oCons (oE (mC (.int 0))) oNil))))
noncomputable def C_is_rates : List PV → CR := runB 2 2 [0, 1] m_is_rates
theorem fb_is_rates (T : Tx P w K mg base aBadThing aRateError) : FB P w K mg base 3 "is_rates" 2 C_is_rates := by
  obtain ⟨f, fd, F, g, b⟩ := T.f_is_rates
  exact fb_of (N := ["thing", "size"]) (ps := ["thing", "size"]) (pn := [0, 1]) (m := m_is_rates) (k := 2) F sc_is_rates g b fun cdv A outer s H E hr => (sss_cons (ss_if (st_bool (sw_or (st_not (st_val (se_call bx_tk (fb_is_numbers T) (hr.mono (by omega)) (by rfl) (sa_cons (so_N 0 (pv 0)) (sa_cons (so_E se_int) (sa_cons (so_E (se_Gint (by rfl) T.c_MOST_RATE)) sa_nil)))))) (sw_or1 (st_cmp (op_neD (hu64 hr)) vo_ne (so_E (se_blt call_len vo_len (by rfl) T.b_len bt_len (sa_cons (so_N 0 (pv 0)) sa_nil))) (so_N 1 (pv 1)) (nomark _))))) (sss_one (ss_ret se_bl)) sss_nil)
  (sss_one (ss_ret (se_cmp op_gt (vo_cmp pGt) (so_E (se_blt (call_sum2 rfl) vo_sum (by rfl) T.b_sum bt_sum (sa_cons (so_N 0 (pv 0)) sa_nil))) (so_E se_int) (nomark _)))))
/-! ### is_start -/
abbrev s_is_start : Stmt := tS 21
theorem sc_is_start : FnScope ["thing"] ["thing"] (defScope s_is_start) := ⟨rfl, rfl, rfl, by decide +kernel, rfl, by decide +kernel, by decide +kernel⟩
noncomputable def m_is_start : MS := mRet (mAndV (mCallN 3 C_is_numbers (oCons (oN 0) (oCons (oE (mC (.int 0))) (oCons (oE (mOp pSub (oCons (oE (mC (.int 9973))) (oCons (oE (mC (.int 1))) oNil)))) (oNil))))) (mOp (pCmp pLe) (oCons (oE (mOp pLen (oCons (oN 0) (oNil)))) (oCons (oE (mC (.int 60))) oNil))))
noncomputable def C_is_start : List PV → CR := runB 1 1 [0] m_is_start
theorem fb_is_start (T : Tx P w K mg base aBadThing aRateError) : FB P w K mg base 3 "is_start" 1 C_is_start := by
  obtain ⟨f, fd, F, g, b⟩ := T.f_is_start
  exact fb_of (N := ["thing"]) (ps := ["thing"]) (pn := [0]) (m := m_is_start) (k := 2) F sc_is_start g b fun cdv A outer s H E hr => (sss_one (ss_ret (se_and (se_call bx_tk (fb_is_numbers T) (hr.mono (by omega)) (by rfl) (sa_cons (so_N 0 (pv 0)) (sa_cons (so_E se_int) (sa_cons (so_E (se_op2 op_sub vo_sub (so_E (se_Gint (by rfl) T.c_MODULUS)) (so_E se_int))) sa_nil)))) (se_one (se_cmp op_le (vo_cmp pLe) (so_E (se_blt call_len vo_len (by rfl) T.b_len bt_len (sa_cons (so_N 0 (pv 0)) sa_nil))) (so_E (se_Gint (by rfl) T.c_MOST_START)) (nomark _))))))
/-! ### is_queue -/
abbrev s_is_queue : Stmt := tS 22
theorem sc_is_queue : FnScope ["thing", "blocks", "source", "gives", "target", "takes", "start", "last"] ["thing", "blocks"] (defScope s_is_queue) := ⟨rfl, rfl, rfl, by decide +kernel, rfl, by decide +kernel, by decide +kernel⟩
noncomputable def m_is_queue : MS := mSeq (mIf (mOr (mNot (mT (mOp (pIsi "tuple") (oCons (oN 0) oNil)))) (mT (mOp (pEq true) (oCons (oE (mOp pLen (oCons (oN 0) (oNil)))) (oCons (oE (mC (.int 5))) oNil))))) (mRet (mC (.bl false))) (mNx))
  (mSeq (mAsg (mN 0) (tN [2, 3, 4, 5, 6]))
  (mSeq (mAsg (mOp pSub (oCons (oE (mOp pLen (oCons (oN 1) (oNil)))) (oCons (oE (mC (.int 1))) oNil))) (t1 7))
  (mSeq (mIf (mOr (mNot (mT (mCallN 3 C_whole (oCons (oN 2) (oCons (oE (mC (.int 0))) (oCons (oN 7) (oNil))))))) (mNot (mT (mCallN 3 C_whole (oCons (oN 4) (oCons (oE (mC (.int 0))) (oCons (oN 7) (oNil)))))))) (mRet (mC (.bl false))) (mNx))
  (mSeq (mIf (mNot (mT (mCallN 2 C_is_rates (oCons (oN 3) (oCons (oE (mOp pLen (oCons (oE (mOp pIx (oCons (oE (mOp pIx (oCons (oN 1) (oCons (oN 2) oNil)))) (oCons (oE (mC (.int 1))) oNil)))) (oNil)))) (oNil)))))) (mRet (mC (.bl false))) (mNx))
  (mRet (mAndV (mCallN 2 C_is_rates (oCons (oN 5) (oCons (oE (mOp pLen (oCons (oE (mOp pIx (oCons (oE (mOp pIx (oCons (oN 1) (oCons (oN 4) oNil)))) (oCons (oE (mC (.int 1))) oNil)))) (oNil)))) (oNil)))) (mCallN 1 C_is_start (oCons (oN 6) (oNil)))))))))
noncomputable def C_is_queue : List PV → CR := runB 8 2 [0, 1] m_is_queue
theorem fb_is_queue (T : Tx P w K mg base aBadThing aRateError) : FB P w K mg base 4 "is_queue" 2 C_is_queue := by
  obtain ⟨f, fd, F, g, b⟩ := T.f_is_queue
  exact fb_of (N := ["thing", "blocks", "source", "gives", "target", "takes", "start", "last"]) (ps := ["thing", "blocks"]) (pn := [0, 1]) (m := m_is_queue) (k := 3) F sc_is_queue g b fun cdv A outer s H E hr => (sss_cons (ss_if (st_bool (sw_or (st_not (st_val (se_isi kit_tuple (by rfl) T.b_isinstance (by rfl) T.b_tuple bt_tuple (so_N 0 (pv 0))))) (sw_or1 (st_cmp (op_neD (hu64 hr)) vo_ne (so_E (se_blt call_len vo_len (by rfl) T.b_len bt_len (sa_cons (so_N 0 (pv 0)) sa_nil))) (so_E se_int) (nomark _))))) (sss_one (ss_ret se_bl)) sss_nil)
  (sss_cons (ss_asg (se_N 0 (pv 0)) (tg_tup rfl (PNs.cons (pg_name (i := 2) sc_is_queue.nd rfl (Or.inl rfl)) (PNs.cons (pg_name (i := 3) sc_is_queue.nd rfl (Or.inl rfl)) (PNs.cons (pg_name (i := 4) sc_is_queue.nd rfl (Or.inl rfl)) (PNs.cons (pg_name (i := 5) sc_is_queue.nd rfl (Or.inl rfl)) (PNs.cons (pg_name (i := 6) sc_is_queue.nd rfl (Or.inl rfl)) PNs.nil rfl) rfl) rfl) rfl) rfl) rfl rfl) (by decide) (by rfl) (by rfl) (by rfl))
  (sss_cons (ss_set 7 (se_op2 op_sub vo_sub (so_E (se_blt call_len vo_len (by rfl) T.b_len bt_len (sa_cons (so_N 1 (pv 1)) sa_nil))) (so_E se_int)) sc_is_queue.nd rfl (Or.inl rfl) (by decide) (by rfl) (.inl rfl))
  (sss_cons (ss_if (st_bool (sw_or (st_not (st_val (se_call bx_tk (fb_whole T) (hr.mono (by omega)) (by rfl) (sa_cons (so_N 2 (pv 2)) (sa_cons (so_E se_int) (sa_cons (so_N 7 (pv 7)) sa_nil)))))) (sw_or1 (st_not (st_val (se_call bx_tk (fb_whole T) (hr.mono (by omega)) (by rfl) (sa_cons (so_N 4 (pv 4)) (sa_cons (so_E se_int) (sa_cons (so_N 7 (pv 7)) sa_nil))))))))) (sss_one (ss_ret se_bl)) sss_nil)
  (sss_cons (ss_if (st_not (st_val (se_call bx_tk (fb_is_rates T) (hr.mono (by omega)) (by rfl) (sa_cons (so_N 3 (pv 3)) (sa_cons (so_E (se_blt call_len vo_len (by rfl) T.b_len bt_len (sa_cons (so_E (se_ix ix_seq vo_ix (so_E (se_ix ix_seq vo_ix (so_N 1 (pv 1)) (so_N 2 (pv 2)) (by intro _ _; rfl))) (so_E se_int) (by intro _ _; rfl))) sa_nil))) sa_nil))))) (sss_one (ss_ret se_bl)) sss_nil)
  (sss_one (ss_ret (se_and (se_call bx_tk (fb_is_rates T) (hr.mono (by omega)) (by rfl) (sa_cons (so_N 5 (pv 5)) (sa_cons (so_E (se_blt call_len vo_len (by rfl) T.b_len bt_len (sa_cons (so_E (se_ix ix_seq vo_ix (so_E (se_ix ix_seq vo_ix (so_N 1 (pv 1)) (so_N 4 (pv 4)) (by intro _ _; rfl))) (so_E se_int) (by intro _ _; rfl))) sa_nil))) sa_nil))) (se_one (se_call bx_tk (fb_is_start T) (hr.mono (by omega)) (by rfl) (sa_cons (so_N 6 (pv 6)) sa_nil)))))))))))
/-! ### is_graph -/
abbrev s_is_graph : Stmt := tS 23
theorem sc_is_graph : FnScope ["thing", "block", "queue", "blocks", "queues"] ["thing"] (defScope s_is_graph) := ⟨rfl, rfl, rfl, by decide +kernel, rfl, by decide +kernel, by decide +kernel⟩
noncomputable def m_is_graph : MS := mSeq (mIf (mOr (mNot (mT (mOp (pIsi "tuple") (oCons (oN 0) oNil)))) (mT (mOp (pEq true) (oCons (oE (mOp pLen (oCons (oN 0) (oNil)))) (oCons (oE (mC (.int 2))) oNil))))) (mRet (mC (.bl false))) (mNx))
  (mSeq (mAsg (mN 0) (tN [3, 4]))
  (mSeq (mIf (mOr (mNot (mT (mOp (pIsi "tuple") (oCons (oN 3) oNil)))) (mNot (mT (mChain pLe pLe (oE (mC (.int 1))) (oE (mOp pLen (oCons (oN 3) (oNil)))) (oE (mC (.int 60))))))) (mRet (mC (.bl false))) (mNx))
  (mSeq (mIf (mOr (mNot (mT (mOp (pIsi "tuple") (oCons (oN 4) oNil)))) (mT (mOp (pCmp pGt) (oCons (oE (mOp pLen (oCons (oN 4) (oNil)))) (oCons (oE (mC (.int 160))) oNil))))) (mRet (mC (.bl false))) (mNx))
  (mSeq (mIf (mNot (mT (mOp pAll (oCons (oE (mComp (oCons (oN 3) oNil) itSeq (t1 1) (mYes) (mFz (mCallN 1 C_is_block (oCons (oN 1) (oNil)))) [1])) (oNil))))) (mRet (mC (.bl false))) (mNx))
  (mSeq (mIf (mT (mOp (pEq true) (oCons (oE (mLenSc (oCons (oN 3) oNil) itSeq (t1 1) (mYes) (mFz (mOp pIx (oCons (oN 1) (oCons (oE (mC (.int 0))) oNil)))) [1])) (oCons (oE (mOp pLen (oCons (oN 3) (oNil)))) oNil)))) (mRet (mC (.bl false))) (mNx))
  (mRet (mOp pAll (oCons (oE (mComp (oCons (oN 4) oNil) itSeq (t1 2) (mYes) (mFz (mCallN 2 C_is_queue (oCons (oN 2) (oCons (oN 3) (oNil))))) [2])) (oNil)))))))))
noncomputable def C_is_graph : List PV → CR := runB 5 1 [0] m_is_graph
theorem fb_is_graph (T : Tx P w K mg base aBadThing aRateError) : FB P w K mg base 5 "is_graph" 1 C_is_graph := by
  obtain ⟨f, fd, F, g, b⟩ := T.f_is_graph
  exact fb_of (N := ["thing", "block", "queue", "blocks", "queues"]) (ps := ["thing"]) (pn := [0]) (m := m_is_graph) (k := 4) F sc_is_graph g b fun cdv A outer s H E hr => (sss_cons (ss_if (st_bool (sw_or (st_not (st_val (se_isi kit_tuple (by rfl) T.b_isinstance (by rfl) T.b_tuple bt_tuple (so_N 0 (pv 0))))) (sw_or1 (st_cmp (op_neD (hu64 hr)) vo_ne (so_E (se_blt call_len vo_len (by rfl) T.b_len bt_len (sa_cons (so_N 0 (pv 0)) sa_nil))) (so_E se_int) (nomark _))))) (sss_one (ss_ret se_bl)) sss_nil)
  (sss_cons (ss_asg (se_N 0 (pv 0)) (tg_tup rfl (PNs.cons (pg_name (i := 3) sc_is_graph.nd rfl (Or.inr rfl)) (PNs.cons (pg_name (i := 4) sc_is_graph.nd rfl (Or.inl rfl)) PNs.nil rfl) rfl) rfl rfl) (by decide) (by rfl) (by rfl) (by rfl))
  (sss_cons (ss_if (st_bool (sw_or (st_not (st_val (se_isi kit_tuple (by rfl) T.b_isinstance (by rfl) T.b_tuple bt_tuple (so_N 3 (pv 3))))) (sw_or1 (st_not (st_chain (p := pLe) (p' := pLe) op_le op_le (so_E se_int) (so_E (se_blt call_len vo_len (by rfl) T.b_len bt_len (sa_cons (so_N 3 (pv 3)) sa_nil))) (so_E (se_Gint (by rfl) T.c_MOST_BLOCKS))))))) (sss_one (ss_ret se_bl)) sss_nil)
  (sss_cons (ss_if (st_bool (sw_or (st_not (st_val (se_isi kit_tuple (by rfl) T.b_isinstance (by rfl) T.b_tuple bt_tuple (so_N 4 (pv 4))))) (sw_or1 (st_cmp op_gt (vo_cmp pGt) (so_E (se_blt call_len vo_len (by rfl) T.b_len bt_len (sa_cons (so_N 4 (pv 4)) sa_nil))) (so_E (se_Gint (by rfl) T.c_MOST_QUEUES)) (nomark _))))) (sss_one (ss_ret se_bl)) sss_nil)
  (sss_cons (ss_if (st_not (st_val (se_blt (cr_all rfl) vo_all (by rfl) T.b_all bt_all (sa_cons (so_E (se_comp rfl sc_is_graph.nd (si_seq (so_N 3 (pv 3))) vi_seq (own := [("block", 1)]) (blkOk_by (N := ["thing", "block", "queue", "blocks", "queues"]) (sc := defScope s_is_graph) (by decide +kernel)) (tgb_name 1 (fun _ _ _ _ _ => (pg_name (i := 1) sc_is_graph.nd rfl (Or.inl rfl)))) (by decide) (fun _ _ _ _ _ => sif_nil) (fun _ _ _ _ _ => (se_fz (se_call takes0 (fb_is_block T) (hr.mono (by omega)) (by rfl) (sa_cons (so_N 1 (pv 1)) sa_nil)))))) sa_nil)))) (sss_one (ss_ret se_bl)) sss_nil)
  (sss_cons (ss_if (st_cmp (op_neD (hu64 hr)) vo_ne (so_E (se_lenSc (by rfl) T.b_len rfl sc_is_graph.nd (si_seq (so_N 3 (pv 3))) vi_seq (own := [("block", 1)]) (blkOk_by (N := ["thing", "block", "queue", "blocks", "queues"]) (sc := defScope s_is_graph) (by decide +kernel)) (tgb_name 1 (fun _ _ _ _ _ => (pg_name (i := 1) sc_is_graph.nd rfl (Or.inl rfl)))) (by decide) (fun _ _ _ _ _ => sif_nil) (fun _ _ _ _ _ => (se_fz (se_ix ix_seq vo_ix (so_N 1 (pv 1)) (so_E se_int) (by intro _ _; rfl)))))) (so_E (se_blt call_len vo_len (by rfl) T.b_len bt_len (sa_cons (so_N 3 (pv 3)) sa_nil))) (nomark _)) (sss_one (ss_ret se_bl)) sss_nil)
  (sss_one (ss_ret (se_blt (cr_all rfl) vo_all (by rfl) T.b_all bt_all (sa_cons (so_E (se_comp rfl sc_is_graph.nd (si_seq (so_N 4 (pv 4))) vi_seq (own := [("queue", 2)]) (blkOk_by (N := ["thing", "block", "queue", "blocks", "queues"]) (sc := defScope s_is_graph) (by decide +kernel)) (tgb_name 2 (fun _ _ _ _ _ => (pg_name (i := 2) sc_is_graph.nd rfl (Or.inl rfl)))) (by decide) (fun _ _ _ _ _ => sif_nil) (fun _ _ _ _ _ => (se_fz (se_call takes0 (fb_is_queue T) (hr.mono (by omega)) (by rfl) (sa_cons (so_N 2 (pv 2)) (sa_cons (so_N 3 (pv 3)) sa_nil))))))) sa_nil))))))))))
/-! ### check_graph -/
abbrev s_check_graph : Stmt := tS 24
theorem sc_check_graph : FnScope ["graph"] ["graph"] (defScope s_check_graph) := ⟨rfl, rfl, rfl, by decide +kernel, rfl, by decide +kernel, by decide +kernel⟩
noncomputable def m_check_graph : MS := mIf (mNot (mT (mCallN 1 C_is_graph (oCons (oN 0) (oNil))))) (mRaise (mMk "BadThing" ["part"] (vCons (mC (.str "graph")) (vNil)))) (mNx)
noncomputable def C_check_graph : List PV → CR := runB 1 1 [0] m_check_graph
theorem fb_check_graph (T : Tx P w K mg base aBadThing aRateError) : FB P w K mg base 6 "check_graph" 1 C_check_graph := by
  obtain ⟨f, fd, F, g, b⟩ := T.f_check_graph
  exact fb_of (N := ["graph"]) (ps := ["graph"]) (pn := [0]) (m := m_check_graph) (k := 5) F sc_check_graph g b fun cdv A outer s H E hr => (sss_one (ss_if (st_not (st_val (se_call bx_tk (fb_is_graph T) (hr.mono (by omega)) (by rfl) (sa_cons (so_N 0 (pv 0)) sa_nil)))) (sss_one (ss_raise rfl bx_tk (sx_mk T.x_BadThing (hr.mono (by omega)) (by rfl) (sv_cons se_str sv_nil) (by decide)))) sss_nil))
/-! ### is_place -/
abbrev s_is_place : Stmt := tS 25
theorem sc_is_place : FnScope ["thing", "many"] ["thing", "many"] (defScope s_is_place) := ⟨rfl, rfl, rfl, by decide +kernel, rfl, by decide +kernel, by decide +kernel⟩
noncomputable def m_is_place : MS := mRet (mCallN 3 C_whole (oCons (oN 0) (oCons (oE (mC (.int 0))) (oCons (oE (mOp pSub (oCons (oN 1) (oCons (oE (mC (.int 1))) oNil)))) (oNil)))))
noncomputable def C_is_place : List PV → CR := runB 2 2 [0, 1] m_is_place
theorem fb_is_place (T : Tx P w K mg base aBadThing aRateError) : FB P w K mg base 2 "is_place" 2 C_is_place := by
  obtain ⟨f, fd, F, g, b⟩ := T.f_is_place
  exact fb_of (N := ["thing", "many"]) (ps := ["thing", "many"]) (pn := [0, 1]) (m := m_is_place) (k := 1) F sc_is_place g b fun cdv A outer s H E hr => (sss_one (ss_ret (se_call bx_tk (fb_whole T) (hr.mono (by omega)) (by rfl) (sa_cons (so_N 0 (pv 0)) (sa_cons (so_E se_int) (sa_cons (so_E (se_op2 op_sub vo_sub (so_N 1 (pv 1)) (so_E se_int))) sa_nil))))))
/-! ### check_block -/
abbrev s_check_block : Stmt := tS 29
theorem sc_check_block : FnScope ["graph", "block"] ["graph", "block"] (defScope s_check_block) := ⟨rfl, rfl, rfl, by decide +kernel, rfl, by decide +kernel, by decide +kernel⟩
noncomputable def m_check_block : MS := mIf (mNot (mT (mCallN 2 C_is_place (oCons (oN 1) (oCons (oE (mOp pLen (oCons (oE (mOp pIx (oCons (oN 0) (oCons (oE (mC (.int 0))) oNil)))) (oNil)))) (oNil)))))) (mRaise (mMk "BadThing" ["part"] (vCons (mC (.str "block")) (vNil)))) (mNx)
noncomputable def C_check_block : List PV → CR := runB 2 2 [0, 1] m_check_block
theorem fb_check_block (T : Tx P w K mg base aBadThing aRateError) : FB P w K mg base 3 "check_block" 2 C_check_block := by
  obtain ⟨f, fd, F, g, b⟩ := T.f_check_block
  exact fb_of (N := ["graph", "block"]) (ps := ["graph", "block"]) (pn := [0, 1]) (m := m_check_block) (k := 2) F sc_check_block g b fun cdv A outer s H E hr => (sss_one (ss_if (st_not (st_val (se_call bx_tk (fb_is_place T) (hr.mono (by omega)) (by rfl) (sa_cons (so_N 1 (pv 1)) (sa_cons (so_E (se_blt call_len vo_len (by rfl) T.b_len bt_len (sa_cons (so_E (se_ix ix_seq vo_ix (so_N 0 (pv 0)) (so_E se_int) (by intro _ _; rfl))) sa_nil))) sa_nil))))) (sss_one (ss_raise rfl bx_tk (sx_mk T.x_BadThing (hr.mono (by omega)) (by rfl) (sv_cons se_str sv_nil) (by decide)))) sss_nil))
/-! ### into -/
abbrev s_into : Stmt := tS 35
theorem sc_into : FnScope ["graph", "block", "k", "queue"] ["graph", "block"] (defScope s_into) := ⟨rfl, rfl, rfl, by decide +kernel, rfl, by decide +kernel, by decide +kernel⟩
noncomputable def m_into : MS := mRet (mOp pTuple (oCons (oE (mComp (oCons (oE (mOp pIx (oCons (oN 0) (oCons (oE (mC (.int 1))) oNil)))) oNil) itEnumA (tN [2, 3]) (mT (mOp (pEq false) (oCons (oE (mOp pIx (oCons (oN 3) (oCons (oE (mC (.int 2))) oNil)))) (oCons (oN 1) oNil)))) (mFzN 2) [2, 3])) (oNil)))
noncomputable def C_into : List PV → CR := runB 4 2 [0, 1] m_into
theorem fb_into (T : Tx P w K mg base aBadThing aRateError) : FB P w K mg base 1 "into" 2 C_into := by
  obtain ⟨f, fd, F, g, b⟩ := T.f_into
  exact fb_of (N := ["graph", "block", "k", "queue"]) (ps := ["graph", "block"]) (pn := [0, 1]) (m := m_into) (k := 0) F sc_into g b fun cdv A outer s H E hr => (sss_one (ss_ret (se_bty call_tuple_of vo_tuple (by rfl) T.b_tuple bt_tuple (sa_cons (so_E (se_comp rfl sc_into.nd (si_enumA (so_E (se_ix ix_seq vo_ix (so_N 0 (pv 0)) (so_E se_int) (by intro _ _; rfl))) (by rfl) T.b_enumerate (by rfl) (by rfl)) vi_enumA (own := [("k", 2), ("queue", 3)]) (blkOk_by (N := ["graph", "block", "k", "queue"]) (sc := defScope s_into) (by decide +kernel)) (tgb_tup rfl (BNs.cons (fun _ _ _ _ _ => (pg_name (i := 2) sc_into.nd rfl (Or.inl rfl))) (BNs.cons (fun _ _ _ _ _ => (pg_name (i := 3) sc_into.nd rfl (Or.inl rfl))) BNs.nil (fun _ _ _ _ _ => rfl)) (fun _ _ _ _ _ => rfl)) (fun _ _ _ _ _ => rfl) (fun _ _ _ _ _ => rfl)) (by decide) (fun _ _ _ _ _ => sif_one (st_cmp (op_eqD (hu64 hr)) vo_eq (so_E (se_ix ix_seq vo_ix (so_N 3 (pv 3)) (so_E se_int) (by intro _ _; rfl))) (so_N 1 (pv 1)) (nomark _))) (fun _ _ _ _ _ => (se_FzN 2 (pv 2))))) sa_nil))))
/-! ### incoming -/
abbrev s_incoming : Stmt := tS 33
theorem sc_incoming : FnScope ["graph", "block"] ["graph", "block"] (defScope s_incoming) := ⟨rfl, rfl, rfl, by decide +kernel, rfl, by decide +kernel, by decide +kernel⟩
noncomputable def m_incoming : MS := mSeq (mDrop (mCallN 1 C_check_graph (oCons (oN 0) (oNil))))
  (mSeq (mDrop (mCallN 2 C_check_block (oCons (oN 0) (oCons (oN 1) (oNil)))))
  (mRet (mCallN 2 C_into (oCons (oN 0) (oCons (oN 1) (oNil))))))
noncomputable def C_incoming : List PV → CR := runB 2 2 [0, 1] m_incoming
theorem fb_incoming (T : Tx P w K mg base aBadThing aRateError) : FB P w K mg base 7 "incoming" 2 C_incoming := by
  obtain ⟨f, fd, F, g, b⟩ := T.f_incoming
  exact fb_of (N := ["graph", "block"]) (ps := ["graph", "block"]) (pn := [0, 1]) (m := m_incoming) (k := 6) F sc_incoming g b fun cdv A outer s H E hr => (sss_cons (ss_expr (se_call bx_tk (fb_check_graph T) (hr.mono (by omega)) (by rfl) (sa_cons (so_N 0 (pv 0)) sa_nil)) (by rfl))
  (sss_cons (ss_expr (se_call bx_tk (fb_check_block T) (hr.mono (by omega)) (by rfl) (sa_cons (so_N 0 (pv 0)) (sa_cons (so_N 1 (pv 1)) sa_nil))) (by rfl))
  (sss_one (ss_ret (se_call bx_tk (fb_into T) (hr.mono (by omega)) (by rfl) (sa_cons (so_N 0 (pv 0)) (sa_cons (so_N 1 (pv 1)) sa_nil)))))))
/-! ### _law_is_int -/
abbrev s_L_is_int : Stmt := tS 47
theorem sc_L_is_int : FnScope ["thing"] ["thing"] (defScope s_L_is_int) := ⟨rfl, rfl, rfl, by decide +kernel, rfl, by decide +kernel, by decide +kernel⟩
noncomputable def m_L_is_int : MS := mRet (mAndV (mOp (pIsi "int") (oCons (oN 0) oNil)) (mNotV (mOp (pIsi "bool") (oCons (oN 0) oNil))))
noncomputable def C_L_is_int : List PV → CR := runB 1 1 [0] m_L_is_int
theorem fb_L_is_int (T : Tx P w K mg base aBadThing aRateError) : FB P w K mg base 1 "_law_is_int" 1 C_L_is_int := by
  obtain ⟨f, fd, F, g, b⟩ := T.f_L_is_int
  exact fb_of (N := ["thing"]) (ps := ["thing"]) (pn := [0]) (m := m_L_is_int) (k := 0) F sc_L_is_int g b fun cdv A outer s H E hr => (sss_one (ss_ret (se_and (se_isi kit_int (by rfl) T.b_isinstance (by rfl) T.b_int bt_int (so_N 0 (pv 0))) (se_one (se_not (se_isi kit_bool (by rfl) T.b_isinstance (by rfl) T.b_bool bt_bool (so_N 0 (pv 0))))))))
/-! ### _law_is_ints -/
abbrev s_L_is_ints : Stmt := tS 48
theorem sc_L_is_ints : FnScope ["row", "part"] ["row"] (defScope s_L_is_ints) := ⟨rfl, rfl, rfl, by decide +kernel, rfl, by decide +kernel, by decide +kernel⟩
noncomputable def m_L_is_ints : MS := mRet (mAndV (mOp (pIsi "tuple") (oCons (oN 0) oNil)) (mOp pAll (oCons (oE (mComp (oCons (oN 0) oNil) itSeq (t1 1) (mYes) (mFz (mCallN 1 C_L_is_int (oCons (oN 1) (oNil)))) [1])) (oNil))))
noncomputable def C_L_is_ints : List PV → CR := runB 2 1 [0] m_L_is_ints
theorem fb_L_is_ints (T : Tx P w K mg base aBadThing aRateError) : FB P w K mg base 2 "_law_is_ints" 1 C_L_is_ints := by
  obtain ⟨f, fd, F, g, b⟩ := T.f_L_is_ints
  exact fb_of (N := ["row", "part"]) (ps := ["row"]) (pn := [0]) (m := m_L_is_ints) (k := 1) F sc_L_is_ints g b fun cdv A outer s H E hr => (sss_one (ss_ret (se_and (se_isi kit_tuple (by rfl) T.b_isinstance (by rfl) T.b_tuple bt_tuple (so_N 0 (pv 0))) (se_one (se_blt (cr_all rfl) vo_all (by rfl) T.b_all bt_all (sa_cons (so_E (se_comp rfl sc_L_is_ints.nd (si_seq (so_N 0 (pv 0))) vi_seq (own := [("part", 1)]) (blkOk_by (N := ["row", "part"]) (sc := defScope s_L_is_ints) (by decide +kernel)) (tgb_name 1 (fun _ _ _ _ _ => (pg_name (i := 1) sc_L_is_ints.nd rfl (Or.inl rfl)))) (by decide) (fun _ _ _ _ _ => sif_nil) (fun _ _ _ _ _ => (se_fz (se_call takes0 (fb_L_is_int T) (hr.mono (by omega)) (by rfl) (sa_cons (so_N 1 (pv 1)) sa_nil)))))) sa_nil))))))
/-! ### out_of -/
abbrev s_out_of : Stmt := tS 36
theorem sc_out_of : FnScope ["graph", "block", "k", "queue"] ["graph", "block"] (defScope s_out_of) := ⟨rfl, rfl, rfl, by decide +kernel, rfl, by decide +kernel, by decide +kernel⟩
noncomputable def m_out_of : MS := mRet (mOp pTuple (oCons (oE (mComp (oCons (oE (mOp pIx (oCons (oN 0) (oCons (oE (mC (.int 1))) oNil)))) oNil) itEnumA (tN [2, 3]) (mT (mOp (pEq false) (oCons (oE (mOp pIx (oCons (oN 3) (oCons (oE (mC (.int 0))) oNil)))) (oCons (oN 1) oNil)))) (mFzN 2) [2, 3])) (oNil)))
noncomputable def C_out_of : List PV → CR := runB 4 2 [0, 1] m_out_of
theorem fb_out_of (T : Tx P w K mg base aBadThing aRateError) : FB P w K mg base 1 "out_of" 2 C_out_of := by
  obtain ⟨f, fd, F, g, b⟩ := T.f_out_of
  exact fb_of (N := ["graph", "block", "k", "queue"]) (ps := ["graph", "block"]) (pn := [0, 1]) (m := m_out_of) (k := 0) F sc_out_of g b fun cdv A outer s H E hr => (sss_one (ss_ret (se_bty call_tuple_of vo_tuple (by rfl) T.b_tuple bt_tuple (sa_cons (so_E (se_comp rfl sc_out_of.nd (si_enumA (so_E (se_ix ix_seq vo_ix (so_N 0 (pv 0)) (so_E se_int) (by intro _ _; rfl))) (by rfl) T.b_enumerate (by rfl) (by rfl)) vi_enumA (own := [("k", 2), ("queue", 3)]) (blkOk_by (N := ["graph", "block", "k", "queue"]) (sc := defScope s_out_of) (by decide +kernel)) (tgb_tup rfl (BNs.cons (fun _ _ _ _ _ => (pg_name (i := 2) sc_out_of.nd rfl (Or.inl rfl))) (BNs.cons (fun _ _ _ _ _ => (pg_name (i := 3) sc_out_of.nd rfl (Or.inl rfl))) BNs.nil (fun _ _ _ _ _ => rfl)) (fun _ _ _ _ _ => rfl)) (fun _ _ _ _ _ => rfl) (fun _ _ _ _ _ => rfl)) (by decide) (fun _ _ _ _ _ => sif_one (st_cmp (op_eqD (hu64 hr)) vo_eq (so_E (se_ix ix_seq vo_ix (so_N 3 (pv 3)) (so_E se_int) (by intro _ _; rfl))) (so_N 1 (pv 1)) (nomark _))) (fun _ _ _ _ _ => (se_FzN 2 (pv 2))))) sa_nil))))
/-! ### outgoing -/
abbrev s_outgoing : Stmt := tS 34
theorem sc_outgoing : FnScope ["graph", "block"] ["graph", "block"] (defScope s_outgoing) := ⟨rfl, rfl, rfl, by decide +kernel, rfl, by decide +kernel, by decide +kernel⟩
noncomputable def m_outgoing : MS := mSeq (mDrop (mCallN 1 C_check_graph (oCons (oN 0) (oNil))))
  (mSeq (mDrop (mCallN 2 C_check_block (oCons (oN 0) (oCons (oN 1) (oNil)))))
  (mRet (mCallN 2 C_out_of (oCons (oN 0) (oCons (oN 1) (oNil))))))
noncomputable def C_outgoing : List PV → CR := runB 2 2 [0, 1] m_outgoing
theorem fb_outgoing (T : Tx P w K mg base aBadThing aRateError) : FB P w K mg base 7 "outgoing" 2 C_outgoing := by
  obtain ⟨f, fd, F, g, b⟩ := T.f_outgoing
  exact fb_of (N := ["graph", "block"]) (ps := ["graph", "block"]) (pn := [0, 1]) (m := m_outgoing) (k := 6) F sc_outgoing g b fun cdv A outer s H E hr => (sss_cons (ss_expr (se_call bx_tk (fb_check_graph T) (hr.mono (by omega)) (by rfl) (sa_cons (so_N 0 (pv 0)) sa_nil)) (by rfl))
  (sss_cons (ss_expr (se_call bx_tk (fb_check_block T) (hr.mono (by omega)) (by rfl) (sa_cons (so_N 0 (pv 0)) (sa_cons (so_N 1 (pv 1)) sa_nil))) (by rfl))
  (sss_one (ss_ret (se_call bx_tk (fb_out_of T) (hr.mono (by omega)) (by rfl) (sa_cons (so_N 0 (pv 0)) (sa_cons (so_N 1 (pv 1)) sa_nil)))))))
/-! ### phases -/
abbrev s_phases : Stmt := tS 28
theorem sc_phases : FnScope ["graph", "block"] ["graph", "block"] (defScope s_phases) := ⟨rfl, rfl, rfl, by decide +kernel, rfl, by decide +kernel, by decide +kernel⟩
noncomputable def m_phases : MS := mSeq (mDrop (mCallN 1 C_check_graph (oCons (oN 0) (oNil))))
  (mSeq (mDrop (mCallN 2 C_check_block (oCons (oN 0) (oCons (oN 1) (oNil)))))
  (mRet (mOp pLen (oCons (oE (mOp pIx (oCons (oE (mOp pIx (oCons (oE (mOp pIx (oCons (oN 0) (oCons (oE (mC (.int 0))) oNil)))) (oCons (oN 1) oNil)))) (oCons (oE (mC (.int 1))) oNil)))) (oNil)))))
noncomputable def C_phases : List PV → CR := runB 2 2 [0, 1] m_phases
theorem fb_phases (T : Tx P w K mg base aBadThing aRateError) : FB P w K mg base 7 "phases" 2 C_phases := by
  obtain ⟨f, fd, F, g, b⟩ := T.f_phases
  exact fb_of (N := ["graph", "block"]) (ps := ["graph", "block"]) (pn := [0, 1]) (m := m_phases) (k := 6) F sc_phases g b fun cdv A outer s H E hr => (sss_cons (ss_expr (se_call bx_tk (fb_check_graph T) (hr.mono (by omega)) (by rfl) (sa_cons (so_N 0 (pv 0)) sa_nil)) (by rfl))
  (sss_cons (ss_expr (se_call bx_tk (fb_check_block T) (hr.mono (by omega)) (by rfl) (sa_cons (so_N 0 (pv 0)) (sa_cons (so_N 1 (pv 1)) sa_nil))) (by rfl))
  (sss_one (ss_ret (se_blt call_len vo_len (by rfl) T.b_len bt_len (sa_cons (so_E (se_ix ix_seq vo_ix (so_E (se_ix ix_seq vo_ix (so_E (se_ix ix_seq vo_ix (so_N 0 (pv 0)) (so_E se_int) (by intro _ _; rfl))) (so_N 1 (pv 1)) (by intro _ _; rfl))) (so_E se_int) (by intro _ _; rfl))) sa_nil))))))
/-! ### _law_ends -/
abbrev s_L_ends : Stmt := tS 59
theorem sc_L_ends : FnScope ["graph", "j", "k", "ins", "outs", "told"] ["graph"] (defScope s_L_ends) := ⟨rfl, rfl, rfl, by decide +kernel, rfl, by decide +kernel, by decide +kernel⟩
noncomputable def m_L_ends : MS := mSeq (mFor [0] (oCons (oE (mOp pLen (oCons (oE (mOp pIx (oCons (oN 0) (oCons (oE (mC (.int 0))) oNil)))) (oNil)))) oNil) itRng1 (t1 2) (mSeq (mAsg (mOp pTuple (oCons (oE (mComp (oCons (oE (mOp pLen (oCons (oE (mOp pIx (oCons (oN 0) (oCons (oE (mC (.int 1))) oNil)))) (oNil)))) oNil) itRng1 (t1 1) (mT (mOp (pEq false) (oCons (oE (mOp pIx (oCons (oE (mOp pIx (oCons (oE (mOp pIx (oCons (oN 0) (oCons (oE (mC (.int 1))) oNil)))) (oCons (oN 1) oNil)))) (oCons (oE (mC (.int 2))) oNil)))) (oCons (oN 2) oNil)))) (mFzN 1) [1])) (oNil))) (t1 3))
  (mSeq (mAsg (mOp pTuple (oCons (oE (mComp (oCons (oE (mOp pLen (oCons (oE (mOp pIx (oCons (oN 0) (oCons (oE (mC (.int 1))) oNil)))) (oNil)))) oNil) itRng1 (t1 1) (mT (mOp (pEq false) (oCons (oE (mOp pIx (oCons (oE (mOp pIx (oCons (oE (mOp pIx (oCons (oN 0) (oCons (oE (mC (.int 1))) oNil)))) (oCons (oN 1) oNil)))) (oCons (oE (mC (.int 0))) oNil)))) (oCons (oN 2) oNil)))) (mFzN 1) [1])) (oNil))) (t1 4))
  (mSeq (mAsg (mCallN 2 C_incoming (oCons (oN 0) (oCons (oN 2) (oNil)))) (t1 5))
  (mSeq (mIf (mOr (mNot (mT (mCallN 1 C_L_is_ints (oCons (oN 5) (oNil))))) (mT (mOp (pEq true) (oCons (oN 5) (oCons (oN 3) oNil))))) (mRet (mC (.bl false))) (mNx))
  (mSeq (mAsg (mCallN 2 C_outgoing (oCons (oN 0) (oCons (oN 2) (oNil)))) (t1 5))
  (mSeq (mIf (mOr (mNot (mT (mCallN 1 C_L_is_ints (oCons (oN 5) (oNil))))) (mT (mOp (pEq true) (oCons (oN 5) (oCons (oN 4) oNil))))) (mRet (mC (.bl false))) (mNx))
  (mSeq (mAsg (mCallN 2 C_phases (oCons (oN 0) (oCons (oN 2) (oNil)))) (t1 5))
  (mIf (mOr (mNot (mT (mCallN 1 C_L_is_int (oCons (oN 5) (oNil))))) (mT (mOp (pEq true) (oCons (oN 5) (oCons (oE (mOp pLen (oCons (oE (mOp pIx (oCons (oE (mOp pIx (oCons (oE (mOp pIx (oCons (oN 0) (oCons (oE (mC (.int 0))) oNil)))) (oCons (oN 2) oNil)))) (oCons (oE (mC (.int 1))) oNil)))) (oNil)))) oNil))))) (mRet (mC (.bl false))) (mNx))))))))))
  (mRet (mC (.bl true)))
noncomputable def C_L_ends : List PV → CR := runB 6 1 [0] m_L_ends
theorem fb_L_ends (T : Tx P w K mg base aBadThing aRateError) : FB P w K mg base 8 "_law_ends" 1 C_L_ends := by
  obtain ⟨f, fd, F, g, b⟩ := T.f_L_ends
  exact fb_of (N := ["graph", "j", "k", "ins", "outs", "told"]) (ps := ["graph"]) (pn := [0]) (m := m_L_ends) (k := 7) F sc_L_ends g b fun cdv A outer s H E hr => (sss_cons (ss_for bx_po rfl (si_rng1 (so_E (se_blt call_len vo_len (by rfl) T.b_len bt_len (sa_cons (so_E (se_ix ix_seq vo_ix (so_N 0 (pv 0)) (so_E se_int) (by intro _ _; rfl))) sa_nil))) (by rfl) T.b_range (by rfl) (by rfl)) vi_rng1 (tg_name 2 (pg_name (i := 2) sc_L_ends.nd rfl (Or.inr rfl))) (by decide) (by decide) (sss_cons (ss_set 3 (se_bty call_tuple_of vo_tuple (by rfl) T.b_tuple bt_tuple (sa_cons (so_E (se_comp rfl sc_L_ends.nd (si_rng1 (so_E (se_blt call_len vo_len (by rfl) T.b_len bt_len (sa_cons (so_E (se_ix ix_seq vo_ix (so_N 0 (pv 0)) (so_E se_int) (by intro _ _; rfl))) sa_nil))) (by rfl) T.b_range (by rfl) (by rfl)) vi_rng1 (own := [("j", 1)]) (blkOk_by (N := ["graph", "j", "k", "ins", "outs", "told"]) (sc := defScope s_L_ends) (by decide +kernel)) (tgb_name 1 (fun _ _ _ _ _ => (pg_name (i := 1) sc_L_ends.nd rfl (Or.inl rfl)))) (by decide) (fun _ _ _ _ _ => sif_one (st_cmp (op_eqD (hu64 hr)) vo_eq (so_E (se_ix ix_seq vo_ix (so_E (se_ix ix_seq vo_ix (so_E (se_ix ix_seq vo_ix (so_N 0 (pv 0)) (so_E se_int) (by intro _ _; rfl))) (so_N 1 (pv 1)) (by intro _ _; rfl))) (so_E se_int) (by intro _ _; rfl))) (so_N 2 (pv 2)) (nomark _))) (fun _ _ _ _ _ => (se_FzN 1 (pv 1))))) sa_nil)) sc_L_ends.nd rfl (Or.inl rfl) (by decide) (by rfl) (.inl rfl))
  (sss_cons (ss_set 4 (se_bty call_tuple_of vo_tuple (by rfl) T.b_tuple bt_tuple (sa_cons (so_E (se_comp rfl sc_L_ends.nd (si_rng1 (so_E (se_blt call_len vo_len (by rfl) T.b_len bt_len (sa_cons (so_E (se_ix ix_seq vo_ix (so_N 0 (pv 0)) (so_E se_int) (by intro _ _; rfl))) sa_nil))) (by rfl) T.b_range (by rfl) (by rfl)) vi_rng1 (own := [("j", 1)]) (blkOk_by (N := ["graph", "j", "k", "ins", "outs", "told"]) (sc := defScope s_L_ends) (by decide +kernel)) (tgb_name 1 (fun _ _ _ _ _ => (pg_name (i := 1) sc_L_ends.nd rfl (Or.inl rfl)))) (by decide) (fun _ _ _ _ _ => sif_one (st_cmp (op_eqD (hu64 hr)) vo_eq (so_E (se_ix ix_seq vo_ix (so_E (se_ix ix_seq vo_ix (so_E (se_ix ix_seq vo_ix (so_N 0 (pv 0)) (so_E se_int) (by intro _ _; rfl))) (so_N 1 (pv 1)) (by intro _ _; rfl))) (so_E se_int) (by intro _ _; rfl))) (so_N 2 (pv 2)) (nomark _))) (fun _ _ _ _ _ => (se_FzN 1 (pv 1))))) sa_nil)) sc_L_ends.nd rfl (Or.inl rfl) (by decide) (by rfl) (.inl rfl))
  (sss_cons (ss_set 5 (se_call bx_tk (fb_incoming T) (hr.mono (by omega)) (by rfl) (sa_cons (so_N 0 (pv 0)) (sa_cons (so_N 2 (pv 2)) sa_nil))) sc_L_ends.nd rfl (Or.inl rfl) (by decide) (by rfl) (.inl rfl))
  (sss_cons (ss_if (st_bool (sw_or (st_not (st_val (se_call bx_tk (fb_L_is_ints T) (hr.mono (by omega)) (by rfl) (sa_cons (so_N 5 (pv 5)) sa_nil)))) (sw_or1 (st_cmp (op_neD (hu64 hr)) vo_ne (so_N 5 (pv 5)) (so_N 3 (pv 3)) (nomark _))))) (sss_one (ss_ret se_bl)) sss_nil)
  (sss_cons (ss_set 5 (se_call bx_tk (fb_outgoing T) (hr.mono (by omega)) (by rfl) (sa_cons (so_N 0 (pv 0)) (sa_cons (so_N 2 (pv 2)) sa_nil))) sc_L_ends.nd rfl (Or.inl rfl) (by decide) (by rfl) (.inl rfl))
  (sss_cons (ss_if (st_bool (sw_or (st_not (st_val (se_call bx_tk (fb_L_is_ints T) (hr.mono (by omega)) (by rfl) (sa_cons (so_N 5 (pv 5)) sa_nil)))) (sw_or1 (st_cmp (op_neD (hu64 hr)) vo_ne (so_N 5 (pv 5)) (so_N 4 (pv 4)) (nomark _))))) (sss_one (ss_ret se_bl)) sss_nil)
  (sss_cons (ss_set 5 (se_call bx_tk (fb_phases T) (hr.mono (by omega)) (by rfl) (sa_cons (so_N 0 (pv 0)) (sa_cons (so_N 2 (pv 2)) sa_nil))) sc_L_ends.nd rfl (Or.inl rfl) (by decide) (by rfl) (.inl rfl))
  (sss_one (ss_if (st_bool (sw_or (st_not (st_val (se_call bx_tk (fb_L_is_int T) (hr.mono (by omega)) (by rfl) (sa_cons (so_N 5 (pv 5)) sa_nil)))) (sw_or1 (st_cmp (op_neD (hu64 hr)) vo_ne (so_N 5 (pv 5)) (so_E (se_blt call_len vo_len (by rfl) T.b_len bt_len (sa_cons (so_E (se_ix ix_seq vo_ix (so_E (se_ix ix_seq vo_ix (so_E (se_ix ix_seq vo_ix (so_N 0 (pv 0)) (so_E se_int) (by intro _ _; rfl))) (so_N 2 (pv 2)) (by intro _ _; rfl))) (so_E se_int) (by intro _ _; rfl))) sa_nil))) (nomark _))))) (sss_one (ss_ret se_bl)) sss_nil))))))))))
  (sss_one (ss_ret se_bl)))
/-! ### _law_pick -/
abbrev s_L_pick : Stmt := tS 43
theorem sc_L_pick : FnScope ["d", "row"] ["d", "row"] (defScope s_L_pick) := ⟨rfl, rfl, rfl, by decide +kernel, rfl, by decide +kernel, by decide +kernel⟩
noncomputable def m_L_pick : MS := mRet (mOp pIx (oCons (oN 1) (oCons (oE (mCallN 2 C_L_draw (oCons (oN 0) (oCons (oE (mOp pLen (oCons (oN 1) (oNil)))) (oNil))))) oNil)))
noncomputable def C_L_pick : List PV → CR := runB 2 2 [0, 1] m_L_pick
theorem fb_L_pick (T : Tx P w K mg base aBadThing aRateError) : FB P w K mg base 2 "_law_pick" 2 C_L_pick := by
  obtain ⟨f, fd, F, g, b⟩ := T.f_L_pick
  exact fb_of (N := ["d", "row"]) (ps := ["d", "row"]) (pn := [0, 1]) (m := m_L_pick) (k := 1) F sc_L_pick g b fun cdv A outer s H E hr => (sss_one (ss_ret (se_ix ix_seq vo_ix (so_N 1 (pv 1)) (so_E (se_call bx_tk (fb_L_draw T) (hr.mono (by omega)) (by rfl) (sa_cons (so_N 0 (pv 0)) (sa_cons (so_E (se_blt call_len vo_len (by rfl) T.b_len bt_len (sa_cons (so_N 1 (pv 1)) sa_nil))) sa_nil)))) (by intro _ _; rfl))))
/-! ### _law_name_spoilt -/
abbrev s_L_name_spoilt : Stmt := tS 69
theorem sc_L_name_spoilt : FnScope ["d", "names", "odd"] ["d", "names"] (defScope s_L_name_spoilt) := ⟨rfl, rfl, rfl, by decide +kernel, rfl, by decide +kernel, by decide +kernel⟩
noncomputable def m_L_name_spoilt : MS := mSeq (mAsg (mLst (vCons (mFz (mOp pMul2 (oCons (oE (mC (.str "a"))) (oCons (oE (mC (.int 16))) oNil)))) (vCons (mFz (mOp pMul2 (oCons (oE (mC (.str "a"))) (oCons (oE (mC (.int 17))) oNil)))) (vCons (mC (.str "")) (vCons (mC (.str "1a")) (vCons (mC (.str "_a")) (vCons (mC (.str ".a")) (vCons (mC (.str "A")) (vCons (mC (.str "a b")) (vCons (mC (.str "a-b")) (vCons (mC (.str "aB")) (vCons (mC (.str "a.b_1")) (vCons (mC (.int 7)) (vCons (mC .non) (vCons (mTup (vCons (mC (.str "a")) (vNil))) (vNil)))))))))))))))) (t1 2))
  (mRet (mCallN 2 C_L_pick (oCons (oN 0) (oCons (oE (mOp pAdd (oCons (oE (mOp pAdd (oCons (oN 2) (oCons (oN 1) oNil)))) (oCons (oN 1) oNil)))) (oNil)))))
noncomputable def C_L_name_spoilt : List PV → CR := runB 3 2 [0, 1] m_L_name_spoilt
theorem fb_L_name_spoilt (T : Tx P w K mg base aBadThing aRateError) : FB P w K mg base 3 "_law_name_spoilt" 2 C_L_name_spoilt := by
  obtain ⟨f, fd, F, g, b⟩ := T.f_L_name_spoilt
  exact fb_of (N := ["d", "names", "odd"]) (ps := ["d", "names"]) (pn := [0, 1]) (m := m_L_name_spoilt) (k := 2) F sc_L_name_spoilt g b fun cdv A outer s H E hr => (sss_cons (ss_set 2 (se_lst (sv_cons (se_fz (se_op2 op_mul2 vo_mul2 (so_E se_str) (so_E se_int))) (sv_cons (se_fz (se_op2 op_mul2 vo_mul2 (so_E se_str) (so_E se_int))) (sv_cons se_str (sv_cons se_str (sv_cons se_str (sv_cons se_str (sv_cons se_str (sv_cons se_str (sv_cons se_str (sv_cons se_str (sv_cons se_str (sv_cons se_int (sv_cons se_non (sv_cons (se_tup (sv_cons se_str sv_nil)) sv_nil))))))))))))))) sc_L_name_spoilt.nd rfl (Or.inl rfl) (by decide) (by rfl) (.inl rfl))
  (sss_one (ss_ret (se_call bx_tk (fb_L_pick T) (hr.mono (by omega)) (by rfl) (sa_cons (so_N 0 (pv 0)) (sa_cons (so_E (se_op2 op_addAll vo_add (so_E (se_op2 op_addAll vo_add (so_N 2 (pv 2)) (so_N 1 (pv 1)))) (so_N 1 (pv 1)))) sa_nil))))))
/-! ### _law_row_spoilt -/
abbrev s_L_row_spoilt : Stmt := tS 68
theorem sc_L_row_spoilt : FnScope ["d", "row", "high", "part", "found", "kind", "at"] ["d", "row", "high"] (defScope s_L_row_spoilt) := ⟨rfl, rfl, rfl, by decide +kernel, rfl, by decide +kernel, by decide +kernel⟩
noncomputable def m_L_row_spoilt : MS := mSeq (mAsg (mOp pList (oCons (oN 1) (oNil))) (t1 4))
  (mSeq (mAsg (mCallN 2 C_L_draw (oCons (oN 0) (oCons (oE (mC (.int 6))) (oNil)))) (t1 5))
  (mSeq (mIf (mT (mOp (pEq false) (oCons (oN 5) (oCons (oE (mC (.int 0))) oNil)))) (mRet (mN 4)) (mNx))
  (mSeq (mIf (mOr (mT (mOp (pEq false) (oCons (oN 5) (oCons (oE (mC (.int 1))) oNil)))) (mT (mOp (pEq false) (oCons (oE (mOp pLen (oCons (oN 4) (oNil)))) (oCons (oE (mC (.int 0))) oNil))))) (mRet (mOp pTuple (oCons (oE (mOp pAdd (oCons (oN 4) (oCons (oE (mLst (vCons (mC (.int 0)) (vNil)))) oNil)))) (oNil)))) (mNx))
  (mSeq (mIf (mT (mOp (pEq false) (oCons (oN 5) (oCons (oE (mC (.int 2))) oNil)))) (mRet (mOp pTuple (oCons (oE (mOp pSlLo (oCons (oN 4) (oCons (oE (mC (.int 1))) oNil)))) (oNil)))) (mNx))
  (mSeq (mIf (mT (mOp (pEq false) (oCons (oN 5) (oCons (oE (mC (.int 3))) oNil)))) (mRet (mOp pTuple (oCons (oE (mComp (oCons (oN 4) oNil) itSeq (t1 3) (mYes) (mC (.int 0)) [3])) (oNil)))) (mNx))
  (mSeq (mAsg (mCallN 2 C_L_draw (oCons (oN 0) (oCons (oE (mOp pLen (oCons (oN 4) (oNil)))) (oNil)))) (t1 6))
  (mSeq (mSetI 4 (mN 6) (mFz (mCallN 2 C_L_pick (oCons (oN 0) (oCons (oE (mLst (vCons (mFzN 2) (vCons (mFz (mOp pAdd (oCons (oN 2) (oCons (oE (mC (.int 1))) oNil)))) (vCons (mOp pNeg (oCons (oE (mC (.int 1))) oNil)) (vCons (mC (.bl true)) (vCons (mC .non) (vCons (mC (.str "1")) (vNil))))))))) (oNil))))))
  (mRet (mOp pTuple (oCons (oN 4) (oNil)))))))))))
noncomputable def C_L_row_spoilt : List PV → CR := runB 7 3 [0, 1, 2] m_L_row_spoilt
theorem fb_L_row_spoilt (T : Tx P w K mg base aBadThing aRateError) : FB P w K mg base 3 "_law_row_spoilt" 3 C_L_row_spoilt := by
  obtain ⟨f, fd, F, g, b⟩ := T.f_L_row_spoilt
  exact fb_of (N := ["d", "row", "high", "part", "found", "kind", "at"]) (ps := ["d", "row", "high"]) (pn := [0, 1, 2]) (m := m_L_row_spoilt) (k := 2) F sc_L_row_spoilt g b fun cdv A outer s H E hr => (sss_cons (ss_set 4 (se_bty call_list_of vo_list (by rfl) T.b_list bt_list (sa_cons (so_N 1 (pv 1)) sa_nil)) sc_L_row_spoilt.nd rfl (Or.inl rfl) (by decide) (by rfl) (.inl rfl))
  (sss_cons (ss_set 5 (se_call bx_tk (fb_L_draw T) (hr.mono (by omega)) (by rfl) (sa_cons (so_N 0 (pv 0)) (sa_cons (so_E se_int) sa_nil))) sc_L_row_spoilt.nd rfl (Or.inl rfl) (by decide) (by rfl) (.inl rfl))
  (sss_cons (ss_if (st_cmp (op_eqD (hu64 hr)) vo_eq (so_N 5 (pv 5)) (so_E se_int) (nomark _)) (sss_one (ss_ret (se_N 4 (pv 4)))) sss_nil)
  (sss_cons (ss_if (st_bool (sw_or (st_cmp (op_eqD (hu64 hr)) vo_eq (so_N 5 (pv 5)) (so_E se_int) (nomark _)) (sw_or1 (st_cmp (op_eqD (hu64 hr)) vo_eq (so_E (se_blt call_len vo_len (by rfl) T.b_len bt_len (sa_cons (so_N 4 (pv 4)) sa_nil))) (so_E se_int) (nomark _))))) (sss_one (ss_ret (se_bty call_tuple_of vo_tuple (by rfl) T.b_tuple bt_tuple (sa_cons (so_E (se_op2 op_addAll vo_add (so_N 4 (pv 4)) (so_E (se_lst (sv_cons se_int sv_nil))))) sa_nil)))) sss_nil)
  (sss_cons (ss_if (st_cmp (op_eqD (hu64 hr)) vo_eq (so_N 5 (pv 5)) (so_E se_int) (nomark _)) (sss_one (ss_ret (se_bty call_tuple_of vo_tuple (by rfl) T.b_tuple bt_tuple (sa_cons (so_E (se_slLo (so_N 4 (pv 4)) (so_E se_int))) sa_nil)))) sss_nil)
  (sss_cons (ss_if (st_cmp (op_eqD (hu64 hr)) vo_eq (so_N 5 (pv 5)) (so_E se_int) (nomark _)) (sss_one (ss_ret (se_bty call_tuple_of vo_tuple (by rfl) T.b_tuple bt_tuple (sa_cons (so_E (se_comp rfl sc_L_row_spoilt.nd (si_seq (so_N 4 (pv 4))) vi_seq (own := [("part", 3)]) (blkOk_by (N := ["d", "row", "high", "part", "found", "kind", "at"]) (sc := defScope s_L_row_spoilt) (by decide +kernel)) (tgb_name 3 (fun _ _ _ _ _ => (pg_name (i := 3) sc_L_row_spoilt.nd rfl (Or.inl rfl)))) (by decide) (fun _ _ _ _ _ => sif_nil) (fun _ _ _ _ _ => se_int))) sa_nil)))) sss_nil)
  (sss_cons (ss_set 6 (se_call bx_tk (fb_L_draw T) (hr.mono (by omega)) (by rfl) (sa_cons (so_N 0 (pv 0)) (sa_cons (so_E (se_blt call_len vo_len (by rfl) T.b_len bt_len (sa_cons (so_N 4 (pv 4)) sa_nil))) sa_nil))) sc_L_row_spoilt.nd rfl (Or.inl rfl) (by decide) (by rfl) (.inl rfl))
  (sss_cons (ss_setI 4 (se_fz (se_call bx_tk (fb_L_pick T) (hr.mono (by omega)) (by rfl) (sa_cons (so_N 0 (pv 0)) (sa_cons (so_E (se_lst (sv_cons (se_FzN 2 (pv 2)) (sv_cons (se_fz (se_op2 op_addAll vo_add (so_N 2 (pv 2)) (so_E se_int))) (sv_cons (se_neg (so_E se_int)) (sv_cons se_bl (sv_cons se_non (sv_cons se_str sv_nil)))))))) sa_nil)))) (pv 4) (se_N 6 (pv 6)))
  (sss_one (ss_ret (se_bty call_tuple_of vo_tuple (by rfl) T.b_tuple bt_tuple (sa_cons (so_N 4 (pv 4)) sa_nil))))))))))))
/-! ### _law_block_spoilt -/
abbrev s_L_block_spoilt : Stmt := tS 70
theorem sc_L_block_spoilt : FnScope ["d", "block", "names", "found", "kind"] ["d", "block", "names"] (defScope s_L_block_spoilt) := ⟨rfl, rfl, rfl, by decide +kernel, rfl, by decide +kernel, by decide +kernel⟩
noncomputable def m_L_block_spoilt : MS := mSeq (mAsg (mOp pList (oCons (oN 1) (oNil))) (t1 3))
  (mSeq (mAsg (mCallN 2 C_L_draw (oCons (oN 0) (oCons (oE (mC (.int 4))) (oNil)))) (t1 4))
  (mSeq (mIf (mT (mOp (pEq false) (oCons (oN 4) (oCons (oE (mC (.int 0))) oNil)))) (mSetI 3 (mC (.int 0)) (mFz (mCallN 2 C_L_name_spoilt (oCons (oN 0) (oCons (oN 2) (oNil)))))) (mNx))
  (mSeq (mIf (mT (mOp (pEq false) (oCons (oN 4) (oCons (oE (mC (.int 1))) oNil)))) (mSetI 3 (mC (.int 1)) (mFz (mCallN 3 C_L_row_spoilt (oCons (oN 0) (oCons (oE (mOp pIx (oCons (oN 1) (oCons (oE (mC (.int 1))) oNil)))) (oCons (oE (mC (.int 60))) (oNil))))))) (mNx))
  (mSeq (mIf (mT (mOp (pEq false) (oCons (oN 4) (oCons (oE (mC (.int 2))) oNil)))) (mSetI 3 (mC (.int 2)) (mFz (mCallN 3 C_L_row_spoilt (oCons (oN 0) (oCons (oE (mOp pIx (oCons (oN 1) (oCons (oE (mC (.int 2))) oNil)))) (oCons (oE (mC (.int 9972))) (oNil))))))) (mNx))
  (mSeq (mIf (mT (mOp (pEq false) (oCons (oN 4) (oCons (oE (mC (.int 3))) oNil)))) (mRet (mCallN 2 C_L_pick (oCons (oN 0) (oCons (oE (mLst (vCons (mFzN 3) (vCons (mOp pTuple (oCons (oE (mOp pSlHi (oCons (oN 3) (oCons (oE (mC (.int 2))) oNil)))) (oNil))) (vCons (mOp pTuple (oCons (oE (mOp pAdd (oCons (oN 3) (oCons (oE (mLst (vCons (mC (.int 0)) (vNil)))) oNil)))) (oNil))) (vCons (mC .non) (vNil))))))) (oNil))))) (mNx))
  (mRet (mOp pTuple (oCons (oN 3) (oNil)))))))))
noncomputable def C_L_block_spoilt : List PV → CR := runB 5 3 [0, 1, 2] m_L_block_spoilt
theorem fb_L_block_spoilt (T : Tx P w K mg base aBadThing aRateError) : FB P w K mg base 4 "_law_block_spoilt" 3 C_L_block_spoilt := by
  obtain ⟨f, fd, F, g, b⟩ := T.f_L_block_spoilt
  exact fb_of (N := ["d", "block", "names", "found", "kind"]) (ps := ["d", "block", "names"]) (pn := [0, 1, 2]) (m := m_L_block_spoilt) (k := 3) F sc_L_block_spoilt g b fun cdv A outer s H E hr => (sss_cons (ss_set 3 (se_bty call_list_of vo_list (by rfl) T.b_list bt_list (sa_cons (so_N 1 (pv 1)) sa_nil)) sc_L_block_spoilt.nd rfl (Or.inl rfl) (by decide) (by rfl) (.inl rfl))
  (sss_cons (ss_set 4 (se_call bx_tk (fb_L_draw T) (hr.mono (by omega)) (by rfl) (sa_cons (so_N 0 (pv 0)) (sa_cons (so_E se_int) sa_nil))) sc_L_block_spoilt.nd rfl (Or.inl rfl) (by decide) (by rfl) (.inl rfl))
  (sss_cons (ss_if (st_cmp (op_eqD (hu64 hr)) vo_eq (so_N 4 (pv 4)) (so_E se_int) (nomark _)) (sss_one (ss_setI 3 (se_fz (se_call bx_tk (fb_L_name_spoilt T) (hr.mono (by omega)) (by rfl) (sa_cons (so_N 0 (pv 0)) (sa_cons (so_N 2 (pv 2)) sa_nil)))) (pv 3) se_int)) sss_nil)
  (sss_cons (ss_if (st_cmp (op_eqD (hu64 hr)) vo_eq (so_N 4 (pv 4)) (so_E se_int) (nomark _)) (sss_one (ss_setI 3 (se_fz (se_call bx_tk (fb_L_row_spoilt T) (hr.mono (by omega)) (by rfl) (sa_cons (so_N 0 (pv 0)) (sa_cons (so_E (se_ix ix_seq vo_ix (so_N 1 (pv 1)) (so_E se_int) (by intro _ _; rfl))) (sa_cons (so_E se_int) sa_nil))))) (pv 3) se_int)) sss_nil)
  (sss_cons (ss_if (st_cmp (op_eqD (hu64 hr)) vo_eq (so_N 4 (pv 4)) (so_E se_int) (nomark _)) (sss_one (ss_setI 3 (se_fz (se_call bx_tk (fb_L_row_spoilt T) (hr.mono (by omega)) (by rfl) (sa_cons (so_N 0 (pv 0)) (sa_cons (so_E (se_ix ix_seq vo_ix (so_N 1 (pv 1)) (so_E se_int) (by intro _ _; rfl))) (sa_cons (so_E se_int) sa_nil))))) (pv 3) se_int)) sss_nil)
  (sss_cons (ss_if (st_cmp (op_eqD (hu64 hr)) vo_eq (so_N 4 (pv 4)) (so_E se_int) (nomark _)) (sss_one (ss_ret (se_call bx_tk (fb_L_pick T) (hr.mono (by omega)) (by rfl) (sa_cons (so_N 0 (pv 0)) (sa_cons (so_E (se_lst (sv_cons (se_FzN 3 (pv 3)) (sv_cons (se_bty call_tuple_of vo_tuple (by rfl) T.b_tuple bt_tuple (sa_cons (so_E (se_slHi (so_N 3 (pv 3)) (so_E se_int))) sa_nil)) (sv_cons (se_bty call_tuple_of vo_tuple (by rfl) T.b_tuple bt_tuple (sa_cons (so_E (se_op2 op_addAll vo_add (so_N 3 (pv 3)) (so_E (se_lst (sv_cons se_int sv_nil))))) sa_nil)) (sv_cons se_non sv_nil)))))) sa_nil))))) sss_nil)
  (sss_one (ss_ret (se_bty call_tuple_of vo_tuple (by rfl) T.b_tuple bt_tuple (sa_cons (so_N 3 (pv 3)) sa_nil))))))))))
/-! ### _law_queue_spoilt -/
abbrev s_L_queue_spoilt : Stmt := tS 71
theorem sc_L_queue_spoilt : FnScope ["d", "queue", "many", "k", "found", "kind"] ["d", "queue", "many"] (defScope s_L_queue_spoilt) := ⟨rfl, rfl, rfl, by decide +kernel, rfl, by decide +kernel, by decide +kernel⟩
noncomputable def m_L_queue_spoilt : MS := mSeq (mAsg (mOp pList (oCons (oN 1) (oNil))) (t1 4))
  (mSeq (mAsg (mCallN 2 C_L_draw (oCons (oN 0) (oCons (oE (mC (.int 7))) (oNil)))) (t1 5))
  (mSeq (mIf (mOr (mT (mOp (pEq false) (oCons (oN 5) (oCons (oE (mC (.int 0))) oNil)))) (mT (mOp (pEq false) (oCons (oN 5) (oCons (oE (mC (.int 2))) oNil))))) (mSetI 4 (mN 5) (mFz (mCallN 2 C_L_pick (oCons (oN 0) (oCons (oE (mLst (vCons (mOp pNeg (oCons (oE (mC (.int 1))) oNil)) (vCons (mFzN 2) (vCons (mFz (mOp pSub (oCons (oN 2) (oCons (oE (mC (.int 1))) oNil)))) (vCons (mC (.bl true)) (vCons (mC .non) (vNil)))))))) (oNil)))))) (mIf (mOr (mT (mOp (pEq false) (oCons (oN 5) (oCons (oE (mC (.int 1))) oNil)))) (mT (mOp (pEq false) (oCons (oN 5) (oCons (oE (mC (.int 3))) oNil))))) (mSetI 4 (mN 5) (mFz (mCallN 3 C_L_row_spoilt (oCons (oN 0) (oCons (oE (mOp pIx (oCons (oN 1) (oCons (oN 5) oNil)))) (oCons (oE (mC (.int 12))) (oNil))))))) (mIf (mT (mOp (pEq false) (oCons (oN 5) (oCons (oE (mC (.int 4))) oNil)))) (mSetI 4 (mC (.int 4)) (mFz (mCallN 3 C_L_row_spoilt (oCons (oN 0) (oCons (oE (mOp pIx (oCons (oN 1) (oCons (oE (mC (.int 4))) oNil)))) (oCons (oE (mC (.int 9972))) (oNil))))))) (mIf (mT (mOp (pEq false) (oCons (oN 5) (oCons (oE (mC (.int 5))) oNil)))) (mSetI 4 (mC (.int 4)) (mOp pTuple (oCons (oE (mComp (oCons (oE (mOp pAdd (oCons (oE (mC (.int 60))) (oCons (oE (mCallN 2 C_L_draw (oCons (oN 0) (oCons (oE (mC (.int 2))) (oNil))))) oNil)))) oNil) itRng1 (t1 3) (mYes) (mFz (mCallN 2 C_L_draw (oCons (oN 0) (oCons (oE (mC (.int 9973))) (oNil))))) [3])) (oNil)))) (mRet (mCallN 2 C_L_pick (oCons (oN 0) (oCons (oE (mLst (vCons (mFzN 4) (vCons (mOp pTuple (oCons (oE (mOp pSlHi (oCons (oN 4) (oCons (oE (mC (.int 4))) oNil)))) (oNil))) (vCons (mOp pTuple (oCons (oE (mOp pAdd (oCons (oN 4) (oCons (oE (mLst (vCons (mTup (vNil)) (vNil)))) oNil)))) (oNil))) (vCons (mC .non) (vNil))))))) (oNil)))))))))
  (mRet (mOp pTuple (oCons (oN 4) (oNil))))))
noncomputable def C_L_queue_spoilt : List PV → CR := runB 6 3 [0, 1, 2] m_L_queue_spoilt
theorem fb_L_queue_spoilt (T : Tx P w K mg base aBadThing aRateError) : FB P w K mg base 4 "_law_queue_spoilt" 3 C_L_queue_spoilt := by
  obtain ⟨f, fd, F, g, b⟩ := T.f_L_queue_spoilt
  exact fb_of (N := ["d", "queue", "many", "k", "found", "kind"]) (ps := ["d", "queue", "many"]) (pn := [0, 1, 2]) (m := m_L_queue_spoilt) (k := 3) F sc_L_queue_spoilt g b fun cdv A outer s H E hr => (sss_cons (ss_set 4 (se_bty call_list_of vo_list (by rfl) T.b_list bt_list (sa_cons (so_N 1 (pv 1)) sa_nil)) sc_L_queue_spoilt.nd rfl (Or.inl rfl) (by decide) (by rfl) (.inl rfl))
  (sss_cons (ss_set 5 (se_call bx_tk (fb_L_draw T) (hr.mono (by omega)) (by rfl) (sa_cons (so_N 0 (pv 0)) (sa_cons (so_E se_int) sa_nil))) sc_L_queue_spoilt.nd rfl (Or.inl rfl) (by decide) (by rfl) (.inl rfl))
  (sss_cons (ss_if (st_bool (sw_or (st_cmp (op_eqD (hu64 hr)) vo_eq (so_N 5 (pv 5)) (so_E se_int) (nomark _)) (sw_or1 (st_cmp (op_eqD (hu64 hr)) vo_eq (so_N 5 (pv 5)) (so_E se_int) (nomark _))))) (sss_one (ss_setI 4 (se_fz (se_call bx_tk (fb_L_pick T) (hr.mono (by omega)) (by rfl) (sa_cons (so_N 0 (pv 0)) (sa_cons (so_E (se_lst (sv_cons (se_neg (so_E se_int)) (sv_cons (se_FzN 2 (pv 2)) (sv_cons (se_fz (se_op2 op_sub vo_sub (so_N 2 (pv 2)) (so_E se_int))) (sv_cons se_bl (sv_cons se_non sv_nil))))))) sa_nil)))) (pv 4) (se_N 5 (pv 5)))) (sss_one (ss_if (st_bool (sw_or (st_cmp (op_eqD (hu64 hr)) vo_eq (so_N 5 (pv 5)) (so_E se_int) (nomark _)) (sw_or1 (st_cmp (op_eqD (hu64 hr)) vo_eq (so_N 5 (pv 5)) (so_E se_int) (nomark _))))) (sss_one (ss_setI 4 (se_fz (se_call bx_tk (fb_L_row_spoilt T) (hr.mono (by omega)) (by rfl) (sa_cons (so_N 0 (pv 0)) (sa_cons (so_E (se_ix ix_seq vo_ix (so_N 1 (pv 1)) (so_N 5 (pv 5)) (by intro _ _; rfl))) (sa_cons (so_E se_int) sa_nil))))) (pv 4) (se_N 5 (pv 5)))) (sss_one (ss_if (st_cmp (op_eqD (hu64 hr)) vo_eq (so_N 5 (pv 5)) (so_E se_int) (nomark _)) (sss_one (ss_setI 4 (se_fz (se_call bx_tk (fb_L_row_spoilt T) (hr.mono (by omega)) (by rfl) (sa_cons (so_N 0 (pv 0)) (sa_cons (so_E (se_ix ix_seq vo_ix (so_N 1 (pv 1)) (so_E se_int) (by intro _ _; rfl))) (sa_cons (so_E se_int) sa_nil))))) (pv 4) se_int)) (sss_one (ss_if (st_cmp (op_eqD (hu64 hr)) vo_eq (so_N 5 (pv 5)) (so_E se_int) (nomark _)) (sss_one (ss_setI 4 (se_bty call_tuple_of vo_tuple (by rfl) T.b_tuple bt_tuple (sa_cons (so_E (se_comp rfl sc_L_queue_spoilt.nd (si_rng1 (so_E (se_op2 op_addAll vo_add (so_E se_int) (so_E (se_call bx_tk (fb_L_draw T) (hr.mono (by omega)) (by rfl) (sa_cons (so_N 0 (pv 0)) (sa_cons (so_E se_int) sa_nil)))))) (by rfl) T.b_range (by rfl) (by rfl)) vi_rng1 (own := [("k", 3)]) (blkOk_by (N := ["d", "queue", "many", "k", "found", "kind"]) (sc := defScope s_L_queue_spoilt) (by decide +kernel)) (tgb_name 3 (fun _ _ _ _ _ => (pg_name (i := 3) sc_L_queue_spoilt.nd rfl (Or.inl rfl)))) (by decide) (fun _ _ _ _ _ => sif_nil) (fun _ _ _ _ _ => (se_fz (se_call takes0 (fb_L_draw T) (hr.mono (by omega)) (by rfl) (sa_cons (so_N 0 (pv 0)) (sa_cons (so_E se_int) sa_nil))))))) sa_nil)) (pv 4) se_int)) (sss_one (ss_ret (se_call bx_tk (fb_L_pick T) (hr.mono (by omega)) (by rfl) (sa_cons (so_N 0 (pv 0)) (sa_cons (so_E (se_lst (sv_cons (se_FzN 4 (pv 4)) (sv_cons (se_bty call_tuple_of vo_tuple (by rfl) T.b_tuple bt_tuple (sa_cons (so_E (se_slHi (so_N 4 (pv 4)) (so_E se_int))) sa_nil)) (sv_cons (se_bty call_tuple_of vo_tuple (by rfl) T.b_tuple bt_tuple (sa_cons (so_E (se_op2 op_addAll vo_add (so_N 4 (pv 4)) (so_E (se_lst (sv_cons (se_tup sv_nil) sv_nil))))) sa_nil)) (sv_cons se_non sv_nil)))))) sa_nil))))))))))))
  (sss_one (ss_ret (se_bty call_tuple_of vo_tuple (by rfl) T.b_tuple bt_tuple (sa_cons (so_N 4 (pv 4)) sa_nil)))))))
/-! ### _law_rare -/
abbrev s_L_rare : Stmt := tS 45
theorem sc_L_rare : FnScope ["d", "many"] ["d", "many"] (defScope s_L_rare) := ⟨rfl, rfl, rfl, by decide +kernel, rfl, by decide +kernel, by decide +kernel⟩
noncomputable def m_L_rare : MS := mRet (mOp (pEq false) (oCons (oE (mCallN 2 C_L_draw (oCons (oN 0) (oCons (oN 1) (oNil))))) (oCons (oE (mOp pFdiv (oCons (oN 1) (oCons (oE (mC (.int 2))) oNil)))) oNil)))
noncomputable def C_L_rare : List PV → CR := runB 2 2 [0, 1] m_L_rare
theorem fb_L_rare (T : Tx P w K mg base aBadThing aRateError) : FB P w K mg base 2 "_law_rare" 2 C_L_rare := by
  obtain ⟨f, fd, F, g, b⟩ := T.f_L_rare
  exact fb_of (N := ["d", "many"]) (ps := ["d", "many"]) (pn := [0, 1]) (m := m_L_rare) (k := 1) F sc_L_rare g b fun cdv A outer s H E hr => (sss_one (ss_ret (se_cmp (op_eqD (hu64 hr)) vo_eq (so_E (se_call bx_tk (fb_L_draw T) (hr.mono (by omega)) (by rfl) (sa_cons (so_N 0 (pv 0)) (sa_cons (so_N 1 (pv 1)) sa_nil)))) (so_E (se_op2 op_fdiv vo_fdiv (so_N 1 (pv 1)) (so_E se_int))) (nomark _))))
/-! ### _law_graph_spoilt -/
abbrev s_L_graph_spoilt : Stmt := tS 72
theorem sc_L_graph_spoilt : FnScope ["d", "graph", "block", "k", "blocks", "queues", "kind", "at", "odd", "more"] ["d", "graph"] (defScope s_L_graph_spoilt) := ⟨rfl, rfl, rfl, by decide +kernel, rfl, by decide +kernel, by decide +kernel⟩
noncomputable def m_L_graph_spoilt : MS := mSeq (mPar 4 5 (vCons (mOp pList (oCons (oE (mOp pIx (oCons (oN 1) (oCons (oE (mC (.int 0))) oNil)))) (oNil))) (vCons (mOp pList (oCons (oE (mOp pIx (oCons (oN 1) (oCons (oE (mC (.int 1))) oNil)))) (oNil))) (vNil))))
  (mSeq (mAsg (mCallN 2 C_L_draw (oCons (oN 0) (oCons (oE (mC (.int 6))) (oNil)))) (t1 6))
  (mSeq (mIf (mT (mOp (pCmp pLt) (oCons (oN 6) (oCons (oE (mC (.int 2))) oNil)))) (mSeq (mAsg (mCallN 2 C_L_draw (oCons (oN 0) (oCons (oE (mOp pLen (oCons (oN 4) (oNil)))) (oNil)))) (t1 7))
  (mSetI 4 (mN 7) (mFz (mCallN 3 C_L_block_spoilt (oCons (oN 0) (oCons (oE (mOp pIx (oCons (oN 4) (oCons (oN 7) oNil)))) (oCons (oE (mComp (oCons (oN 4) oNil) itSeq (t1 2) (mYes) (mFz (mOp pIx (oCons (oN 2) (oCons (oE (mC (.int 0))) oNil)))) [2])) (oNil)))))))) (mIf (mT (mOp (pCmp pLt) (oCons (oN 6) (oCons (oE (mC (.int 4))) oNil)))) (mSeq (mAsg (mCallN 2 C_L_draw (oCons (oN 0) (oCons (oE (mOp pLen (oCons (oN 5) (oNil)))) (oNil)))) (t1 7))
  (mSetI 5 (mN 7) (mFz (mCallN 3 C_L_queue_spoilt (oCons (oN 0) (oCons (oE (mOp pIx (oCons (oN 5) (oCons (oN 7) oNil)))) (oCons (oE (mOp pLen (oCons (oN 4) (oNil)))) (oNil)))))))) (mIf (mT (mOp (pEq false) (oCons (oN 6) (oCons (oE (mC (.int 4))) oNil)))) (mSeq (mAsg (mLst (vCons (mFz (mOp pList (oCons (oN 1) (oNil)))) (vCons (mTup (vCons (mFz (mOp pIx (oCons (oN 1) (oCons (oE (mC (.int 0))) oNil)))) (vNil))) (vCons (mFz (mOp pAdd (oCons (oN 1) (oCons (oE (mTup (vCons (mTup (vNil)) (vNil)))) oNil)))) (vCons (mTup (vCons (mFz (mOp pIx (oCons (oN 1) (oCons (oE (mC (.int 0))) oNil)))) (vCons (mFzN 5) (vNil)))) (vCons (mTup (vCons (mFzN 4) (vCons (mFz (mOp pIx (oCons (oN 1) (oCons (oE (mC (.int 1))) oNil)))) (vNil)))) (vNil))))))) (t1 8))
  (mRet (mCallN 2 C_L_pick (oCons (oN 0) (oCons (oE (mOp pAdd (oCons (oN 8) (oCons (oE (mLst (vCons (mTup (vCons (mTup (vNil)) (vCons (mTup (vNil)) (vNil)))) (vCons (mTup (vCons (mTup (vNil)) (vCons (mFz (mOp pIx (oCons (oN 1) (oCons (oE (mC (.int 1))) oNil)))) (vNil)))) (vCons (mC .non) (vCons (mC (.int 5)) (vCons (mTup (vCons (mC .non) (vCons (mC .non) (vNil)))) (vNil)))))))) oNil)))) (oNil)))))) (mIf (mT (mCallN 2 C_L_rare (oCons (oN 0) (oCons (oE (mC (.int 4))) (oNil))))) (mAsg (mOp pSlHi (oCons (oE (mOp pMul3 (oCons (oN 5) (oCons (oE (mC (.int 161))) oNil)))) (oCons (oE (mOp pAdd (oCons (oE (mC (.int 160))) (oCons (oE (mCallN 2 C_L_draw (oCons (oN 0) (oCons (oE (mC (.int 2))) (oNil))))) oNil)))) oNil))) (t1 5)) (mIf (mT (mCallN 2 C_L_rare (oCons (oN 0) (oCons (oE (mC (.int 4))) (oNil))))) (mSeq (mAsg (mComp (oCons (oE (mC (.int 60))) oNil) itRng1 (t1 3) (mYes) (mTup (vCons (mFz (mOp pAdd (oCons (oE (mOp pAdd (oCons (oE (mC (.str "n"))) (oCons (oE (mOp pStr (oCons (oN 3) (oNil)))) oNil)))) (oCons (oE (mC (.str "_x"))) oNil)))) (vCons (mTup (vCons (mC (.int 0)) (vNil))) (vCons (mTup (vCons (mC (.int 0)) (vCons (mC (.int 0)) (vNil)))) (vNil))))) [3]) (t1 9))
  (mAsg (mOp pSlHi (oCons (oE (mOp pAdd (oCons (oN 4) (oCons (oN 9) oNil)))) (oCons (oE (mOp pAdd (oCons (oE (mC (.int 60))) (oCons (oE (mCallN 2 C_L_draw (oCons (oN 0) (oCons (oE (mC (.int 2))) (oNil))))) oNil)))) oNil))) (t1 4))) (mNx))))))
  (mRet (mTup (vCons (mOp pTuple (oCons (oN 4) (oNil))) (vCons (mOp pTuple (oCons (oN 5) (oNil))) (vNil)))))))
noncomputable def C_L_graph_spoilt : List PV → CR := runB 10 2 [0, 1] m_L_graph_spoilt
theorem fb_L_graph_spoilt (T : Tx P w K mg base aBadThing aRateError) : FB P w K mg base 5 "_law_graph_spoilt" 2 C_L_graph_spoilt := by
  obtain ⟨f, fd, F, g, b⟩ := T.f_L_graph_spoilt
  exact fb_of (N := ["d", "graph", "block", "k", "blocks", "queues", "kind", "at", "odd", "more"]) (ps := ["d", "graph"]) (pn := [0, 1]) (m := m_L_graph_spoilt) (k := 4) F sc_L_graph_spoilt g b fun cdv A outer s H E hr => (sss_cons (ss_par 4 5 rfl sc_L_graph_spoilt.nd rfl rfl (by decide) rfl rfl (by decide) (sv_cons (se_bty call_list_of vo_list (by rfl) T.b_list bt_list (sa_cons (so_E (se_ix ix_seq vo_ix (so_N 1 (pv 1)) (so_E se_int) (by intro _ _; rfl))) sa_nil)) (sv_cons (se_bty call_list_of vo_list (by rfl) T.b_list bt_list (sa_cons (so_E (se_ix ix_seq vo_ix (so_N 1 (pv 1)) (so_E se_int) (by intro _ _; rfl))) sa_nil)) sv_nil)) (by rfl) (by rfl))
  (sss_cons (ss_set 6 (se_call bx_tk (fb_L_draw T) (hr.mono (by omega)) (by rfl) (sa_cons (so_N 0 (pv 0)) (sa_cons (so_E se_int) sa_nil))) sc_L_graph_spoilt.nd rfl (Or.inl rfl) (by decide) (by rfl) (.inl rfl))
  (sss_cons (ss_if (st_cmp op_lt (vo_cmp pLt) (so_N 6 (pv 6)) (so_E se_int) (nomark _)) (sss_cons (ss_set 7 (se_call bx_tk (fb_L_draw T) (hr.mono (by omega)) (by rfl) (sa_cons (so_N 0 (pv 0)) (sa_cons (so_E (se_blt call_len vo_len (by rfl) T.b_len bt_len (sa_cons (so_N 4 (pv 4)) sa_nil))) sa_nil))) sc_L_graph_spoilt.nd rfl (Or.inl rfl) (by decide) (by rfl) (.inl rfl))
  (sss_one (ss_setI 4 (se_fz (se_call bx_tk (fb_L_block_spoilt T) (hr.mono (by omega)) (by rfl) (sa_cons (so_N 0 (pv 0)) (sa_cons (so_E (se_ix ix_seq vo_ix (so_N 4 (pv 4)) (so_N 7 (pv 7)) (by intro _ _; rfl))) (sa_cons (so_E (se_comp rfl sc_L_graph_spoilt.nd (si_seq (so_N 4 (pv 4))) vi_seq (own := [("block", 2)]) (blkOk_by (N := ["d", "graph", "block", "k", "blocks", "queues", "kind", "at", "odd", "more"]) (sc := defScope s_L_graph_spoilt) (by decide +kernel)) (tgb_name 2 (fun _ _ _ _ _ => (pg_name (i := 2) sc_L_graph_spoilt.nd rfl (Or.inl rfl)))) (by decide) (fun _ _ _ _ _ => sif_nil) (fun _ _ _ _ _ => (se_fz (se_ix ix_seq vo_ix (so_N 2 (pv 2)) (so_E se_int) (by intro _ _; rfl)))))) sa_nil))))) (pv 4) (se_N 7 (pv 7))))) (sss_one (ss_if (st_cmp op_lt (vo_cmp pLt) (so_N 6 (pv 6)) (so_E se_int) (nomark _)) (sss_cons (ss_set 7 (se_call bx_tk (fb_L_draw T) (hr.mono (by omega)) (by rfl) (sa_cons (so_N 0 (pv 0)) (sa_cons (so_E (se_blt call_len vo_len (by rfl) T.b_len bt_len (sa_cons (so_N 5 (pv 5)) sa_nil))) sa_nil))) sc_L_graph_spoilt.nd rfl (Or.inl rfl) (by decide) (by rfl) (.inl rfl))
  (sss_one (ss_setI 5 (se_fz (se_call bx_tk (fb_L_queue_spoilt T) (hr.mono (by omega)) (by rfl) (sa_cons (so_N 0 (pv 0)) (sa_cons (so_E (se_ix ix_seq vo_ix (so_N 5 (pv 5)) (so_N 7 (pv 7)) (by intro _ _; rfl))) (sa_cons (so_E (se_blt call_len vo_len (by rfl) T.b_len bt_len (sa_cons (so_N 4 (pv 4)) sa_nil))) sa_nil))))) (pv 5) (se_N 7 (pv 7))))) (sss_one (ss_if (st_cmp (op_eqD (hu64 hr)) vo_eq (so_N 6 (pv 6)) (so_E se_int) (nomark _)) (sss_cons (ss_set 8 (se_lst (sv_cons (se_fz (se_bty call_list_of vo_list (by rfl) T.b_list bt_list (sa_cons (so_N 1 (pv 1)) sa_nil))) (sv_cons (se_tup (sv_cons (se_fz (se_ix ix_seq vo_ix (so_N 1 (pv 1)) (so_E se_int) (by intro _ _; rfl))) sv_nil)) (sv_cons (se_fz (se_op2 op_addAll vo_add (so_N 1 (pv 1)) (so_E (se_tup (sv_cons (se_tup sv_nil) sv_nil))))) (sv_cons (se_tup (sv_cons (se_fz (se_ix ix_seq vo_ix (so_N 1 (pv 1)) (so_E se_int) (by intro _ _; rfl))) (sv_cons (se_FzN 5 (pv 5)) sv_nil))) (sv_cons (se_tup (sv_cons (se_FzN 4 (pv 4)) (sv_cons (se_fz (se_ix ix_seq vo_ix (so_N 1 (pv 1)) (so_E se_int) (by intro _ _; rfl))) sv_nil))) sv_nil)))))) sc_L_graph_spoilt.nd rfl (Or.inl rfl) (by decide) (by rfl) (.inl rfl))
  (sss_one (ss_ret (se_call bx_tk (fb_L_pick T) (hr.mono (by omega)) (by rfl) (sa_cons (so_N 0 (pv 0)) (sa_cons (so_E (se_op2 op_addAll vo_add (so_N 8 (pv 8)) (so_E (se_lst (sv_cons (se_tup (sv_cons (se_tup sv_nil) (sv_cons (se_tup sv_nil) sv_nil))) (sv_cons (se_tup (sv_cons (se_tup sv_nil) (sv_cons (se_fz (se_ix ix_seq vo_ix (so_N 1 (pv 1)) (so_E se_int) (by intro _ _; rfl))) sv_nil))) (sv_cons se_non (sv_cons se_int (sv_cons (se_tup (sv_cons se_non (sv_cons se_non sv_nil))) sv_nil))))))))) sa_nil)))))) (sss_one (ss_if (st_val (se_call bx_tk (fb_L_rare T) (hr.mono (by omega)) (by rfl) (sa_cons (so_N 0 (pv 0)) (sa_cons (so_E se_int) sa_nil)))) (sss_one (ss_set 5 (se_slHi (so_E (se_op2 op_mul3 vo_mul3 (so_N 5 (pv 5)) (so_E se_int))) (so_E (se_op2 op_addAll vo_add (so_E se_int) (so_E (se_call bx_tk (fb_L_draw T) (hr.mono (by omega)) (by rfl) (sa_cons (so_N 0 (pv 0)) (sa_cons (so_E se_int) sa_nil))))))) sc_L_graph_spoilt.nd rfl (Or.inl rfl) (by decide) (by rfl) (.inl rfl))) (sss_one (ss_if (st_val (se_call bx_tk (fb_L_rare T) (hr.mono (by omega)) (by rfl) (sa_cons (so_N 0 (pv 0)) (sa_cons (so_E se_int) sa_nil)))) (sss_cons (ss_setLc 9 rfl sc_L_graph_spoilt.nd rfl rfl (by decide) (sw_true rfl rfl rfl (by decide +kernel)) (si_rng1 (so_E se_int) (by rfl) T.b_range (by rfl) (by rfl)) vi_rng1 (own := [("k", 3)]) (blkOk_by (N := ["d", "graph", "block", "k", "blocks", "queues", "kind", "at", "odd", "more"]) (sc := defScope s_L_graph_spoilt) (by decide +kernel)) (tgb_name 3 (fun _ _ _ _ _ => (pg_name (i := 3) sc_L_graph_spoilt.nd rfl (Or.inl rfl)))) (by decide) (fun _ _ _ _ _ => sif_nil) (fun _ _ _ _ _ => (se_tup (sv_cons (se_fz (se_op2 op_addAll vo_add (so_E (se_op2 op_addAll vo_add (so_E se_str) (so_E (se_bty call_str_int vo_str (by rfl) T.b_str bt_str (sa_cons (so_N 3 (pv 3)) sa_nil))))) (so_E se_str))) (sv_cons (se_tup (sv_cons se_int sv_nil)) (sv_cons (se_tup (sv_cons se_int (sv_cons se_int sv_nil))) sv_nil))))))
  (sss_one (ss_set 4 (se_slHi (so_E (se_op2 op_addAll vo_add (so_N 4 (pv 4)) (so_N 9 (pv 9)))) (so_E (se_op2 op_addAll vo_add (so_E se_int) (so_E (se_call bx_tk (fb_L_draw T) (hr.mono (by omega)) (by rfl) (sa_cons (so_N 0 (pv 0)) (sa_cons (so_E se_int) sa_nil))))))) sc_L_graph_spoilt.nd rfl (Or.inl rfl) (by decide) (by rfl) (.inl rfl)))) sss_nil)))))))))
  (sss_one (ss_ret (se_tup (sv_cons (se_bty call_tuple_of vo_tuple (by rfl) T.b_tuple bt_tuple (sa_cons (so_N 4 (pv 4)) sa_nil)) (sv_cons (se_bty call_tuple_of vo_tuple (by rfl) T.b_tuple bt_tuple (sa_cons (so_N 5 (pv 5)) sa_nil)) sv_nil))))))))
/-! ### _law_named -/
abbrev s_L_named : Stmt := tS 64
theorem sc_L_named : FnScope ["thing", "sign", "letters"] ["thing"] (defScope s_L_named) := ⟨rfl, rfl, rfl, by decide +kernel, rfl, by decide +kernel, by decide +kernel⟩
noncomputable def m_L_named : MS := mSeq (mAsg (mC (.str "abcdefghijklmnopqrstuvwxyz")) (t1 2))
  (mSeq (mIf (mOr (mNot (mT (mOp (pIsi "str") (oCons (oN 0) oNil)))) (mNot (mT (mChain pLe pLe (oE (mC (.int 1))) (oE (mOp pLen (oCons (oN 0) (oNil)))) (oE (mC (.int 16))))))) (mRet (mC (.bl false))) (mNx))
  (mRet (mAndV (mOp (pIn false) (oCons (oE (mOp pIx (oCons (oN 0) (oCons (oE (mC (.int 0))) oNil)))) (oCons (oN 2) oNil))) (mOp pAll (oCons (oE (mComp (oCons (oN 0) oNil) itSeq (t1 1) (mYes) (mOp (pIn false) (oCons (oN 1) (oCons (oE (mOp pAdd (oCons (oN 2) (oCons (oE (mC (.str "0123456789_."))) oNil)))) oNil))) [1])) (oNil))))))
noncomputable def C_L_named : List PV → CR := runB 3 1 [0] m_L_named
theorem fb_L_named (T : Tx P w K mg base aBadThing aRateError) : FB P w K mg base 1 "_law_named" 1 C_L_named := by
  obtain ⟨f, fd, F, g, b⟩ := T.f_L_named
  exact fb_of (N := ["thing", "sign", "letters"]) (ps := ["thing"]) (pn := [0]) (m := m_L_named) (k := 0) F sc_L_named g b fun cdv A outer s H E hr => (sss_cons (ss_set 2 se_str sc_L_named.nd rfl (Or.inr rfl) (by decide) (by rfl) (.inl rfl))
  (sss_cons (ss_if (st_bool (sw_or (st_not (st_val (se_isi kit_str (by rfl) T.b_isinstance (by rfl) T.b_str bt_str (so_N 0 (pv 0))))) (sw_or1 (st_not (st_chain (p := pLe) (p' := pLe) op_le op_le (so_E se_int) (so_E (se_blt call_len vo_len (by rfl) T.b_len bt_len (sa_cons (so_N 0 (pv 0)) sa_nil))) (so_E se_int)))))) (sss_one (ss_ret se_bl)) sss_nil)
  (sss_one (ss_ret (se_and (se_cmp (op_inAll (hu65 hr)) vo_in (so_E (se_ix ix_seq vo_ix (so_N 0 (pv 0)) (so_E se_int) (by intro _ _; rfl))) (so_N 2 (pv 2)) (by rfl)) (se_one (se_blt (cr_all rfl) vo_all (by rfl) T.b_all bt_all (sa_cons (so_E (se_comp rfl sc_L_named.nd (si_seq (so_N 0 (pv 0))) vi_seq (own := [("sign", 1)]) (blkOk_by (N := ["thing", "sign", "letters"]) (sc := defScope s_L_named) (by decide +kernel)) (tgb_name 1 (fun _ _ _ _ _ => (pg_name (i := 1) sc_L_named.nd rfl (Or.inl rfl)))) (by decide) (fun _ _ _ _ _ => sif_nil) (fun _ _ _ _ _ => (se_cmp (op_inAll (hu65 hr)) vo_in (so_N 1 (pv 1)) (so_E (se_op2 op_addAll vo_add (so_N 2 (pv 2)) (so_E se_str))) (by rfl))))) sa_nil))))))))
/-! ### _law_in -/
abbrev s_L_in : Stmt := tS 62
theorem sc_L_in : FnScope ["thing", "low", "high"] ["thing", "low", "high"] (defScope s_L_in) := ⟨rfl, rfl, rfl, by decide +kernel, rfl, by decide +kernel, by decide +kernel⟩
noncomputable def m_L_in : MS := mRet (mAndV (mCallN 1 C_L_is_int (oCons (oN 0) (oNil))) (mChain pLe pLe (oN 1) (oN 0) (oN 2)))
noncomputable def C_L_in : List PV → CR := runB 3 3 [0, 1, 2] m_L_in
theorem fb_L_in (T : Tx P w K mg base aBadThing aRateError) : FB P w K mg base 2 "_law_in" 3 C_L_in := by
  obtain ⟨f, fd, F, g, b⟩ := T.f_L_in
  exact fb_of (N := ["thing", "low", "high"]) (ps := ["thing", "low", "high"]) (pn := [0, 1, 2]) (m := m_L_in) (k := 1) F sc_L_in g b fun cdv A outer s H E hr => (sss_one (ss_ret (se_and (se_call bx_tk (fb_L_is_int T) (hr.mono (by omega)) (by rfl) (sa_cons (so_N 0 (pv 0)) sa_nil)) (se_one (se_chain (p := pLe) (p' := pLe) op_le op_le (so_N 1 (pv 1)) (so_N 0 (pv 0)) (so_N 2 (pv 2)))))))
/-! ### _law_row_in -/
abbrev s_L_row_in : Stmt := tS 63
theorem sc_L_row_in : FnScope ["thing", "low", "high", "least", "most", "part"] ["thing", "low", "high", "least", "most"] (defScope s_L_row_in) := ⟨rfl, rfl, rfl, by decide +kernel, rfl, by decide +kernel, by decide +kernel⟩
noncomputable def m_L_row_in : MS := mSeq (mIf (mOr (mNot (mT (mOp (pIsi "tuple") (oCons (oN 0) oNil)))) (mNot (mT (mChain pLe pLe (oN 3) (oE (mOp pLen (oCons (oN 0) (oNil)))) (oN 4))))) (mRet (mC (.bl false))) (mNx))
  (mRet (mOp pAll (oCons (oE (mComp (oCons (oN 0) oNil) itSeq (t1 5) (mYes) (mFz (mCallN 3 C_L_in (oCons (oN 5) (oCons (oN 1) (oCons (oN 2) (oNil)))))) [5])) (oNil))))
noncomputable def C_L_row_in : List PV → CR := runB 6 5 [0, 1, 2, 3, 4] m_L_row_in
theorem fb_L_row_in (T : Tx P w K mg base aBadThing aRateError) : FB P w K mg base 3 "_law_row_in" 5 C_L_row_in := by
  obtain ⟨f, fd, F, g, b⟩ := T.f_L_row_in
  exact fb_of (N := ["thing", "low", "high", "least", "most", "part"]) (ps := ["thing", "low", "high", "least", "most"]) (pn := [0, 1, 2, 3, 4]) (m := m_L_row_in) (k := 2) F sc_L_row_in g b fun cdv A outer s H E hr => (sss_cons (ss_if (st_bool (sw_or (st_not (st_val (se_isi kit_tuple (by rfl) T.b_isinstance (by rfl) T.b_tuple bt_tuple (so_N 0 (pv 0))))) (sw_or1 (st_not (st_chain (p := pLe) (p' := pLe) op_le op_le (so_N 3 (pv 3)) (so_E (se_blt call_len vo_len (by rfl) T.b_len bt_len (sa_cons (so_N 0 (pv 0)) sa_nil))) (so_N 4 (pv 4))))))) (sss_one (ss_ret se_bl)) sss_nil)
  (sss_one (ss_ret (se_blt (cr_all rfl) vo_all (by rfl) T.b_all bt_all (sa_cons (so_E (se_comp rfl sc_L_row_in.nd (si_seq (so_N 0 (pv 0))) vi_seq (own := [("part", 5)]) (blkOk_by (N := ["thing", "low", "high", "least", "most", "part"]) (sc := defScope s_L_row_in) (by decide +kernel)) (tgb_name 5 (fun _ _ _ _ _ => (pg_name (i := 5) sc_L_row_in.nd rfl (Or.inl rfl)))) (by decide) (fun _ _ _ _ _ => sif_nil) (fun _ _ _ _ _ => (se_fz (se_call takes0 (fb_L_in T) (hr.mono (by omega)) (by rfl) (sa_cons (so_N 5 (pv 5)) (sa_cons (so_N 1 (pv 1)) (sa_cons (so_N 2 (pv 2)) sa_nil)))))))) sa_nil)))))
/-! ### _law_block_due -/
abbrev s_L_block_due : Stmt := tS 65
theorem sc_L_block_due : FnScope ["thing"] ["thing"] (defScope s_L_block_due) := ⟨rfl, rfl, rfl, by decide +kernel, rfl, by decide +kernel, by decide +kernel⟩
noncomputable def m_L_block_due : MS := mSeq (mIf (mOr (mNot (mT (mOp (pIsi "tuple") (oCons (oN 0) oNil)))) (mT (mOp (pEq true) (oCons (oE (mOp pLen (oCons (oN 0) (oNil)))) (oCons (oE (mC (.int 3))) oNil))))) (mRet (mC (.bl false))) (mNx))
  (mRet (mAndV (mCallN 1 C_L_named (oCons (oE (mOp pIx (oCons (oN 0) (oCons (oE (mC (.int 0))) oNil)))) (oNil))) (mAndV (mCallN 5 C_L_row_in (oCons (oE (mOp pIx (oCons (oN 0) (oCons (oE (mC (.int 1))) oNil)))) (oCons (oE (mC (.int 0))) (oCons (oE (mC (.int 60))) (oCons (oE (mC (.int 1))) (oCons (oE (mC (.int 6))) (oNil))))))) (mCallN 5 C_L_row_in (oCons (oE (mOp pIx (oCons (oN 0) (oCons (oE (mC (.int 2))) oNil)))) (oCons (oE (mC (.int 0))) (oCons (oE (mC (.int 9972))) (oCons (oE (mC (.int 2))) (oCons (oE (mC (.int 2))) (oNil))))))))))
noncomputable def C_L_block_due : List PV → CR := runB 1 1 [0] m_L_block_due
theorem fb_L_block_due (T : Tx P w K mg base aBadThing aRateError) : FB P w K mg base 4 "_law_block_due" 1 C_L_block_due := by
  obtain ⟨f, fd, F, g, b⟩ := T.f_L_block_due
  exact fb_of (N := ["thing"]) (ps := ["thing"]) (pn := [0]) (m := m_L_block_due) (k := 3) F sc_L_block_due g b fun cdv A outer s H E hr => (sss_cons (ss_if (st_bool (sw_or (st_not (st_val (se_isi kit_tuple (by rfl) T.b_isinstance (by rfl) T.b_tuple bt_tuple (so_N 0 (pv 0))))) (sw_or1 (st_cmp (op_neD (hu64 hr)) vo_ne (so_E (se_blt call_len vo_len (by rfl) T.b_len bt_len (sa_cons (so_N 0 (pv 0)) sa_nil))) (so_E se_int) (nomark _))))) (sss_one (ss_ret se_bl)) sss_nil)
  (sss_one (ss_ret (se_and (se_call bx_tk (fb_L_named T) (hr.mono (by omega)) (by rfl) (sa_cons (so_E (se_ix ix_seq vo_ix (so_N 0 (pv 0)) (so_E se_int) (by intro _ _; rfl))) sa_nil)) (se_and (se_call bx_tk (fb_L_row_in T) (hr.mono (by omega)) (by rfl) (sa_cons (so_E (se_ix ix_seq vo_ix (so_N 0 (pv 0)) (so_E se_int) (by intro _ _; rfl))) (sa_cons (so_E se_int) (sa_cons (so_E se_int) (sa_cons (so_E se_int) (sa_cons (so_E se_int) sa_nil)))))) (se_one (se_call bx_tk (fb_L_row_in T) (hr.mono (by omega)) (by rfl) (sa_cons (so_E (se_ix ix_seq vo_ix (so_N 0 (pv 0)) (so_E se_int) (by intro _ _; rfl))) (sa_cons (so_E se_int) (sa_cons (so_E se_int) (sa_cons (so_E se_int) (sa_cons (so_E se_int) sa_nil))))))))))))
/-! ### _law_queue_due -/
abbrev s_L_queue_due : Stmt := tS 66
theorem sc_L_queue_due : FnScope ["thing", "blocks", "source", "gives", "target", "takes", "start", "pair", "size"] ["thing", "blocks"] (defScope s_L_queue_due) := ⟨rfl, rfl, rfl, by decide +kernel, rfl, by decide +kernel, by decide +kernel⟩
noncomputable def m_L_queue_due : MS := mSeq (mIf (mOr (mNot (mT (mOp (pIsi "tuple") (oCons (oN 0) oNil)))) (mT (mOp (pEq true) (oCons (oE (mOp pLen (oCons (oN 0) (oNil)))) (oCons (oE (mC (.int 5))) oNil))))) (mRet (mC (.bl false))) (mNx))
  (mSeq (mAsg (mN 0) (tN [2, 3, 4, 5, 6]))
  (mSeq (mIf (mOr (mNot (mT (mCallN 3 C_L_in (oCons (oN 2) (oCons (oE (mC (.int 0))) (oCons (oE (mOp pSub (oCons (oE (mOp pLen (oCons (oN 1) (oNil)))) (oCons (oE (mC (.int 1))) oNil)))) (oNil))))))) (mNot (mT (mCallN 3 C_L_in (oCons (oN 4) (oCons (oE (mC (.int 0))) (oCons (oE (mOp pSub (oCons (oE (mOp pLen (oCons (oN 1) (oNil)))) (oCons (oE (mC (.int 1))) oNil)))) (oNil)))))))) (mRet (mC (.bl false))) (mNx))
  (mSeq (mFor [0, 1] (oCons (oE (mTup (vCons (mTup (vCons (mFzN 2) (vCons (mFzN 3) (vNil)))) (vCons (mTup (vCons (mFzN 4) (vCons (mFzN 5) (vNil)))) (vNil))))) oNil) itSeq (t1 7) (mSeq (mAsg (mOp pLen (oCons (oE (mOp pIx (oCons (oE (mOp pIx (oCons (oN 1) (oCons (oE (mOp pIx (oCons (oN 7) (oCons (oE (mC (.int 0))) oNil)))) oNil)))) (oCons (oE (mC (.int 1))) oNil)))) (oNil))) (t1 8))
  (mIf (mOr (mNot (mT (mCallN 5 C_L_row_in (oCons (oE (mOp pIx (oCons (oN 7) (oCons (oE (mC (.int 1))) oNil)))) (oCons (oE (mC (.int 0))) (oCons (oE (mC (.int 12))) (oCons (oN 8) (oCons (oN 8) (oNil))))))))) (mT (mOp (pEq false) (oCons (oE (mOp pSum (oCons (oE (mOp pIx (oCons (oN 7) (oCons (oE (mC (.int 1))) oNil)))) (oNil)))) (oCons (oE (mC (.int 0))) oNil))))) (mRet (mC (.bl false))) (mNx))))
  (mRet (mCallN 5 C_L_row_in (oCons (oN 6) (oCons (oE (mC (.int 0))) (oCons (oE (mC (.int 9972))) (oCons (oE (mC (.int 0))) (oCons (oE (mC (.int 60))) (oNil)))))))))))
noncomputable def C_L_queue_due : List PV → CR := runB 9 2 [0, 1] m_L_queue_due
theorem fb_L_queue_due (T : Tx P w K mg base aBadThing aRateError) : FB P w K mg base 4 "_law_queue_due" 2 C_L_queue_due := by
  obtain ⟨f, fd, F, g, b⟩ := T.f_L_queue_due
  exact fb_of (N := ["thing", "blocks", "source", "gives", "target", "takes", "start", "pair", "size"]) (ps := ["thing", "blocks"]) (pn := [0, 1]) (m := m_L_queue_due) (k := 3) F sc_L_queue_due g b fun cdv A outer s H E hr => (sss_cons (ss_if (st_bool (sw_or (st_not (st_val (se_isi kit_tuple (by rfl) T.b_isinstance (by rfl) T.b_tuple bt_tuple (so_N 0 (pv 0))))) (sw_or1 (st_cmp (op_neD (hu64 hr)) vo_ne (so_E (se_blt call_len vo_len (by rfl) T.b_len bt_len (sa_cons (so_N 0 (pv 0)) sa_nil))) (so_E se_int) (nomark _))))) (sss_one (ss_ret se_bl)) sss_nil)
  (sss_cons (ss_asg (se_N 0 (pv 0)) (tg_tup rfl (PNs.cons (pg_name (i := 2) sc_L_queue_due.nd rfl (Or.inl rfl)) (PNs.cons (pg_name (i := 3) sc_L_queue_due.nd rfl (Or.inl rfl)) (PNs.cons (pg_name (i := 4) sc_L_queue_due.nd rfl (Or.inl rfl)) (PNs.cons (pg_name (i := 5) sc_L_queue_due.nd rfl (Or.inl rfl)) (PNs.cons (pg_name (i := 6) sc_L_queue_due.nd rfl (Or.inl rfl)) PNs.nil rfl) rfl) rfl) rfl) rfl) rfl rfl) (by decide) (by rfl) (by rfl) (by rfl))
  (sss_cons (ss_if (st_bool (sw_or (st_not (st_val (se_call bx_tk (fb_L_in T) (hr.mono (by omega)) (by rfl) (sa_cons (so_N 2 (pv 2)) (sa_cons (so_E se_int) (sa_cons (so_E (se_op2 op_sub vo_sub (so_E (se_blt call_len vo_len (by rfl) T.b_len bt_len (sa_cons (so_N 1 (pv 1)) sa_nil))) (so_E se_int))) sa_nil)))))) (sw_or1 (st_not (st_val (se_call bx_tk (fb_L_in T) (hr.mono (by omega)) (by rfl) (sa_cons (so_N 4 (pv 4)) (sa_cons (so_E se_int) (sa_cons (so_E (se_op2 op_sub vo_sub (so_E (se_blt call_len vo_len (by rfl) T.b_len bt_len (sa_cons (so_N 1 (pv 1)) sa_nil))) (so_E se_int))) sa_nil))))))))) (sss_one (ss_ret se_bl)) sss_nil)
  (sss_cons (ss_for bx_po rfl (si_seq (so_E (se_tup (sv_cons (se_tup (sv_cons (se_FzN 2 (pv 2)) (sv_cons (se_FzN 3 (pv 3)) sv_nil))) (sv_cons (se_tup (sv_cons (se_FzN 4 (pv 4)) (sv_cons (se_FzN 5 (pv 5)) sv_nil))) sv_nil))))) vi_seq (tg_name 7 (pg_name (i := 7) sc_L_queue_due.nd rfl (Or.inl rfl))) (by decide) (by decide) (sss_cons (ss_set 8 (se_blt call_len vo_len (by rfl) T.b_len bt_len (sa_cons (so_E (se_ix ix_seq vo_ix (so_E (se_ix ix_seq vo_ix (so_N 1 (pv 1)) (so_E (se_ix ix_seq vo_ix (so_N 7 (pv 7)) (so_E se_int) (by intro _ _; rfl))) (by intro _ _; rfl))) (so_E se_int) (by intro _ _; rfl))) sa_nil)) sc_L_queue_due.nd rfl (Or.inl rfl) (by decide) (by rfl) (.inl rfl))
  (sss_one (ss_if (st_bool (sw_or (st_not (st_val (se_call bx_tk (fb_L_row_in T) (hr.mono (by omega)) (by rfl) (sa_cons (so_E (se_ix ix_seq vo_ix (so_N 7 (pv 7)) (so_E se_int) (by intro _ _; rfl))) (sa_cons (so_E se_int) (sa_cons (so_E se_int) (sa_cons (so_N 8 (pv 8)) (sa_cons (so_N 8 (pv 8)) sa_nil)))))))) (sw_or1 (st_cmp (op_eqD (hu64 hr)) vo_eq (so_E (se_blt (call_sum2 rfl) vo_sum (by rfl) T.b_sum bt_sum (sa_cons (so_E (se_ix ix_seq vo_ix (so_N 7 (pv 7)) (so_E se_int) (by intro _ _; rfl))) sa_nil))) (so_E se_int) (nomark _))))) (sss_one (ss_ret se_bl)) sss_nil))))
  (sss_one (ss_ret (se_call bx_tk (fb_L_row_in T) (hr.mono (by omega)) (by rfl) (sa_cons (so_N 6 (pv 6)) (sa_cons (so_E se_int) (sa_cons (so_E se_int) (sa_cons (so_E se_int) (sa_cons (so_E se_int) sa_nil))))))))))))
/-! ### _law_graph_due -/
abbrev s_L_graph_due : Stmt := tS 67
theorem sc_L_graph_due : FnScope ["thing", "block", "name", "queue", "blocks", "queues", "names"] ["thing"] (defScope s_L_graph_due) := ⟨rfl, rfl, rfl, by decide +kernel, rfl, by decide +kernel, by decide +kernel⟩
noncomputable def m_L_graph_due : MS := mSeq (mIf (mOr (mNot (mT (mOp (pIsi "tuple") (oCons (oN 0) oNil)))) (mT (mOp (pEq true) (oCons (oE (mOp pLen (oCons (oN 0) (oNil)))) (oCons (oE (mC (.int 2))) oNil))))) (mRet (mC (.bl false))) (mNx))
  (mSeq (mAsg (mN 0) (tN [4, 5]))
  (mSeq (mIf (mOr (mNot (mT (mOp (pIsi "tuple") (oCons (oN 4) oNil)))) (mNot (mT (mOp (pIsi "tuple") (oCons (oN 5) oNil))))) (mRet (mC (.bl false))) (mNx))
  (mSeq (mIf (mOr (mNot (mT (mChain pLe pLe (oE (mC (.int 1))) (oE (mOp pLen (oCons (oN 4) (oNil)))) (oE (mC (.int 60)))))) (mOr (mT (mOp (pCmp pGt) (oCons (oE (mOp pLen (oCons (oN 5) (oNil)))) (oCons (oE (mC (.int 160))) oNil)))) (mNot (mT (mOp pAll (oCons (oE (mComp (oCons (oN 4) oNil) itSeq (t1 1) (mYes) (mFz (mCallN 1 C_L_block_due (oCons (oN 1) (oNil)))) [1])) (oNil))))))) (mRet (mC (.bl false))) (mNx))
  (mSeq (mAsg (mFz (mComp (oCons (oN 4) oNil) itSeq (t1 1) (mYes) (mFz (mOp pIx (oCons (oN 1) (oCons (oE (mC (.int 0))) oNil)))) [1])) (t1 6))
  (mSeq (mIf (mT (mOp pAny (oCons (oE (mComp (oCons (oN 6) oNil) itSeq (t1 2) (mYes) (mOp (pCmp pGt) (oCons (oE (mLst1 pLCount (oN 6) (oN 2))) (oCons (oE (mC (.int 1))) oNil))) [2])) (oNil)))) (mRet (mC (.bl false))) (mNx))
  (mRet (mOp pAll (oCons (oE (mComp (oCons (oN 5) oNil) itSeq (t1 3) (mYes) (mFz (mCallN 2 C_L_queue_due (oCons (oN 3) (oCons (oN 4) (oNil))))) [3])) (oNil)))))))))
noncomputable def C_L_graph_due : List PV → CR := runB 7 1 [0] m_L_graph_due
theorem fb_L_graph_due (T : Tx P w K mg base aBadThing aRateError) : FB P w K mg base 5 "_law_graph_due" 1 C_L_graph_due := by
  obtain ⟨f, fd, F, g, b⟩ := T.f_L_graph_due
  exact fb_of (N := ["thing", "block", "name", "queue", "blocks", "queues", "names"]) (ps := ["thing"]) (pn := [0]) (m := m_L_graph_due) (k := 4) F sc_L_graph_due g b fun cdv A outer s H E hr => (sss_cons (ss_if (st_bool (sw_or (st_not (st_val (se_isi kit_tuple (by rfl) T.b_isinstance (by rfl) T.b_tuple bt_tuple (so_N 0 (pv 0))))) (sw_or1 (st_cmp (op_neD (hu64 hr)) vo_ne (so_E (se_blt call_len vo_len (by rfl) T.b_len bt_len (sa_cons (so_N 0 (pv 0)) sa_nil))) (so_E se_int) (nomark _))))) (sss_one (ss_ret se_bl)) sss_nil)
  (sss_cons (ss_asg (se_N 0 (pv 0)) (tg_tup rfl (PNs.cons (pg_name (i := 4) sc_L_graph_due.nd rfl (Or.inr rfl)) (PNs.cons (pg_name (i := 5) sc_L_graph_due.nd rfl (Or.inl rfl)) PNs.nil rfl) rfl) rfl rfl) (by decide) (by rfl) (by rfl) (by rfl))
  (sss_cons (ss_if (st_bool (sw_or (st_not (st_val (se_isi kit_tuple (by rfl) T.b_isinstance (by rfl) T.b_tuple bt_tuple (so_N 4 (pv 4))))) (sw_or1 (st_not (st_val (se_isi kit_tuple (by rfl) T.b_isinstance (by rfl) T.b_tuple bt_tuple (so_N 5 (pv 5)))))))) (sss_one (ss_ret se_bl)) sss_nil)
  (sss_cons (ss_if (st_bool (sw_or (st_not (st_chain (p := pLe) (p' := pLe) op_le op_le (so_E se_int) (so_E (se_blt call_len vo_len (by rfl) T.b_len bt_len (sa_cons (so_N 4 (pv 4)) sa_nil))) (so_E se_int))) (sw_or (st_cmp op_gt (vo_cmp pGt) (so_E (se_blt call_len vo_len (by rfl) T.b_len bt_len (sa_cons (so_N 5 (pv 5)) sa_nil))) (so_E se_int) (nomark _)) (sw_or1 (st_not (st_val (se_blt (cr_all rfl) vo_all (by rfl) T.b_all bt_all (sa_cons (so_E (se_comp rfl sc_L_graph_due.nd (si_seq (so_N 4 (pv 4))) vi_seq (own := [("block", 1)]) (blkOk_by (N := ["thing", "block", "name", "queue", "blocks", "queues", "names"]) (sc := defScope s_L_graph_due) (by decide +kernel)) (tgb_name 1 (fun _ _ _ _ _ => (pg_name (i := 1) sc_L_graph_due.nd rfl (Or.inl rfl)))) (by decide) (fun _ _ _ _ _ => sif_nil) (fun _ _ _ _ _ => (se_fz (se_call takes0 (fb_L_block_due T) (hr.mono (by omega)) (by rfl) (sa_cons (so_N 1 (pv 1)) sa_nil)))))) sa_nil)))))))) (sss_one (ss_ret se_bl)) sss_nil)
  (sss_cons (ss_set 6 (se_fz (se_comp rfl sc_L_graph_due.nd (si_seq (so_N 4 (pv 4))) vi_seq (own := [("block", 1)]) (blkOk_by (N := ["thing", "block", "name", "queue", "blocks", "queues", "names"]) (sc := defScope s_L_graph_due) (by decide +kernel)) (tgb_name 1 (fun _ _ _ _ _ => (pg_name (i := 1) sc_L_graph_due.nd rfl (Or.inl rfl)))) (by decide) (fun _ _ _ _ _ => sif_nil) (fun _ _ _ _ _ => (se_fz (se_ix ix_seq vo_ix (so_N 1 (pv 1)) (so_E se_int) (by intro _ _; rfl)))))) sc_L_graph_due.nd rfl (Or.inr rfl) (by decide) (by rfl) (.inl rfl))
  (sss_cons (ss_if (st_val (se_blt (cr_any rfl) vo_any (by rfl) T.b_any bt_any (sa_cons (so_E (se_comp rfl sc_L_graph_due.nd (si_seq (so_N 6 (pv 6))) vi_seq (own := [("name", 2)]) (blkOk_by (N := ["thing", "block", "name", "queue", "blocks", "queues", "names"]) (sc := defScope s_L_graph_due) (by decide +kernel)) (tgb_name 2 (fun _ _ _ _ _ => (pg_name (i := 2) sc_L_graph_due.nd rfl (Or.inl rfl)))) (by decide) (fun _ _ _ _ _ => sif_nil) (fun _ _ _ _ _ => (se_cmp op_gt (vo_cmp pGt) (so_E (se_lcount (hu65 hr) (so_N 6 (pv 6)) (so_N 2 (pv 2)))) (so_E se_int) (nomark _))))) sa_nil))) (sss_one (ss_ret se_bl)) sss_nil)
  (sss_one (ss_ret (se_blt (cr_all rfl) vo_all (by rfl) T.b_all bt_all (sa_cons (so_E (se_comp rfl sc_L_graph_due.nd (si_seq (so_N 5 (pv 5))) vi_seq (own := [("queue", 3)]) (blkOk_by (N := ["thing", "block", "name", "queue", "blocks", "queues", "names"]) (sc := defScope s_L_graph_due) (by decide +kernel)) (tgb_name 3 (fun _ _ _ _ _ => (pg_name (i := 3) sc_L_graph_due.nd rfl (Or.inl rfl)))) (by decide) (fun _ _ _ _ _ => sif_nil) (fun _ _ _ _ _ => (se_fz (se_call takes0 (fb_L_queue_due T) (hr.mono (by omega)) (by rfl) (sa_cons (so_N 3 (pv 3)) (sa_cons (so_N 4 (pv 4)) sa_nil))))))) sa_nil))))))))))
/-! ### check_queue -/
abbrev s_check_queue : Stmt := tS 30
theorem sc_check_queue : FnScope ["graph", "queue"] ["graph", "queue"] (defScope s_check_queue) := ⟨rfl, rfl, rfl, by decide +kernel, rfl, by decide +kernel, by decide +kernel⟩
noncomputable def m_check_queue : MS := mIf (mNot (mT (mCallN 2 C_is_place (oCons (oN 1) (oCons (oE (mOp pLen (oCons (oE (mOp pIx (oCons (oN 0) (oCons (oE (mC (.int 1))) oNil)))) (oNil)))) (oNil)))))) (mRaise (mMk "BadThing" ["part"] (vCons (mC (.str "queue")) (vNil)))) (mNx)
noncomputable def C_check_queue : List PV → CR := runB 2 2 [0, 1] m_check_queue
theorem fb_check_queue (T : Tx P w K mg base aBadThing aRateError) : FB P w K mg base 3 "check_queue" 2 C_check_queue := by
  obtain ⟨f, fd, F, g, b⟩ := T.f_check_queue
  exact fb_of (N := ["graph", "queue"]) (ps := ["graph", "queue"]) (pn := [0, 1]) (m := m_check_queue) (k := 2) F sc_check_queue g b fun cdv A outer s H E hr => (sss_one (ss_if (st_not (st_val (se_call bx_tk (fb_is_place T) (hr.mono (by omega)) (by rfl) (sa_cons (so_N 1 (pv 1)) (sa_cons (so_E (se_blt call_len vo_len (by rfl) T.b_len bt_len (sa_cons (so_E (se_ix ix_seq vo_ix (so_N 0 (pv 0)) (so_E se_int) (by intro _ _; rfl))) sa_nil))) sa_nil))))) (sss_one (ss_raise rfl bx_tk (sx_mk T.x_BadThing (hr.mono (by omega)) (by rfl) (sv_cons se_str sv_nil) (by decide)))) sss_nil))
/-! ### sum_before -/
abbrev s_sum_before : Stmt := tS 31
theorem sc_sum_before : FnScope ["rates", "firing", "size", "cycles", "rest"] ["rates", "firing"] (defScope s_sum_before) := ⟨rfl, rfl, rfl, by decide +kernel, rfl, by decide +kernel, by decide +kernel⟩
noncomputable def m_sum_before : MS := mSeq (mAsg (mOp pLen (oCons (oN 0) (oNil))) (t1 2))
  (mSeq (mAsg (mOp pFdiv (oCons (oN 1) (oCons (oN 2) oNil))) (t1 3))
  (mSeq (mAsg (mOp pMod (oCons (oN 1) (oCons (oN 2) oNil))) (t1 4))
  (mRet (mOp pAdd (oCons (oE (mOp pMul2 (oCons (oN 3) (oCons (oE (mOp pSum (oCons (oN 0) (oNil)))) oNil)))) (oCons (oE (mOp pSum (oCons (oE (mOp pSlHi (oCons (oN 0) (oCons (oN 4) oNil)))) (oNil)))) oNil))))))
noncomputable def C_sum_before : List PV → CR := runB 5 2 [0, 1] m_sum_before
theorem fb_sum_before (T : Tx P w K mg base aBadThing aRateError) : FB P w K mg base 1 "sum_before" 2 C_sum_before := by
  obtain ⟨f, fd, F, g, b⟩ := T.f_sum_before
  exact fb_of (N := ["rates", "firing", "size", "cycles", "rest"]) (ps := ["rates", "firing"]) (pn := [0, 1]) (m := m_sum_before) (k := 0) F sc_sum_before g b fun cdv A outer s H E hr => (sss_cons (ss_set 2 (se_blt call_len vo_len (by rfl) T.b_len bt_len (sa_cons (so_N 0 (pv 0)) sa_nil)) sc_sum_before.nd rfl (Or.inl rfl) (by decide) (by rfl) (.inl rfl))
  (sss_cons (ss_set 3 (se_op2 op_fdiv vo_fdiv (so_N 1 (pv 1)) (so_N 2 (pv 2))) sc_sum_before.nd rfl (Or.inl rfl) (by decide) (by rfl) (.inl rfl))
  (sss_cons (ss_set 4 (se_op2 op_mod vo_mod (so_N 1 (pv 1)) (so_N 2 (pv 2))) sc_sum_before.nd rfl (Or.inl rfl) (by decide) (by rfl) (.inl rfl))
  (sss_one (ss_ret (se_op2 op_addAll vo_add (so_E (se_op2 op_mul2 vo_mul2 (so_N 3 (pv 3)) (so_E (se_blt (call_sum2 rfl) vo_sum (by rfl) T.b_sum bt_sum (sa_cons (so_N 0 (pv 0)) sa_nil))))) (so_E (se_blt (call_sum2 rfl) vo_sum (by rfl) T.b_sum bt_sum (sa_cons (so_E (se_slHi (so_N 0 (pv 0)) (so_N 4 (pv 4)))) sa_nil)))))))))
/-! ### taken_before -/
abbrev s_taken_before : Stmt := tS 38
theorem sc_taken_before : FnScope ["graph", "queue", "firing"] ["graph", "queue", "firing"] (defScope s_taken_before) := ⟨rfl, rfl, rfl, by decide +kernel, rfl, by decide +kernel, by decide +kernel⟩
noncomputable def m_taken_before : MS := mSeq (mDrop (mCallN 1 C_check_graph (oCons (oN 0) (oNil))))
  (mSeq (mDrop (mCallN 2 C_check_queue (oCons (oN 0) (oCons (oN 1) (oNil)))))
  (mSeq (mIf (mNot (mT (mCallN 3 C_whole (oCons (oN 2) (oCons (oE (mOp pNeg (oCons (oE (mC (.int 1000000))) oNil))) (oCons (oE (mC (.int 1000000))) (oNil))))))) (mRaise (mMk "BadThing" ["part"] (vCons (mC (.str "firing")) (vNil)))) (mNx))
  (mRet (mCallN 2 C_sum_before (oCons (oE (mOp pIx (oCons (oE (mOp pIx (oCons (oE (mOp pIx (oCons (oN 0) (oCons (oE (mC (.int 1))) oNil)))) (oCons (oN 1) oNil)))) (oCons (oE (mC (.int 3))) oNil)))) (oCons (oN 2) (oNil)))))))
noncomputable def C_taken_before : List PV → CR := runB 3 3 [0, 1, 2] m_taken_before
theorem fb_taken_before (T : Tx P w K mg base aBadThing aRateError) : FB P w K mg base 7 "taken_before" 3 C_taken_before := by
  obtain ⟨f, fd, F, g, b⟩ := T.f_taken_before
  exact fb_of (N := ["graph", "queue", "firing"]) (ps := ["graph", "queue", "firing"]) (pn := [0, 1, 2]) (m := m_taken_before) (k := 6) F sc_taken_before g b fun cdv A outer s H E hr => (sss_cons (ss_expr (se_call bx_tk (fb_check_graph T) (hr.mono (by omega)) (by rfl) (sa_cons (so_N 0 (pv 0)) sa_nil)) (by rfl))
  (sss_cons (ss_expr (se_call bx_tk (fb_check_queue T) (hr.mono (by omega)) (by rfl) (sa_cons (so_N 0 (pv 0)) (sa_cons (so_N 1 (pv 1)) sa_nil))) (by rfl))
  (sss_cons (ss_if (st_not (st_val (se_call bx_tk (fb_whole T) (hr.mono (by omega)) (by rfl) (sa_cons (so_N 2 (pv 2)) (sa_cons (so_E (se_neg (so_E (se_Gint (by rfl) T.c_FAR)))) (sa_cons (so_E (se_Gint (by rfl) T.c_FAR)) sa_nil)))))) (sss_one (ss_raise rfl bx_tk (sx_mk T.x_BadThing (hr.mono (by omega)) (by rfl) (sv_cons se_str sv_nil) (by decide)))) sss_nil)
  (sss_one (ss_ret (se_call bx_tk (fb_sum_before T) (hr.mono (by omega)) (by rfl) (sa_cons (so_E (se_ix ix_seq vo_ix (so_E (se_ix ix_seq vo_ix (so_E (se_ix ix_seq vo_ix (so_N 0 (pv 0)) (so_E se_int) (by intro _ _; rfl))) (so_N 1 (pv 1)) (by intro _ _; rfl))) (so_E se_int) (by intro _ _; rfl))) (sa_cons (so_N 2 (pv 2)) sa_nil))))))))
/-! ### _law_door -/
abbrev s_L_door : Stmt := tS 73
theorem sc_L_door : FnScope ["which", "thing", "e", "told"] ["which", "thing"] (defScope s_L_door) := ⟨rfl, rfl, rfl, by decide +kernel, rfl, by decide +kernel, by decide +kernel⟩
noncomputable def m_L_door : MS := mSeq (mTry (catOf [("BadThing", true)]) 2 (mIf (mT (mOp (pEq false) (oCons (oN 0) (oCons (oE (mC (.int 0))) oNil)))) (mAsg (mCallN 1 C_check_graph (oCons (oN 1) (oNil))) (t1 3)) (mIf (mT (mOp (pEq false) (oCons (oN 0) (oCons (oE (mC (.int 1))) oNil)))) (mAsg (mCallN 2 C_incoming (oCons (oN 1) (oCons (oE (mC (.int 0))) (oNil)))) (t1 3)) (mIf (mT (mOp (pEq false) (oCons (oN 0) (oCons (oE (mC (.int 2))) oNil)))) (mAsg (mCallN 2 C_outgoing (oCons (oN 1) (oCons (oE (mC (.int 0))) (oNil)))) (t1 3)) (mIf (mT (mOp (pEq false) (oCons (oN 0) (oCons (oE (mC (.int 3))) oNil)))) (mAsg (mCallN 2 C_phases (oCons (oN 1) (oCons (oE (mC (.int 0))) (oNil)))) (t1 3)) (mAsg (mCallN 3 C_taken_before (oCons (oN 1) (oCons (oE (mC (.int 0))) (oCons (oE (mC (.int 0))) (oNil))))) (t1 3)))))) (byCls [("BadThing", fun y => uRet (uTup (uCons (uC (.str "refused")) (uCons ((fun _ => y.fs.lookup ("part" : Str))) (uNil)))))]))
  (mRet (mTup (vCons (mC (.str "told")) (vCons (mFzN 3) (vNil)))))
noncomputable def C_L_door : List PV → CR := runB 4 2 [0, 1] m_L_door
theorem fb_L_door (T : Tx P w K mg base aBadThing aRateError) : FB P w K mg base 8 "_law_door" 2 C_L_door := by
  obtain ⟨f, fd, F, g, b⟩ := T.f_L_door
  exact fb_of (N := ["which", "thing", "e", "told"]) (ps := ["which", "thing"]) (pn := [0, 1]) (m := m_L_door) (k := 7) F sc_L_door g b fun cdv A outer s H E hr => (sss_cons (ss_try 2 rfl rfl sc_L_door.nd rfl rfl ⟨by rfl, by decide, Or.inl T.m_BadThing⟩ bx_tk (by decide) (cat_ok (CatC.cons T.m_BadThing T.e_BadThing_BadThing CatC.nil)) (fun W pn' xe tk' po' => (sss_one (ss_if (st_cmp (op_eqD (hu64 hr)) vo_eq (so_N 0 (pv 0)) (so_E se_int) (nomark _)) (sss_one (ss_set 3 (se_call tk' (fb_check_graph T) (hr.mono (by omega)) (by rfl) (sa_cons (so_N 1 (pv 1)) sa_nil)) sc_L_door.nd rfl (Or.inl rfl) (by decide) (by rfl) (.inl rfl))) (sss_one (ss_if (st_cmp (op_eqD (hu64 hr)) vo_eq (so_N 0 (pv 0)) (so_E se_int) (nomark _)) (sss_one (ss_set 3 (se_call tk' (fb_incoming T) (hr.mono (by omega)) (by rfl) (sa_cons (so_N 1 (pv 1)) (sa_cons (so_E se_int) sa_nil))) sc_L_door.nd rfl (Or.inl rfl) (by decide) (by rfl) (.inl rfl))) (sss_one (ss_if (st_cmp (op_eqD (hu64 hr)) vo_eq (so_N 0 (pv 0)) (so_E se_int) (nomark _)) (sss_one (ss_set 3 (se_call tk' (fb_outgoing T) (hr.mono (by omega)) (by rfl) (sa_cons (so_N 1 (pv 1)) (sa_cons (so_E se_int) sa_nil))) sc_L_door.nd rfl (Or.inl rfl) (by decide) (by rfl) (.inl rfl))) (sss_one (ss_if (st_cmp (op_eqD (hu64 hr)) vo_eq (so_N 0 (pv 0)) (so_E se_int) (nomark _)) (sss_one (ss_set 3 (se_call tk' (fb_phases T) (hr.mono (by omega)) (by rfl) (sa_cons (so_N 1 (pv 1)) (sa_cons (so_E se_int) sa_nil))) sc_L_door.nd rfl (Or.inl rfl) (by decide) (by rfl) (.inl rfl))) (sss_one (ss_set 3 (se_call tk' (fb_taken_before T) (hr.mono (by omega)) (by rfl) (sa_cons (so_N 1 (pv 1)) (sa_cons (so_E se_int) (sa_cons (so_E se_int) sa_nil)))) sc_L_door.nd rfl (Or.inl rfl) (by decide) (by rfl) (.inl rfl)))))))))))) (byCls_ok (by decide) (USsC.cons (fun y a C dd oe pn' hy hC hz hf => by obtain rfl : C = aBadThing := addr_of T.m_BadThing hy hC; exact (uss_one (us_ret (su_tup (sus_cons ze_fs (su_C pe_str fun _ => rep_str) (sus_cons ze_fs (su_xf T.g_BadThing T.n_BadThing_part hz hf (pv 2)) sus_nil)))))) USsC.nil)))
  (sss_one (ss_ret (se_tup (sv_cons se_str (sv_cons (se_FzN 3 (pv 3)) sv_nil))))))
/-! ### _law_same -/
abbrev s_L_same : Stmt := tS 74
theorem sc_L_same : FnScope ["told", "due"] ["told", "due"] (defScope s_L_same) := ⟨rfl, rfl, rfl, by decide +kernel, rfl, by decide +kernel, by decide +kernel⟩
noncomputable def m_L_same : MS := mRet (mAndV (mOp (pIsi "bool") (oCons (oN 0) oNil)) (mOp (pEq false) (oCons (oN 0) (oCons (oN 1) oNil))))
noncomputable def C_L_same : List PV → CR := runB 2 2 [0, 1] m_L_same
theorem fb_L_same (T : Tx P w K mg base aBadThing aRateError) : FB P w K mg base 1 "_law_same" 2 C_L_same := by
  obtain ⟨f, fd, F, g, b⟩ := T.f_L_same
  exact fb_of (N := ["told", "due"]) (ps := ["told", "due"]) (pn := [0, 1]) (m := m_L_same) (k := 0) F sc_L_same g b fun cdv A outer s H E hr => (sss_one (ss_ret (se_and (se_isi kit_bool (by rfl) T.b_isinstance (by rfl) T.b_bool bt_bool (so_N 0 (pv 0))) (se_one (se_cmp (op_eqD (hu64 hr)) vo_eq (so_N 0 (pv 0)) (so_N 1 (pv 1)) (nomark _))))))
/-! ### _law_kinds -/
abbrev s_L_kinds : Stmt := tS 75
theorem sc_L_kinds : FnScope ["d", "graph", "k", "block", "low", "high", "thing", "row", "names", "name"] ["d", "graph"] (defScope s_L_kinds) := ⟨rfl, rfl, rfl, by decide +kernel, rfl, by decide +kernel, by decide +kernel⟩
noncomputable def m_L_kinds : MS := mSeq (mAsg (mTup (vCons (mFz (mOp pSub (oCons (oE (mCallN 2 C_L_draw (oCons (oN 0) (oCons (oE (mC (.int 5))) (oNil))))) (oCons (oE (mC (.int 2))) oNil)))) (vCons (mFz (mOp pAdd (oCons (oE (mC (.int 2))) (oCons (oE (mCallN 2 C_L_draw (oCons (oN 0) (oCons (oE (mC (.int 5))) (oNil))))) oNil)))) (vNil)))) (tN [4, 5]))
  (mSeq (mAsg (mCallN 2 C_L_pick (oCons (oN 0) (oCons (oE (mLst (vCons (mFzN 4) (vCons (mFz (mOp pSub (oCons (oN 4) (oCons (oE (mC (.int 1))) oNil)))) (vCons (mFzN 5) (vCons (mFz (mOp pAdd (oCons (oN 5) (oCons (oE (mC (.int 1))) oNil)))) (vCons (mC (.int 2)) (vCons (mC (.bl true)) (vCons (mC (.bl false)) (vCons (mC .non) (vCons (mC (.str "2")) (vCons (mTup (vCons (mC (.int 2)) (vNil))) (vNil))))))))))))) (oNil)))) (t1 6))
  (mSeq (mIf (mNot (mT (mCallN 2 C_L_same (oCons (oE (mCallN 3 C_whole (oCons (oN 6) (oCons (oN 4) (oCons (oN 5) (oNil)))))) (oCons (oE (mCallN 3 C_L_in (oCons (oN 6) (oCons (oN 4) (oCons (oN 5) (oNil)))))) (oNil)))))) (mRet (mC (.bl false))) (mNx))
  (mSeq (mAsg (mCallN 3 C_L_row_spoilt (oCons (oN 0) (oCons (oE (mOp pTuple (oCons (oE (mComp (oCons (oE (mCallN 2 C_L_draw (oCons (oN 0) (oCons (oE (mC (.int 4))) (oNil))))) oNil) itRng1 (t1 2) (mYes) (mFz (mOp pAdd (oCons (oN 4) (oCons (oE (mCallN 2 C_L_draw (oCons (oN 0) (oCons (oE (mC (.int 4))) (oNil))))) oNil)))) [2])) (oNil)))) (oCons (oN 5) (oNil))))) (t1 7))
  (mSeq (mIf (mNot (mT (mCallN 2 C_L_same (oCons (oE (mCallN 3 C_is_numbers (oCons (oN 7) (oCons (oN 4) (oCons (oN 5) (oNil)))))) (oCons (oE (mCallN 5 C_L_row_in (oCons (oN 7) (oCons (oN 4) (oCons (oN 5) (oCons (oE (mC (.int 0))) (oCons (oE (mC (.int 9))) (oNil)))))))) (oNil)))))) (mRet (mC (.bl false))) (mNx))
  (mSeq (mAsg (mComp (oCons (oE (mOp pIx (oCons (oN 1) (oCons (oE (mC (.int 0))) oNil)))) oNil) itSeq (t1 3) (mYes) (mFz (mOp pIx (oCons (oN 3) (oCons (oE (mC (.int 0))) oNil)))) [3]) (t1 8))
  (mSeq (mAsg (mCallN 2 C_L_name_spoilt (oCons (oN 0) (oCons (oN 8) (oNil)))) (t1 9))
  (mSeq (mIf (mNot (mT (mCallN 2 C_L_same (oCons (oE (mCallN 1 C_is_name (oCons (oN 9) (oNil)))) (oCons (oE (mCallN 1 C_L_named (oCons (oN 9) (oNil)))) (oNil)))))) (mRet (mC (.bl false))) (mNx))
  (mSeq (mAsg (mCallN 3 C_L_block_spoilt (oCons (oN 0) (oCons (oE (mOp pIx (oCons (oE (mOp pIx (oCons (oN 1) (oCons (oE (mC (.int 0))) oNil)))) (oCons (oE (mC (.int 0))) oNil)))) (oCons (oN 8) (oNil))))) (t1 3))
  (mRet (mCallN 2 C_L_same (oCons (oE (mCallN 1 C_is_block (oCons (oN 3) (oNil)))) (oCons (oE (mCallN 1 C_L_block_due (oCons (oN 3) (oNil)))) (oNil)))))))))))))
noncomputable def C_L_kinds : List PV → CR := runB 10 2 [0, 1] m_L_kinds
theorem fb_L_kinds (T : Tx P w K mg base aBadThing aRateError) : FB P w K mg base 5 "_law_kinds" 2 C_L_kinds := by
  obtain ⟨f, fd, F, g, b⟩ := T.f_L_kinds
  exact fb_of (N := ["d", "graph", "k", "block", "low", "high", "thing", "row", "names", "name"]) (ps := ["d", "graph"]) (pn := [0, 1]) (m := m_L_kinds) (k := 4) F sc_L_kinds g b fun cdv A outer s H E hr => (sss_cons (ss_asg (se_tup (sv_cons (se_fz (se_op2 op_sub vo_sub (so_E (se_call bx_tk (fb_L_draw T) (hr.mono (by omega)) (by rfl) (sa_cons (so_N 0 (pv 0)) (sa_cons (so_E se_int) sa_nil)))) (so_E se_int))) (sv_cons (se_fz (se_op2 op_addAll vo_add (so_E se_int) (so_E (se_call bx_tk (fb_L_draw T) (hr.mono (by omega)) (by rfl) (sa_cons (so_N 0 (pv 0)) (sa_cons (so_E se_int) sa_nil)))))) sv_nil))) (tg_tup rfl (PNs.cons (pg_name (i := 4) sc_L_kinds.nd rfl (Or.inr rfl)) (PNs.cons (pg_name (i := 5) sc_L_kinds.nd rfl (Or.inl rfl)) PNs.nil rfl) rfl) rfl rfl) (by decide) (by rfl) (by rfl) (by rfl))
  (sss_cons (ss_set 6 (se_call bx_tk (fb_L_pick T) (hr.mono (by omega)) (by rfl) (sa_cons (so_N 0 (pv 0)) (sa_cons (so_E (se_lst (sv_cons (se_FzN 4 (pv 4)) (sv_cons (se_fz (se_op2 op_sub vo_sub (so_N 4 (pv 4)) (so_E se_int))) (sv_cons (se_FzN 5 (pv 5)) (sv_cons (se_fz (se_op2 op_addAll vo_add (so_N 5 (pv 5)) (so_E se_int))) (sv_cons se_int (sv_cons se_bl (sv_cons se_bl (sv_cons se_non (sv_cons se_str (sv_cons (se_tup (sv_cons se_int sv_nil)) sv_nil)))))))))))) sa_nil))) sc_L_kinds.nd rfl (Or.inl rfl) (by decide) (by rfl) (.inl rfl))
  (sss_cons (ss_if (st_not (st_val (se_call bx_tk (fb_L_same T) (hr.mono (by omega)) (by rfl) (sa_cons (so_E (se_call bx_tk (fb_whole T) (hr.mono (by omega)) (by rfl) (sa_cons (so_N 6 (pv 6)) (sa_cons (so_N 4 (pv 4)) (sa_cons (so_N 5 (pv 5)) sa_nil))))) (sa_cons (so_E (se_call bx_tk (fb_L_in T) (hr.mono (by omega)) (by rfl) (sa_cons (so_N 6 (pv 6)) (sa_cons (so_N 4 (pv 4)) (sa_cons (so_N 5 (pv 5)) sa_nil))))) sa_nil))))) (sss_one (ss_ret se_bl)) sss_nil)
  (sss_cons (ss_set 7 (se_call bx_tk (fb_L_row_spoilt T) (hr.mono (by omega)) (by rfl) (sa_cons (so_N 0 (pv 0)) (sa_cons (so_E (se_bty call_tuple_of vo_tuple (by rfl) T.b_tuple bt_tuple (sa_cons (so_E (se_comp rfl sc_L_kinds.nd (si_rng1 (so_E (se_call bx_tk (fb_L_draw T) (hr.mono (by omega)) (by rfl) (sa_cons (so_N 0 (pv 0)) (sa_cons (so_E se_int) sa_nil)))) (by rfl) T.b_range (by rfl) (by rfl)) vi_rng1 (own := [("k", 2)]) (blkOk_by (N := ["d", "graph", "k", "block", "low", "high", "thing", "row", "names", "name"]) (sc := defScope s_L_kinds) (by decide +kernel)) (tgb_name 2 (fun _ _ _ _ _ => (pg_name (i := 2) sc_L_kinds.nd rfl (Or.inl rfl)))) (by decide) (fun _ _ _ _ _ => sif_nil) (fun _ _ _ _ _ => (se_fz (se_op2 op_addAll vo_add (so_N 4 (pv 4)) (so_E (se_call takes0 (fb_L_draw T) (hr.mono (by omega)) (by rfl) (sa_cons (so_N 0 (pv 0)) (sa_cons (so_E se_int) sa_nil))))))))) sa_nil))) (sa_cons (so_N 5 (pv 5)) sa_nil)))) sc_L_kinds.nd rfl (Or.inl rfl) (by decide) (by rfl) (.inl rfl))
  (sss_cons (ss_if (st_not (st_val (se_call bx_tk (fb_L_same T) (hr.mono (by omega)) (by rfl) (sa_cons (so_E (se_call bx_tk (fb_is_numbers T) (hr.mono (by omega)) (by rfl) (sa_cons (so_N 7 (pv 7)) (sa_cons (so_N 4 (pv 4)) (sa_cons (so_N 5 (pv 5)) sa_nil))))) (sa_cons (so_E (se_call bx_tk (fb_L_row_in T) (hr.mono (by omega)) (by rfl) (sa_cons (so_N 7 (pv 7)) (sa_cons (so_N 4 (pv 4)) (sa_cons (so_N 5 (pv 5)) (sa_cons (so_E se_int) (sa_cons (so_E se_int) sa_nil))))))) sa_nil))))) (sss_one (ss_ret se_bl)) sss_nil)
  (sss_cons (ss_setLc 8 rfl sc_L_kinds.nd rfl rfl (by decide) (sw_true rfl rfl rfl (by decide +kernel)) (si_seq (so_E (se_ix ix_seq vo_ix (so_N 1 (pv 1)) (so_E se_int) (by intro _ _; rfl)))) vi_seq (own := [("block", 3)]) (blkOk_by (N := ["d", "graph", "k", "block", "low", "high", "thing", "row", "names", "name"]) (sc := defScope s_L_kinds) (by decide +kernel)) (tgb_name 3 (fun _ _ _ _ _ => (pg_name (i := 3) sc_L_kinds.nd rfl (Or.inl rfl)))) (by decide) (fun _ _ _ _ _ => sif_nil) (fun _ _ _ _ _ => (se_fz (se_ix ix_seq vo_ix (so_N 3 (pv 3)) (so_E se_int) (by intro _ _; rfl)))))
  (sss_cons (ss_set 9 (se_call bx_tk (fb_L_name_spoilt T) (hr.mono (by omega)) (by rfl) (sa_cons (so_N 0 (pv 0)) (sa_cons (so_N 8 (pv 8)) sa_nil))) sc_L_kinds.nd rfl (Or.inl rfl) (by decide) (by rfl) (.inl rfl))
  (sss_cons (ss_if (st_not (st_val (se_call bx_tk (fb_L_same T) (hr.mono (by omega)) (by rfl) (sa_cons (so_E (se_call bx_tk (fb_is_name T) (hr.mono (by omega)) (by rfl) (sa_cons (so_N 9 (pv 9)) sa_nil))) (sa_cons (so_E (se_call bx_tk (fb_L_named T) (hr.mono (by omega)) (by rfl) (sa_cons (so_N 9 (pv 9)) sa_nil))) sa_nil))))) (sss_one (ss_ret se_bl)) sss_nil)
  (sss_cons (ss_set 3 (se_call bx_tk (fb_L_block_spoilt T) (hr.mono (by omega)) (by rfl) (sa_cons (so_N 0 (pv 0)) (sa_cons (so_E (se_ix ix_seq vo_ix (so_E (se_ix ix_seq vo_ix (so_N 1 (pv 1)) (so_E se_int) (by intro _ _; rfl))) (so_E se_int) (by intro _ _; rfl))) (sa_cons (so_N 8 (pv 8)) sa_nil)))) sc_L_kinds.nd rfl (Or.inl rfl) (by decide) (by rfl) (.inl rfl))
  (sss_one (ss_ret (se_call bx_tk (fb_L_same T) (hr.mono (by omega)) (by rfl) (sa_cons (so_E (se_call bx_tk (fb_is_block T) (hr.mono (by omega)) (by rfl) (sa_cons (so_N 3 (pv 3)) sa_nil))) (sa_cons (so_E (se_call bx_tk (fb_L_block_due T) (hr.mono (by omega)) (by rfl) (sa_cons (so_N 3 (pv 3)) sa_nil))) sa_nil))))))))))))))
/-! ### _law_graphs -/
abbrev s_L_graphs : Stmt := tS 76
theorem sc_L_graphs : FnScope ["d", "graph", "thing", "due", "which", "told"] ["d", "graph"] (defScope s_L_graphs) := ⟨rfl, rfl, rfl, by decide +kernel, rfl, by decide +kernel, by decide +kernel⟩
noncomputable def m_L_graphs : MS := mSeq (mAsg (mCallN 2 C_L_graph_spoilt (oCons (oN 0) (oCons (oN 1) (oNil)))) (t1 2))
  (mSeq (mAsg (mCallN 1 C_L_graph_due (oCons (oN 2) (oNil))) (t1 3))
  (mSeq (mFor [0, 1] (oCons (oE (mTup (vCons (mC (.int 0)) (vCons (mFz (mOp pAdd (oCons (oE (mC (.int 1))) (oCons (oE (mCallN 2 C_L_draw (oCons (oN 0) (oCons (oE (mC (.int 4))) (oNil))))) oNil)))) (vNil))))) oNil) itSeq (t1 4) (mSeq (mAsg (mCallN 2 C_L_door (oCons (oN 4) (oCons (oN 2) (oNil)))) (t1 5))
  (mSeq (mIf (mAnd (mNot (mT (mN 3))) (mT (mOp (pEq true) (oCons (oN 5) (oCons (oE (mTup (vCons (mC (.str "refused")) (vCons (mC (.str "graph")) (vNil))))) oNil))))) (mRet (mC (.bl false))) (mNx))
  (mSeq (mIf (mAnd (mT (mN 3)) (mT (mOp (pEq true) (oCons (oE (mOp pIx (oCons (oN 5) (oCons (oE (mC (.int 0))) oNil)))) (oCons (oE (mC (.str "told"))) oNil))))) (mRet (mC (.bl false))) (mNx))
  (mIf (mAnd (mT (mN 3)) (mAnd (mT (mOp (pEq false) (oCons (oN 4) (oCons (oE (mC (.int 0))) oNil)))) (mT (mOp (pIsN true) (oCons (oE (mOp pIx (oCons (oN 5) (oCons (oE (mC (.int 1))) oNil)))) (oCons (oE (mC .non)) oNil)))))) (mRet (mC (.bl false))) (mNx))))))
  (mRet (mCallN 2 C_L_kinds (oCons (oN 0) (oCons (oN 1) (oNil)))))))
noncomputable def C_L_graphs : List PV → CR := runB 6 2 [0, 1] m_L_graphs
theorem fb_L_graphs (T : Tx P w K mg base aBadThing aRateError) : FB P w K mg base 9 "_law_graphs" 2 C_L_graphs := by
  obtain ⟨f, fd, F, g, b⟩ := T.f_L_graphs
  exact fb_of (N := ["d", "graph", "thing", "due", "which", "told"]) (ps := ["d", "graph"]) (pn := [0, 1]) (m := m_L_graphs) (k := 8) F sc_L_graphs g b fun cdv A outer s H E hr => (sss_cons (ss_set 2 (se_call bx_tk (fb_L_graph_spoilt T) (hr.mono (by omega)) (by rfl) (sa_cons (so_N 0 (pv 0)) (sa_cons (so_N 1 (pv 1)) sa_nil))) sc_L_graphs.nd rfl (Or.inl rfl) (by decide) (by rfl) (.inl rfl))
  (sss_cons (ss_set 3 (se_call bx_tk (fb_L_graph_due T) (hr.mono (by omega)) (by rfl) (sa_cons (so_N 2 (pv 2)) sa_nil)) sc_L_graphs.nd rfl (Or.inl rfl) (by decide) (by rfl) (.inl rfl))
  (sss_cons (ss_for bx_po rfl (si_seq (so_E (se_tup (sv_cons se_int (sv_cons (se_fz (se_op2 op_addAll vo_add (so_E se_int) (so_E (se_call bx_tk (fb_L_draw T) (hr.mono (by omega)) (by rfl) (sa_cons (so_N 0 (pv 0)) (sa_cons (so_E se_int) sa_nil)))))) sv_nil))))) vi_seq (tg_name 4 (pg_name (i := 4) sc_L_graphs.nd rfl (Or.inl rfl))) (by decide) (by decide) (sss_cons (ss_set 5 (se_call bx_tk (fb_L_door T) (hr.mono (by omega)) (by rfl) (sa_cons (so_N 4 (pv 4)) (sa_cons (so_N 2 (pv 2)) sa_nil))) sc_L_graphs.nd rfl (Or.inl rfl) (by decide) (by rfl) (.inl rfl))
  (sss_cons (ss_if (st_bool (sw_and (st_not (st_val (se_N 3 (pv 3)))) (sw_and1 (st_cmp (op_neD (hu64 hr)) vo_ne (so_N 5 (pv 5)) (so_E (se_tup (sv_cons se_str (sv_cons se_str sv_nil)))) (nomark _))))) (sss_one (ss_ret se_bl)) sss_nil)
  (sss_cons (ss_if (st_bool (sw_and (st_val (se_N 3 (pv 3))) (sw_and1 (st_cmp (op_neD (hu64 hr)) vo_ne (so_E (se_ix ix_seq vo_ix (so_N 5 (pv 5)) (so_E se_int) (by intro _ _; rfl))) (so_E se_str) (nomark _))))) (sss_one (ss_ret se_bl)) sss_nil)
  (sss_one (ss_if (st_bool (sw_and (st_val (se_N 3 (pv 3))) (sw_and (st_cmp (op_eqD (hu64 hr)) vo_eq (so_N 4 (pv 4)) (so_E se_int) (nomark _)) (sw_and1 (st_cmp op_notN vo_notN (so_E (se_ix ix_seq vo_ix (so_N 5 (pv 5)) (so_E se_int) (by intro _ _; rfl))) (so_E se_non) (nomark _)))))) (sss_one (ss_ret se_bl)) sss_nil))))))
  (sss_one (ss_ret (se_call bx_tk (fb_L_kinds T) (hr.mono (by omega)) (by rfl) (sa_cons (so_N 0 (pv 0)) (sa_cons (so_N 1 (pv 1)) sa_nil))))))))
/-! ### _law_number -/
abbrev s_L_number : Stmt := tS 54
theorem sc_L_number : FnScope ["d", "kind"] ["d"] (defScope s_L_number) := ⟨rfl, rfl, rfl, by decide +kernel, rfl, by decide +kernel, by decide +kernel⟩
noncomputable def m_L_number : MS := mSeq (mAsg (mCallN 2 C_L_draw (oCons (oN 0) (oCons (oE (mC (.int 6))) (oNil)))) (t1 1))
  (mSeq (mIf (mT (mOp (pEq false) (oCons (oN 1) (oCons (oE (mC (.int 0))) oNil)))) (mRet (mOp pSub (oCons (oE (mC (.int 1000000))) (oCons (oE (mCallN 2 C_L_draw (oCons (oN 0) (oCons (oE (mC (.int 3))) (oNil))))) oNil)))) (mNx))
  (mSeq (mIf (mT (mOp (pEq false) (oCons (oN 1) (oCons (oE (mC (.int 1))) oNil)))) (mRet (mOp pSub (oCons (oE (mCallN 2 C_L_draw (oCons (oN 0) (oCons (oE (mC (.int 3))) (oNil))))) (oCons (oE (mC (.int 1000000))) oNil)))) (mNx))
  (mSeq (mIf (mT (mOp (pEq false) (oCons (oN 1) (oCons (oE (mC (.int 2))) oNil)))) (mRet (mOp pSub (oCons (oE (mCallN 2 C_L_draw (oCons (oN 0) (oCons (oE (mC (.int 2000001))) (oNil))))) (oCons (oE (mC (.int 1000000))) oNil)))) (mNx))
  (mRet (mOp pSub (oCons (oE (mCallN 2 C_L_draw (oCons (oN 0) (oCons (oE (mC (.int 81))) (oNil))))) (oCons (oE (mC (.int 40))) oNil)))))))
noncomputable def C_L_number : List PV → CR := runB 2 1 [0] m_L_number
theorem fb_L_number (T : Tx P w K mg base aBadThing aRateError) : FB P w K mg base 2 "_law_number" 1 C_L_number := by
  obtain ⟨f, fd, F, g, b⟩ := T.f_L_number
  exact fb_of (N := ["d", "kind"]) (ps := ["d"]) (pn := [0]) (m := m_L_number) (k := 1) F sc_L_number g b fun cdv A outer s H E hr => (sss_cons (ss_set 1 (se_call bx_tk (fb_L_draw T) (hr.mono (by omega)) (by rfl) (sa_cons (so_N 0 (pv 0)) (sa_cons (so_E se_int) sa_nil))) sc_L_number.nd rfl (Or.inl rfl) (by decide) (by rfl) (.inl rfl))
  (sss_cons (ss_if (st_cmp (op_eqD (hu64 hr)) vo_eq (so_N 1 (pv 1)) (so_E se_int) (nomark _)) (sss_one (ss_ret (se_op2 op_sub vo_sub (so_E se_int) (so_E (se_call bx_tk (fb_L_draw T) (hr.mono (by omega)) (by rfl) (sa_cons (so_N 0 (pv 0)) (sa_cons (so_E se_int) sa_nil))))))) sss_nil)
  (sss_cons (ss_if (st_cmp (op_eqD (hu64 hr)) vo_eq (so_N 1 (pv 1)) (so_E se_int) (nomark _)) (sss_one (ss_ret (se_op2 op_sub vo_sub (so_E (se_call bx_tk (fb_L_draw T) (hr.mono (by omega)) (by rfl) (sa_cons (so_N 0 (pv 0)) (sa_cons (so_E se_int) sa_nil)))) (so_E se_int)))) sss_nil)
  (sss_cons (ss_if (st_cmp (op_eqD (hu64 hr)) vo_eq (so_N 1 (pv 1)) (so_E se_int) (nomark _)) (sss_one (ss_ret (se_op2 op_sub vo_sub (so_E (se_call bx_tk (fb_L_draw T) (hr.mono (by omega)) (by rfl) (sa_cons (so_N 0 (pv 0)) (sa_cons (so_E se_int) sa_nil)))) (so_E se_int)))) sss_nil)
  (sss_one (ss_ret (se_op2 op_sub vo_sub (so_E (se_call bx_tk (fb_L_draw T) (hr.mono (by omega)) (by rfl) (sa_cons (so_N 0 (pv 0)) (sa_cons (so_E se_int) sa_nil)))) (so_E se_int))))))))
/-! ### given_before -/
abbrev s_given_before : Stmt := tS 37
theorem sc_given_before : FnScope ["graph", "queue", "firing"] ["graph", "queue", "firing"] (defScope s_given_before) := ⟨rfl, rfl, rfl, by decide +kernel, rfl, by decide +kernel, by decide +kernel⟩
noncomputable def m_given_before : MS := mSeq (mDrop (mCallN 1 C_check_graph (oCons (oN 0) (oNil))))
  (mSeq (mDrop (mCallN 2 C_check_queue (oCons (oN 0) (oCons (oN 1) (oNil)))))
  (mSeq (mIf (mNot (mT (mCallN 3 C_whole (oCons (oN 2) (oCons (oE (mOp pNeg (oCons (oE (mC (.int 1000000))) oNil))) (oCons (oE (mC (.int 1000000))) (oNil))))))) (mRaise (mMk "BadThing" ["part"] (vCons (mC (.str "firing")) (vNil)))) (mNx))
  (mRet (mCallN 2 C_sum_before (oCons (oE (mOp pIx (oCons (oE (mOp pIx (oCons (oE (mOp pIx (oCons (oN 0) (oCons (oE (mC (.int 1))) oNil)))) (oCons (oN 1) oNil)))) (oCons (oE (mC (.int 1))) oNil)))) (oCons (oN 2) (oNil)))))))
noncomputable def C_given_before : List PV → CR := runB 3 3 [0, 1, 2] m_given_before
theorem fb_given_before (T : Tx P w K mg base aBadThing aRateError) : FB P w K mg base 7 "given_before" 3 C_given_before := by
  obtain ⟨f, fd, F, g, b⟩ := T.f_given_before
  exact fb_of (N := ["graph", "queue", "firing"]) (ps := ["graph", "queue", "firing"]) (pn := [0, 1, 2]) (m := m_given_before) (k := 6) F sc_given_before g b fun cdv A outer s H E hr => (sss_cons (ss_expr (se_call bx_tk (fb_check_graph T) (hr.mono (by omega)) (by rfl) (sa_cons (so_N 0 (pv 0)) sa_nil)) (by rfl))
  (sss_cons (ss_expr (se_call bx_tk (fb_check_queue T) (hr.mono (by omega)) (by rfl) (sa_cons (so_N 0 (pv 0)) (sa_cons (so_N 1 (pv 1)) sa_nil))) (by rfl))
  (sss_cons (ss_if (st_not (st_val (se_call bx_tk (fb_whole T) (hr.mono (by omega)) (by rfl) (sa_cons (so_N 2 (pv 2)) (sa_cons (so_E (se_neg (so_E (se_Gint (by rfl) T.c_FAR)))) (sa_cons (so_E (se_Gint (by rfl) T.c_FAR)) sa_nil)))))) (sss_one (ss_raise rfl bx_tk (sx_mk T.x_BadThing (hr.mono (by omega)) (by rfl) (sv_cons se_str sv_nil) (by decide)))) sss_nil)
  (sss_one (ss_ret (se_call bx_tk (fb_sum_before T) (hr.mono (by omega)) (by rfl) (sa_cons (so_E (se_ix ix_seq vo_ix (so_E (se_ix ix_seq vo_ix (so_E (se_ix ix_seq vo_ix (so_N 0 (pv 0)) (so_E se_int) (by intro _ _; rfl))) (so_N 1 (pv 1)) (by intro _ _; rfl))) (so_E se_int) (by intro _ _; rfl))) (sa_cons (so_N 2 (pv 2)) sa_nil))))))))
/-! ### firing_with -/
abbrev s_firing_with : Stmt := tS 32
theorem sc_firing_with : FnScope ["rates", "token", "share", "cycles", "rest", "phase"] ["rates", "token"] (defScope s_firing_with) := ⟨rfl, rfl, rfl, by decide +kernel, rfl, by decide +kernel, by decide +kernel⟩
noncomputable def m_firing_with : MS := mSeq (mAsg (mOp pSum (oCons (oN 0) (oNil))) (t1 2))
  (mSeq (mAsg (mOp pFdiv (oCons (oN 1) (oCons (oN 2) oNil))) (t1 3))
  (mSeq (mAsg (mOp pMod (oCons (oN 1) (oCons (oN 2) oNil))) (t1 4))
  (mSeq (mAsg (mC (.int 0)) (t1 5))
  (mSeq (mWhile (mT (mOp (pCmp pGe) (oCons (oN 4) (oCons (oE (mOp pIx (oCons (oN 0) (oCons (oN 5) oNil)))) oNil)))) (mSeq (mAsg (mOp pSub (oCons (oN 4) (oCons (oE (mOp pIx (oCons (oN 0) (oCons (oN 5) oNil)))) oNil))) (t1 4))
  (mAsg (mOp pAdd (oCons (oN 5) (oCons (oE (mC (.int 1))) oNil))) (t1 5))))
  (mRet (mOp pAdd (oCons (oE (mOp pMul2 (oCons (oN 3) (oCons (oE (mOp pLen (oCons (oN 0) (oNil)))) oNil)))) (oCons (oN 5) oNil))))))))
noncomputable def C_firing_with : List PV → CR := runB 6 2 [0, 1] m_firing_with
theorem fb_firing_with (T : Tx P w K mg base aBadThing aRateError) : FB P w K mg base 1 "firing_with" 2 C_firing_with := by
  obtain ⟨f, fd, F, g, b⟩ := T.f_firing_with
  exact fb_of (N := ["rates", "token", "share", "cycles", "rest", "phase"]) (ps := ["rates", "token"]) (pn := [0, 1]) (m := m_firing_with) (k := 0) F sc_firing_with g b fun cdv A outer s H E hr => (sss_cons (ss_set 2 (se_blt (call_sum2 rfl) vo_sum (by rfl) T.b_sum bt_sum (sa_cons (so_N 0 (pv 0)) sa_nil)) sc_firing_with.nd rfl (Or.inl rfl) (by decide) (by rfl) (.inl rfl))
  (sss_cons (ss_set 3 (se_op2 op_fdiv vo_fdiv (so_N 1 (pv 1)) (so_N 2 (pv 2))) sc_firing_with.nd rfl (Or.inl rfl) (by decide) (by rfl) (.inl rfl))
  (sss_cons (ss_set 4 (se_op2 op_mod vo_mod (so_N 1 (pv 1)) (so_N 2 (pv 2))) sc_firing_with.nd rfl (Or.inl rfl) (by decide) (by rfl) (.inl rfl))
  (sss_cons (ss_set 5 se_int sc_firing_with.nd rfl (Or.inl rfl) (by decide) (by rfl) (.inl rfl))
  (sss_cons (ss_while bx_po (st_cmp op_ge (vo_cmp pGe) (so_N 4 (pv 4)) (so_E (se_ix ix_seq vo_ix (so_N 0 (pv 0)) (so_N 5 (pv 5)) (by intro _ _; rfl))) (nomark _)) (sss_cons (ss_set 4 (se_op2 op_sub vo_sub (so_N 4 (pv 4)) (so_E (se_ix ix_seq vo_ix (so_N 0 (pv 0)) (so_N 5 (pv 5)) (by intro _ _; rfl)))) sc_firing_with.nd rfl (Or.inl rfl) (by decide) (by rfl) (.inl rfl))
  (sss_one (ss_set 5 (se_op2 op_addAll vo_add (so_N 5 (pv 5)) (so_E se_int)) sc_firing_with.nd rfl (Or.inl rfl) (by decide) (by rfl) (.inl rfl)))))
  (sss_one (ss_ret (se_op2 op_addAll vo_add (so_E (se_op2 op_mul2 vo_mul2 (so_N 3 (pv 3)) (so_E (se_blt call_len vo_len (by rfl) T.b_len bt_len (sa_cons (so_N 0 (pv 0)) sa_nil))))) (so_N 5 (pv 5))))))))))
/-! ### producer -/
abbrev s_producer : Stmt := tS 39
theorem sc_producer : FnScope ["graph", "queue", "token"] ["graph", "queue", "token"] (defScope s_producer) := ⟨rfl, rfl, rfl, by decide +kernel, rfl, by decide +kernel, by decide +kernel⟩
noncomputable def m_producer : MS := mSeq (mDrop (mCallN 1 C_check_graph (oCons (oN 0) (oNil))))
  (mSeq (mDrop (mCallN 2 C_check_queue (oCons (oN 0) (oCons (oN 1) (oNil)))))
  (mSeq (mIf (mNot (mT (mCallN 3 C_whole (oCons (oN 2) (oCons (oE (mOp pNeg (oCons (oE (mC (.int 1000000))) oNil))) (oCons (oE (mC (.int 1000000))) (oNil))))))) (mRaise (mMk "BadThing" ["part"] (vCons (mC (.str "token")) (vNil)))) (mNx))
  (mRet (mCallN 2 C_firing_with (oCons (oE (mOp pIx (oCons (oE (mOp pIx (oCons (oE (mOp pIx (oCons (oN 0) (oCons (oE (mC (.int 1))) oNil)))) (oCons (oN 1) oNil)))) (oCons (oE (mC (.int 1))) oNil)))) (oCons (oN 2) (oNil)))))))
noncomputable def C_producer : List PV → CR := runB 3 3 [0, 1, 2] m_producer
theorem fb_producer (T : Tx P w K mg base aBadThing aRateError) : FB P w K mg base 7 "producer" 3 C_producer := by
  obtain ⟨f, fd, F, g, b⟩ := T.f_producer
  exact fb_of (N := ["graph", "queue", "token"]) (ps := ["graph", "queue", "token"]) (pn := [0, 1, 2]) (m := m_producer) (k := 6) F sc_producer g b fun cdv A outer s H E hr => (sss_cons (ss_expr (se_call bx_tk (fb_check_graph T) (hr.mono (by omega)) (by rfl) (sa_cons (so_N 0 (pv 0)) sa_nil)) (by rfl))
  (sss_cons (ss_expr (se_call bx_tk (fb_check_queue T) (hr.mono (by omega)) (by rfl) (sa_cons (so_N 0 (pv 0)) (sa_cons (so_N 1 (pv 1)) sa_nil))) (by rfl))
  (sss_cons (ss_if (st_not (st_val (se_call bx_tk (fb_whole T) (hr.mono (by omega)) (by rfl) (sa_cons (so_N 2 (pv 2)) (sa_cons (so_E (se_neg (so_E (se_Gint (by rfl) T.c_FAR)))) (sa_cons (so_E (se_Gint (by rfl) T.c_FAR)) sa_nil)))))) (sss_one (ss_raise rfl bx_tk (sx_mk T.x_BadThing (hr.mono (by omega)) (by rfl) (sv_cons se_str sv_nil) (by decide)))) sss_nil)
  (sss_one (ss_ret (se_call bx_tk (fb_firing_with T) (hr.mono (by omega)) (by rfl) (sa_cons (so_E (se_ix ix_seq vo_ix (so_E (se_ix ix_seq vo_ix (so_E (se_ix ix_seq vo_ix (so_N 0 (pv 0)) (so_E se_int) (by intro _ _; rfl))) (so_N 1 (pv 1)) (by intro _ _; rfl))) (so_E se_int) (by intro _ _; rfl))) (sa_cons (so_N 2 (pv 2)) sa_nil))))))))
/-! ### _law_told -/
abbrev s_L_told : Stmt := tS 57
theorem sc_L_told : FnScope ["which", "graph", "queue", "number", "e", "told"] ["which", "graph", "queue", "number"] (defScope s_L_told) := ⟨rfl, rfl, rfl, by decide +kernel, rfl, by decide +kernel, by decide +kernel⟩
noncomputable def m_L_told : MS := mSeq (mTry (catOf [("BadThing", true)]) 4 (mIf (mT (mOp (pEq false) (oCons (oN 0) (oCons (oE (mC (.int 0))) oNil)))) (mAsg (mCallN 3 C_given_before (oCons (oN 1) (oCons (oN 2) (oCons (oN 3) (oNil))))) (t1 5)) (mIf (mT (mOp (pEq false) (oCons (oN 0) (oCons (oE (mC (.int 1))) oNil)))) (mAsg (mCallN 3 C_taken_before (oCons (oN 1) (oCons (oN 2) (oCons (oN 3) (oNil))))) (t1 5)) (mAsg (mCallN 3 C_producer (oCons (oN 1) (oCons (oN 2) (oCons (oN 3) (oNil))))) (t1 5)))) (byCls [("BadThing", fun y => uSeq (uIf (utOr (utNot (uT (uC (.bl true)))) (utNot (uT (uC (.bl true))))) (uRet (uTup (uCons (uC (.str "odd")) (uCons (uC (.int 0)) (uNil))))) (uNx)) (uRet (uTup (uCons (uC (.str "refused")) (uCons ((fun _ => y.fs.lookup ("part" : Str))) (uNil))))))]))
  (mRet (mTup (vCons (mC (.str "told")) (vCons (mFzN 5) (vNil)))))
noncomputable def C_L_told : List PV → CR := runB 6 4 [0, 1, 2, 3] m_L_told
theorem fb_L_told (T : Tx P w K mg base aBadThing aRateError) : FB P w K mg base 8 "_law_told" 4 C_L_told := by
  obtain ⟨f, fd, F, g, b⟩ := T.f_L_told
  exact fb_of (N := ["which", "graph", "queue", "number", "e", "told"]) (ps := ["which", "graph", "queue", "number"]) (pn := [0, 1, 2, 3]) (m := m_L_told) (k := 7) F sc_L_told g b fun cdv A outer s H E hr => (sss_cons (ss_try 4 rfl rfl sc_L_told.nd rfl rfl ⟨by rfl, by decide, Or.inl T.m_BadThing⟩ bx_tk (by decide) (cat_ok (CatC.cons T.m_BadThing T.e_BadThing_BadThing CatC.nil)) (fun W pn' xe tk' po' => (sss_one (ss_if (st_cmp (op_eqD (hu64 hr)) vo_eq (so_N 0 (pv 0)) (so_E se_int) (nomark _)) (sss_one (ss_set 5 (se_call tk' (fb_given_before T) (hr.mono (by omega)) (by rfl) (sa_cons (so_N 1 (pv 1)) (sa_cons (so_N 2 (pv 2)) (sa_cons (so_N 3 (pv 3)) sa_nil)))) sc_L_told.nd rfl (Or.inl rfl) (by decide) (by rfl) (.inl rfl))) (sss_one (ss_if (st_cmp (op_eqD (hu64 hr)) vo_eq (so_N 0 (pv 0)) (so_E se_int) (nomark _)) (sss_one (ss_set 5 (se_call tk' (fb_taken_before T) (hr.mono (by omega)) (by rfl) (sa_cons (so_N 1 (pv 1)) (sa_cons (so_N 2 (pv 2)) (sa_cons (so_N 3 (pv 3)) sa_nil)))) sc_L_told.nd rfl (Or.inl rfl) (by decide) (by rfl) (.inl rfl))) (sss_one (ss_set 5 (se_call tk' (fb_producer T) (hr.mono (by omega)) (by rfl) (sa_cons (so_N 1 (pv 1)) (sa_cons (so_N 2 (pv 2)) (sa_cons (so_N 3 (pv 3)) sa_nil)))) sc_L_told.nd rfl (Or.inl rfl) (by decide) (by rfl) (.inl rfl)))))))) (byCls_ok (by decide) (USsC.cons (fun y a C dd oe pn' hy hC hz hf => by obtain rfl : C = aBadThing := addr_of T.m_BadThing hy hC; exact (uss_cons ze_fs (us_if ze_fs (sut_bool (suw_or ze_fs (sut_not (su_test (su_isX T.i_BadThing hz hf (pv 4) (by rfl) T.b_isinstance (pe_glob (v := .ref aRateError) (by rfl) T.m_RateError rfl) (fun _ r => r) T.k_BadThing_RateError))) (suw_or1 (sut_not (su_test (su_isX T.i_BadThing hz hf (pv 4) (by rfl) T.b_isinstance (pe_bltn (v := .ty "ValueError") (by rfl) T.b_ValueError bt_ve rfl) (fun _ r => r) T.k_BadThing_ValueError)))))) (uss_one (us_ret (su_tup (sus_cons ze_fs (su_C pe_str fun _ => rep_str) (sus_cons ze_fs (su_C pe_int fun _ => rep_int) sus_nil))))) uss_nil) (uss_one (us_ret (su_tup (sus_cons ze_fs (su_C pe_str fun _ => rep_str) (sus_cons ze_fs (su_xf T.g_BadThing T.n_BadThing_part hz hf (pv 4)) sus_nil))))))) USsC.nil)))
  (sss_one (ss_ret (se_tup (sv_cons se_str (sv_cons (se_FzN 5 (pv 5)) sv_nil))))))
/-! ### _law_before -/
abbrev s_L_before : Stmt := tS 51
theorem sc_L_before : FnScope ["rates", "firing", "total", "k"] ["rates", "firing"] (defScope s_L_before) := ⟨rfl, rfl, rfl, by decide +kernel, rfl, by decide +kernel, by decide +kernel⟩
noncomputable def m_L_before : MS := mSeq (mAsg (mC (.int 0)) (t1 2))
  (mSeq (mIf (mT (mOp (pCmp pGe) (oCons (oN 1) (oCons (oE (mC (.int 0))) oNil)))) (mSeq (mFor [0, 1] (oCons (oN 1) oNil) itRng1 (t1 3) (mAsg (mOp pAdd (oCons (oN 2) (oCons (oE (mOp pIx (oCons (oN 0) (oCons (oE (mOp pMod (oCons (oE (mOp pInt1 (oCons (oN 3) (oNil)))) (oCons (oE (mOp pLen (oCons (oN 0) (oNil)))) oNil)))) oNil)))) oNil))) (t1 2)))
  (mRet (mN 2))) (mNx))
  (mSeq (mFor [0, 1] (oCons (oE (mOp pNeg (oCons (oN 1) oNil))) oNil) itRng1 (t1 3) (mAsg (mOp pSub (oCons (oN 2) (oCons (oE (mOp pIx (oCons (oN 0) (oCons (oE (mOp pMod (oCons (oE (mOp pInt1 (oCons (oE (mOp pSub (oCons (oE (mOp pNeg (oCons (oE (mC (.int 1))) oNil))) (oCons (oN 3) oNil)))) (oNil)))) (oCons (oE (mOp pLen (oCons (oN 0) (oNil)))) oNil)))) oNil)))) oNil))) (t1 2)))
  (mRet (mN 2))))
noncomputable def C_L_before : List PV → CR := runB 4 2 [0, 1] m_L_before
theorem fb_L_before (T : Tx P w K mg base aBadThing aRateError) : FB P w K mg base 1 "_law_before" 2 C_L_before := by
  obtain ⟨f, fd, F, g, b⟩ := T.f_L_before
  exact fb_of (N := ["rates", "firing", "total", "k"]) (ps := ["rates", "firing"]) (pn := [0, 1]) (m := m_L_before) (k := 0) F sc_L_before g b fun cdv A outer s H E hr => (sss_cons (ss_set 2 se_int sc_L_before.nd rfl (Or.inl rfl) (by decide) (by rfl) (.inl rfl))
  (sss_cons (ss_if (st_cmp op_ge (vo_cmp pGe) (so_N 1 (pv 1)) (so_E se_int) (nomark _)) (sss_cons (ss_for bx_po rfl (si_rng1 (so_N 1 (pv 1)) (by rfl) T.b_range (by rfl) (by rfl)) vi_rng1 (tg_name 3 (pg_name (i := 3) sc_L_before.nd rfl (Or.inl rfl))) (by decide) (by decide) (sss_one (ss_set 2 (se_op2 op_addAll vo_add (so_N 2 (pv 2)) (so_E (se_ix ix_seq vo_ix (so_N 0 (pv 0)) (so_E (se_op2 op_mod vo_mod (so_E (se_bty (CallR.or call_int1 call_int_str) vo_int1 (by rfl) T.b_int bt_int (sa_cons (so_N 3 (pv 3)) sa_nil))) (so_E (se_blt call_len vo_len (by rfl) T.b_len bt_len (sa_cons (so_N 0 (pv 0)) sa_nil))))) (by intro _ _; rfl)))) sc_L_before.nd rfl (Or.inl rfl) (by decide) (by rfl) (.inl rfl))))
  (sss_one (ss_ret (se_N 2 (pv 2))))) sss_nil)
  (sss_cons (ss_for bx_po rfl (si_rng1 (so_E (se_neg (so_N 1 (pv 1)))) (by rfl) T.b_range (by rfl) (by rfl)) vi_rng1 (tg_name 3 (pg_name (i := 3) sc_L_before.nd rfl (Or.inl rfl))) (by decide) (by decide) (sss_one (ss_set 2 (se_op2 op_sub vo_sub (so_N 2 (pv 2)) (so_E (se_ix ix_seq vo_ix (so_N 0 (pv 0)) (so_E (se_op2 op_mod vo_mod (so_E (se_bty (CallR.or call_int1 call_int_str) vo_int1 (by rfl) T.b_int bt_int (sa_cons (so_E (se_op2 op_sub vo_sub (so_E (se_neg (so_E se_int))) (so_N 3 (pv 3)))) sa_nil))) (so_E (se_blt call_len vo_len (by rfl) T.b_len bt_len (sa_cons (so_N 0 (pv 0)) sa_nil))))) (by intro _ _; rfl)))) sc_L_before.nd rfl (Or.inl rfl) (by decide) (by rfl) (.inl rfl))))
  (sss_one (ss_ret (se_N 2 (pv 2)))))))
/-! ### _law_sum -/
abbrev s_L_sum : Stmt := tS 55
theorem sc_L_sum : FnScope ["rates", "firing", "cycles"] ["rates", "firing"] (defScope s_L_sum) := ⟨rfl, rfl, rfl, by decide +kernel, rfl, by decide +kernel, by decide +kernel⟩
noncomputable def m_L_sum : MS := mSeq (mIf (mT (mChain pLe pLe (oE (mOp pNeg (oCons (oE (mC (.int 60))) oNil))) (oN 1) (oE (mC (.int 60))))) (mRet (mCallN 2 C_L_before (oCons (oN 0) (oCons (oN 1) (oNil))))) (mNx))
  (mSeq (mAsg (mOp pFdiv (oCons (oN 1) (oCons (oE (mOp pLen (oCons (oN 0) (oNil)))) oNil))) (t1 2))
  (mRet (mOp pAdd (oCons (oE (mOp pMul2 (oCons (oN 2) (oCons (oE (mOp pSum (oCons (oN 0) (oNil)))) oNil)))) (oCons (oE (mCallN 2 C_L_before (oCons (oN 0) (oCons (oE (mOp pSub (oCons (oN 1) (oCons (oE (mOp pMul2 (oCons (oN 2) (oCons (oE (mOp pLen (oCons (oN 0) (oNil)))) oNil)))) oNil)))) (oNil))))) oNil)))))
noncomputable def C_L_sum : List PV → CR := runB 3 2 [0, 1] m_L_sum
theorem fb_L_sum (T : Tx P w K mg base aBadThing aRateError) : FB P w K mg base 2 "_law_sum" 2 C_L_sum := by
  obtain ⟨f, fd, F, g, b⟩ := T.f_L_sum
  exact fb_of (N := ["rates", "firing", "cycles"]) (ps := ["rates", "firing"]) (pn := [0, 1]) (m := m_L_sum) (k := 1) F sc_L_sum g b fun cdv A outer s H E hr => (sss_cons (ss_if (st_chain (p := pLe) (p' := pLe) op_le op_le (so_E (se_neg (so_E se_int))) (so_N 1 (pv 1)) (so_E se_int)) (sss_one (ss_ret (se_call bx_tk (fb_L_before T) (hr.mono (by omega)) (by rfl) (sa_cons (so_N 0 (pv 0)) (sa_cons (so_N 1 (pv 1)) sa_nil))))) sss_nil)
  (sss_cons (ss_set 2 (se_op2 op_fdiv vo_fdiv (so_N 1 (pv 1)) (so_E (se_blt call_len vo_len (by rfl) T.b_len bt_len (sa_cons (so_N 0 (pv 0)) sa_nil)))) sc_L_sum.nd rfl (Or.inl rfl) (by decide) (by rfl) (.inl rfl))
  (sss_one (ss_ret (se_op2 op_addAll vo_add (so_E (se_op2 op_mul2 vo_mul2 (so_N 2 (pv 2)) (so_E (se_blt (call_sum2 rfl) vo_sum (by rfl) T.b_sum bt_sum (sa_cons (so_N 0 (pv 0)) sa_nil))))) (so_E (se_call bx_tk (fb_L_before T) (hr.mono (by omega)) (by rfl) (sa_cons (so_N 0 (pv 0)) (sa_cons (so_E (se_op2 op_sub vo_sub (so_N 1 (pv 1)) (so_E (se_op2 op_mul2 vo_mul2 (so_N 2 (pv 2)) (so_E (se_blt call_len vo_len (by rfl) T.b_len bt_len (sa_cons (so_N 0 (pv 0)) sa_nil))))))) sa_nil)))))))))
/-! ### _law_right -/
abbrev s_L_right : Stmt := tS 56
theorem sc_L_right : FnScope ["which", "row", "number", "told"] ["which", "row", "number", "told"] (defScope s_L_right) := ⟨rfl, rfl, rfl, by decide +kernel, rfl, by decide +kernel, by decide +kernel⟩
noncomputable def m_L_right : MS := mSeq (mIf (mNot (mT (mCallN 1 C_L_is_int (oCons (oN 3) (oNil))))) (mRet (mC (.bl false))) (mNx))
  (mSeq (mIf (mT (mOp (pEq false) (oCons (oN 0) (oCons (oE (mC (.int 0))) oNil)))) (mRet (mOp (pEq false) (oCons (oN 3) (oCons (oE (mCallN 2 C_L_sum (oCons (oE (mOp pIx (oCons (oN 1) (oCons (oE (mC (.int 1))) oNil)))) (oCons (oN 2) (oNil))))) oNil)))) (mNx))
  (mSeq (mIf (mT (mOp (pEq false) (oCons (oN 0) (oCons (oE (mC (.int 1))) oNil)))) (mRet (mOp (pEq false) (oCons (oN 3) (oCons (oE (mCallN 2 C_L_sum (oCons (oE (mOp pIx (oCons (oN 1) (oCons (oE (mC (.int 3))) oNil)))) (oCons (oN 2) (oNil))))) oNil)))) (mNx))
  (mRet (mChain pLe pLt (oE (mCallN 2 C_L_sum (oCons (oE (mOp pIx (oCons (oN 1) (oCons (oE (mC (.int 1))) oNil)))) (oCons (oN 3) (oNil))))) (oN 2) (oE (mCallN 2 C_L_sum (oCons (oE (mOp pIx (oCons (oN 1) (oCons (oE (mC (.int 1))) oNil)))) (oCons (oE (mOp pAdd (oCons (oN 3) (oCons (oE (mC (.int 1))) oNil)))) (oNil)))))))))
noncomputable def C_L_right : List PV → CR := runB 4 4 [0, 1, 2, 3] m_L_right
theorem fb_L_right (T : Tx P w K mg base aBadThing aRateError) : FB P w K mg base 3 "_law_right" 4 C_L_right := by
  obtain ⟨f, fd, F, g, b⟩ := T.f_L_right
  exact fb_of (N := ["which", "row", "number", "told"]) (ps := ["which", "row", "number", "told"]) (pn := [0, 1, 2, 3]) (m := m_L_right) (k := 2) F sc_L_right g b fun cdv A outer s H E hr => (sss_cons (ss_if (st_not (st_val (se_call bx_tk (fb_L_is_int T) (hr.mono (by omega)) (by rfl) (sa_cons (so_N 3 (pv 3)) sa_nil)))) (sss_one (ss_ret se_bl)) sss_nil)
  (sss_cons (ss_if (st_cmp (op_eqD (hu64 hr)) vo_eq (so_N 0 (pv 0)) (so_E se_int) (nomark _)) (sss_one (ss_ret (se_cmp (op_eqD (hu64 hr)) vo_eq (so_N 3 (pv 3)) (so_E (se_call bx_tk (fb_L_sum T) (hr.mono (by omega)) (by rfl) (sa_cons (so_E (se_ix ix_seq vo_ix (so_N 1 (pv 1)) (so_E se_int) (by intro _ _; rfl))) (sa_cons (so_N 2 (pv 2)) sa_nil)))) (nomark _)))) sss_nil)
  (sss_cons (ss_if (st_cmp (op_eqD (hu64 hr)) vo_eq (so_N 0 (pv 0)) (so_E se_int) (nomark _)) (sss_one (ss_ret (se_cmp (op_eqD (hu64 hr)) vo_eq (so_N 3 (pv 3)) (so_E (se_call bx_tk (fb_L_sum T) (hr.mono (by omega)) (by rfl) (sa_cons (so_E (se_ix ix_seq vo_ix (so_N 1 (pv 1)) (so_E se_int) (by intro _ _; rfl))) (sa_cons (so_N 2 (pv 2)) sa_nil)))) (nomark _)))) sss_nil)
  (sss_one (ss_ret (se_chain (p := pLe) (p' := pLt) op_le op_lt (so_E (se_call bx_tk (fb_L_sum T) (hr.mono (by omega)) (by rfl) (sa_cons (so_E (se_ix ix_seq vo_ix (so_N 1 (pv 1)) (so_E se_int) (by intro _ _; rfl))) (sa_cons (so_N 3 (pv 3)) sa_nil)))) (so_N 2 (pv 2)) (so_E (se_call bx_tk (fb_L_sum T) (hr.mono (by omega)) (by rfl) (sa_cons (so_E (se_ix ix_seq vo_ix (so_N 1 (pv 1)) (so_E se_int) (by intro _ _; rfl))) (sa_cons (so_E (se_op2 op_addAll vo_add (so_N 3 (pv 3)) (so_E se_int))) sa_nil))))))))))
/-! ### _law_turn -/
abbrev s_L_turn : Stmt := tS 60
theorem sc_L_turn : FnScope ["d", "graph", "queue", "first", "other", "number", "which", "told"] ["d", "graph"] (defScope s_L_turn) := ⟨rfl, rfl, rfl, by decide +kernel, rfl, by decide +kernel, by decide +kernel⟩
noncomputable def m_L_turn : MS := mSeq (mAsg (mCallN 2 C_L_draw (oCons (oN 0) (oCons (oE (mOp pLen (oCons (oE (mOp pIx (oCons (oN 1) (oCons (oE (mC (.int 1))) oNil)))) (oNil)))) (oNil)))) (t1 2))
  (mSeq (mAsg (mCallN 1 C_L_number (oCons (oN 0) (oNil))) (t1 3))
  (mSeq (mAsg (mOp pAdd (oCons (oN 3) (oCons (oE (mC (.int 1))) oNil))) (t1 4))
  (mSeq (mIf (mT (mOp (pEq false) (oCons (oN 3) (oCons (oE (mC (.int 1000000))) oNil)))) (mAsg (mOp pSub (oCons (oN 3) (oCons (oE (mC (.int 1))) oNil))) (t1 4)) (mNx))
  (mSeq (mFor [0, 1] (oCons (oE (mTup (vCons (mFzN 3) (vCons (mFzN 4) (vCons (mFz (mOp pSub (oCons (oE (mCallN 2 C_L_draw (oCons (oN 0) (oCons (oE (mC (.int 81))) (oNil))))) (oCons (oE (mC (.int 40))) oNil)))) (vNil)))))) oNil) itSeq (t1 5) (mFor [0, 1] (oCons (oE (mC (.int 3))) oNil) itRng1 (t1 6) (mSeq (mAsg (mCallN 4 C_L_told (oCons (oN 6) (oCons (oN 1) (oCons (oN 2) (oCons (oN 5) (oNil)))))) (t1 7))
  (mIf (mOr (mT (mOp (pEq true) (oCons (oE (mOp pIx (oCons (oN 7) (oCons (oE (mC (.int 0))) oNil)))) (oCons (oE (mC (.str "told"))) oNil)))) (mNot (mT (mCallN 4 C_L_right (oCons (oN 6) (oCons (oE (mOp pIx (oCons (oE (mOp pIx (oCons (oN 1) (oCons (oE (mC (.int 1))) oNil)))) (oCons (oN 2) oNil)))) (oCons (oN 5) (oCons (oE (mOp pIx (oCons (oN 7) (oCons (oE (mC (.int 1))) oNil)))) (oNil))))))))) (mRet (mC (.bl false))) (mNx)))))
  (mRet (mC (.bl true)))))))
noncomputable def C_L_turn : List PV → CR := runB 8 2 [0, 1] m_L_turn
theorem fb_L_turn (T : Tx P w K mg base aBadThing aRateError) : FB P w K mg base 9 "_law_turn" 2 C_L_turn := by
  obtain ⟨f, fd, F, g, b⟩ := T.f_L_turn
  exact fb_of (N := ["d", "graph", "queue", "first", "other", "number", "which", "told"]) (ps := ["d", "graph"]) (pn := [0, 1]) (m := m_L_turn) (k := 8) F sc_L_turn g b fun cdv A outer s H E hr => (sss_cons (ss_set 2 (se_call bx_tk (fb_L_draw T) (hr.mono (by omega)) (by rfl) (sa_cons (so_N 0 (pv 0)) (sa_cons (so_E (se_blt call_len vo_len (by rfl) T.b_len bt_len (sa_cons (so_E (se_ix ix_seq vo_ix (so_N 1 (pv 1)) (so_E se_int) (by intro _ _; rfl))) sa_nil))) sa_nil))) sc_L_turn.nd rfl (Or.inl rfl) (by decide) (by rfl) (.inl rfl))
  (sss_cons (ss_set 3 (se_call bx_tk (fb_L_number T) (hr.mono (by omega)) (by rfl) (sa_cons (so_N 0 (pv 0)) sa_nil)) sc_L_turn.nd rfl (Or.inl rfl) (by decide) (by rfl) (.inl rfl))
  (sss_cons (ss_set 4 (se_op2 op_addAll vo_add (so_N 3 (pv 3)) (so_E se_int)) sc_L_turn.nd rfl (Or.inl rfl) (by decide) (by rfl) (.inl rfl))
  (sss_cons (ss_if (st_cmp (op_eqD (hu64 hr)) vo_eq (so_N 3 (pv 3)) (so_E se_int) (nomark _)) (sss_one (ss_set 4 (se_op2 op_sub vo_sub (so_N 3 (pv 3)) (so_E se_int)) sc_L_turn.nd rfl (Or.inl rfl) (by decide) (by rfl) (.inl rfl))) sss_nil)
  (sss_cons (ss_for bx_po rfl (si_seq (so_E (se_tup (sv_cons (se_FzN 3 (pv 3)) (sv_cons (se_FzN 4 (pv 4)) (sv_cons (se_fz (se_op2 op_sub vo_sub (so_E (se_call bx_tk (fb_L_draw T) (hr.mono (by omega)) (by rfl) (sa_cons (so_N 0 (pv 0)) (sa_cons (so_E se_int) sa_nil)))) (so_E se_int))) sv_nil)))))) vi_seq (tg_name 5 (pg_name (i := 5) sc_L_turn.nd rfl (Or.inl rfl))) (by decide) (by decide) (sss_one (ss_for bx_po rfl (si_rng1 (so_E se_int) (by rfl) T.b_range (by rfl) (by rfl)) vi_rng1 (tg_name 6 (pg_name (i := 6) sc_L_turn.nd rfl (Or.inl rfl))) (by decide) (by decide) (sss_cons (ss_set 7 (se_call bx_tk (fb_L_told T) (hr.mono (by omega)) (by rfl) (sa_cons (so_N 6 (pv 6)) (sa_cons (so_N 1 (pv 1)) (sa_cons (so_N 2 (pv 2)) (sa_cons (so_N 5 (pv 5)) sa_nil))))) sc_L_turn.nd rfl (Or.inl rfl) (by decide) (by rfl) (.inl rfl))
  (sss_one (ss_if (st_bool (sw_or (st_cmp (op_neD (hu64 hr)) vo_ne (so_E (se_ix ix_seq vo_ix (so_N 7 (pv 7)) (so_E se_int) (by intro _ _; rfl))) (so_E se_str) (nomark _)) (sw_or1 (st_not (st_val (se_call bx_tk (fb_L_right T) (hr.mono (by omega)) (by rfl) (sa_cons (so_N 6 (pv 6)) (sa_cons (so_E (se_ix ix_seq vo_ix (so_E (se_ix ix_seq vo_ix (so_N 1 (pv 1)) (so_E se_int) (by intro _ _; rfl))) (so_N 2 (pv 2)) (by intro _ _; rfl))) (sa_cons (so_N 5 (pv 5)) (sa_cons (so_E (se_ix ix_seq vo_ix (so_N 7 (pv 7)) (so_E se_int) (by intro _ _; rfl))) sa_nil)))))))))) (sss_one (ss_ret se_bl)) sss_nil))))))
  (sss_one (ss_ret se_bl)))))))
/-! ### _law_refused -/
abbrev s_L_refused : Stmt := tS 61
theorem sc_L_refused : FnScope ["d", "graph", "which", "thing", "queue", "number", "due", "told"] ["d", "graph"] (defScope s_L_refused) := ⟨rfl, rfl, rfl, by decide +kernel, rfl, by decide +kernel, by decide +kernel⟩
noncomputable def m_L_refused : MS := mSeq (mAsg (mCallN 2 C_L_draw (oCons (oN 0) (oCons (oE (mC (.int 3))) (oNil)))) (t1 2))
  (mSeq (mAsg (mFzN 1) (t1 3))
  (mSeq (mAsg (mCallN 2 C_L_draw (oCons (oN 0) (oCons (oE (mOp pLen (oCons (oE (mOp pIx (oCons (oN 1) (oCons (oE (mC (.int 1))) oNil)))) (oNil)))) (oNil)))) (t1 4))
  (mSeq (mAsg (mCallN 1 C_L_number (oCons (oN 0) (oNil))) (t1 5))
  (mSeq (mAsg (mC (.str "")) (t1 6))
  (mSeq (mIf (mT (mOp (pEq false) (oCons (oE (mCallN 2 C_L_draw (oCons (oN 0) (oCons (oE (mC (.int 2))) (oNil))))) (oCons (oE (mC (.int 0))) oNil)))) (mSeq (mAsg (mCallN 2 C_L_pick (oCons (oN 0) (oCons (oE (mLst (vCons (mC (.int 1000001)) (vCons (mOp pNeg (oCons (oE (mC (.int 1000001))) oNil)) (vCons (mC (.bl true)) (vCons (mC (.bl false)) (vCons (mC (.str "7")) (vCons (mC .non) (vCons (mTup (vCons (mC (.int 3)) (vNil))) (vNil)))))))))) (oNil)))) (t1 5))
  (mSeq (mAsg (mC (.str "firing")) (t1 6))
  (mIf (mT (mOp (pEq false) (oCons (oN 2) (oCons (oE (mC (.int 2))) oNil)))) (mAsg (mC (.str "token")) (t1 6)) (mNx)))) (mNx))
  (mSeq (mIf (mT (mOp (pEq false) (oCons (oE (mCallN 2 C_L_draw (oCons (oN 0) (oCons (oE (mC (.int 3))) (oNil))))) (oCons (oE (mC (.int 0))) oNil)))) (mSeq (mAsg (mCallN 2 C_L_pick (oCons (oN 0) (oCons (oE (mLst (vCons (mOp pNeg (oCons (oE (mC (.int 1))) oNil)) (vCons (mOp pLen (oCons (oE (mOp pIx (oCons (oN 1) (oCons (oE (mC (.int 1))) oNil)))) (oNil))) (vCons (mC (.bl true)) (vCons (mC (.bl false)) (vCons (mC (.str "0")) (vCons (mC .non) (vCons (mTup (vCons (mC (.int 0)) (vNil))) (vNil)))))))))) (oNil)))) (t1 4))
  (mAsg (mC (.str "queue")) (t1 6))) (mNx))
  (mSeq (mIf (mT (mOp (pEq false) (oCons (oE (mCallN 2 C_L_draw (oCons (oN 0) (oCons (oE (mC (.int 4))) (oNil))))) (oCons (oE (mC (.int 0))) oNil)))) (mSeq (mAsg (mCallN 2 C_L_pick (oCons (oN 0) (oCons (oE (mLst (vCons (mFz (mOp pList (oCons (oN 1) (oNil)))) (vCons (mTup (vCons (mFz (mOp pIx (oCons (oN 1) (oCons (oE (mC (.int 0))) oNil)))) (vCons (mFz (mOp pList (oCons (oE (mOp pIx (oCons (oN 1) (oCons (oE (mC (.int 1))) oNil)))) (oNil)))) (vNil)))) (vCons (mTup (vCons (mFz (mOp pIx (oCons (oN 1) (oCons (oE (mC (.int 0))) oNil)))) (vNil))) (vCons (mTup (vCons (mTup (vNil)) (vCons (mFz (mOp pIx (oCons (oN 1) (oCons (oE (mC (.int 1))) oNil)))) (vNil)))) (vCons (mC .non) (vNil)))))))) (oNil)))) (t1 3))
  (mAsg (mC (.str "graph")) (t1 6))) (mNx))
  (mSeq (mAsg (mCallN 4 C_L_told (oCons (oN 2) (oCons (oN 3) (oCons (oN 4) (oCons (oN 5) (oNil)))))) (t1 7))
  (mSeq (mIf (mT (mOp (pEq true) (oCons (oN 6) (oCons (oE (mC (.str ""))) oNil)))) (mRet (mOp (pEq false) (oCons (oN 7) (oCons (oE (mTup (vCons (mC (.str "refused")) (vCons (mFzN 6) (vNil))))) oNil)))) (mNx))
  (mRet (mAndV (mOp (pEq false) (oCons (oE (mOp pIx (oCons (oN 7) (oCons (oE (mC (.int 0))) oNil)))) (oCons (oE (mC (.str "told"))) oNil))) (mCallN 4 C_L_right (oCons (oN 2) (oCons (oE (mOp pIx (oCons (oE (mOp pIx (oCons (oN 1) (oCons (oE (mC (.int 1))) oNil)))) (oCons (oN 4) oNil)))) (oCons (oN 5) (oCons (oE (mOp pIx (oCons (oN 7) (oCons (oE (mC (.int 1))) oNil)))) (oNil)))))))))))))))))
noncomputable def C_L_refused : List PV → CR := runB 8 2 [0, 1] m_L_refused
theorem fb_L_refused (T : Tx P w K mg base aBadThing aRateError) : FB P w K mg base 9 "_law_refused" 2 C_L_refused := by
  obtain ⟨f, fd, F, g, b⟩ := T.f_L_refused
  exact fb_of (N := ["d", "graph", "which", "thing", "queue", "number", "due", "told"]) (ps := ["d", "graph"]) (pn := [0, 1]) (m := m_L_refused) (k := 8) F sc_L_refused g b fun cdv A outer s H E hr => (sss_cons (ss_set 2 (se_call bx_tk (fb_L_draw T) (hr.mono (by omega)) (by rfl) (sa_cons (so_N 0 (pv 0)) (sa_cons (so_E se_int) sa_nil))) sc_L_refused.nd rfl (Or.inl rfl) (by decide) (by rfl) (.inl rfl))
  (sss_cons (ss_set 3 (se_FzN 1 (pv 1)) sc_L_refused.nd rfl (Or.inl rfl) (by decide) (by rfl) (.inl rfl))
  (sss_cons (ss_set 4 (se_call bx_tk (fb_L_draw T) (hr.mono (by omega)) (by rfl) (sa_cons (so_N 0 (pv 0)) (sa_cons (so_E (se_blt call_len vo_len (by rfl) T.b_len bt_len (sa_cons (so_E (se_ix ix_seq vo_ix (so_N 1 (pv 1)) (so_E se_int) (by intro _ _; rfl))) sa_nil))) sa_nil))) sc_L_refused.nd rfl (Or.inl rfl) (by decide) (by rfl) (.inl rfl))
  (sss_cons (ss_set 5 (se_call bx_tk (fb_L_number T) (hr.mono (by omega)) (by rfl) (sa_cons (so_N 0 (pv 0)) sa_nil)) sc_L_refused.nd rfl (Or.inl rfl) (by decide) (by rfl) (.inl rfl))
  (sss_cons (ss_set 6 se_str sc_L_refused.nd rfl (Or.inl rfl) (by decide) (by rfl) (.inl rfl))
  (sss_cons (ss_if (st_cmp (op_eqD (hu64 hr)) vo_eq (so_E (se_call bx_tk (fb_L_draw T) (hr.mono (by omega)) (by rfl) (sa_cons (so_N 0 (pv 0)) (sa_cons (so_E se_int) sa_nil)))) (so_E se_int) (nomark _)) (sss_cons (ss_set 5 (se_call bx_tk (fb_L_pick T) (hr.mono (by omega)) (by rfl) (sa_cons (so_N 0 (pv 0)) (sa_cons (so_E (se_lst (sv_cons se_int (sv_cons (se_neg (so_E se_int)) (sv_cons se_bl (sv_cons se_bl (sv_cons se_str (sv_cons se_non (sv_cons (se_tup (sv_cons se_int sv_nil)) sv_nil))))))))) sa_nil))) sc_L_refused.nd rfl (Or.inl rfl) (by decide) (by rfl) (.inl rfl))
  (sss_cons (ss_set 6 se_str sc_L_refused.nd rfl (Or.inl rfl) (by decide) (by rfl) (.inl rfl))
  (sss_one (ss_if (st_cmp (op_eqD (hu64 hr)) vo_eq (so_N 2 (pv 2)) (so_E se_int) (nomark _)) (sss_one (ss_set 6 se_str sc_L_refused.nd rfl (Or.inl rfl) (by decide) (by rfl) (.inl rfl))) sss_nil)))) sss_nil)
  (sss_cons (ss_if (st_cmp (op_eqD (hu64 hr)) vo_eq (so_E (se_call bx_tk (fb_L_draw T) (hr.mono (by omega)) (by rfl) (sa_cons (so_N 0 (pv 0)) (sa_cons (so_E se_int) sa_nil)))) (so_E se_int) (nomark _)) (sss_cons (ss_set 4 (se_call bx_tk (fb_L_pick T) (hr.mono (by omega)) (by rfl) (sa_cons (so_N 0 (pv 0)) (sa_cons (so_E (se_lst (sv_cons (se_neg (so_E se_int)) (sv_cons (se_blt call_len vo_len (by rfl) T.b_len bt_len (sa_cons (so_E (se_ix ix_seq vo_ix (so_N 1 (pv 1)) (so_E se_int) (by intro _ _; rfl))) sa_nil)) (sv_cons se_bl (sv_cons se_bl (sv_cons se_str (sv_cons se_non (sv_cons (se_tup (sv_cons se_int sv_nil)) sv_nil))))))))) sa_nil))) sc_L_refused.nd rfl (Or.inl rfl) (by decide) (by rfl) (.inl rfl))
  (sss_one (ss_set 6 se_str sc_L_refused.nd rfl (Or.inl rfl) (by decide) (by rfl) (.inl rfl)))) sss_nil)
  (sss_cons (ss_if (st_cmp (op_eqD (hu64 hr)) vo_eq (so_E (se_call bx_tk (fb_L_draw T) (hr.mono (by omega)) (by rfl) (sa_cons (so_N 0 (pv 0)) (sa_cons (so_E se_int) sa_nil)))) (so_E se_int) (nomark _)) (sss_cons (ss_set 3 (se_call bx_tk (fb_L_pick T) (hr.mono (by omega)) (by rfl) (sa_cons (so_N 0 (pv 0)) (sa_cons (so_E (se_lst (sv_cons (se_fz (se_bty call_list_of vo_list (by rfl) T.b_list bt_list (sa_cons (so_N 1 (pv 1)) sa_nil))) (sv_cons (se_tup (sv_cons (se_fz (se_ix ix_seq vo_ix (so_N 1 (pv 1)) (so_E se_int) (by intro _ _; rfl))) (sv_cons (se_fz (se_bty call_list_of vo_list (by rfl) T.b_list bt_list (sa_cons (so_E (se_ix ix_seq vo_ix (so_N 1 (pv 1)) (so_E se_int) (by intro _ _; rfl))) sa_nil))) sv_nil))) (sv_cons (se_tup (sv_cons (se_fz (se_ix ix_seq vo_ix (so_N 1 (pv 1)) (so_E se_int) (by intro _ _; rfl))) sv_nil)) (sv_cons (se_tup (sv_cons (se_tup sv_nil) (sv_cons (se_fz (se_ix ix_seq vo_ix (so_N 1 (pv 1)) (so_E se_int) (by intro _ _; rfl))) sv_nil))) (sv_cons se_non sv_nil))))))) sa_nil))) sc_L_refused.nd rfl (Or.inl rfl) (by decide) (by rfl) (.inl rfl))
  (sss_one (ss_set 6 se_str sc_L_refused.nd rfl (Or.inl rfl) (by decide) (by rfl) (.inl rfl)))) sss_nil)
  (sss_cons (ss_set 7 (se_call bx_tk (fb_L_told T) (hr.mono (by omega)) (by rfl) (sa_cons (so_N 2 (pv 2)) (sa_cons (so_N 3 (pv 3)) (sa_cons (so_N 4 (pv 4)) (sa_cons (so_N 5 (pv 5)) sa_nil))))) sc_L_refused.nd rfl (Or.inl rfl) (by decide) (by rfl) (.inl rfl))
  (sss_cons (ss_if (st_cmp (op_neD (hu64 hr)) vo_ne (so_N 6 (pv 6)) (so_E se_str) (nomark _)) (sss_one (ss_ret (se_cmp (op_eqD (hu64 hr)) vo_eq (so_N 7 (pv 7)) (so_E (se_tup (sv_cons se_str (sv_cons (se_FzN 6 (pv 6)) sv_nil)))) (nomark _)))) sss_nil)
  (sss_one (ss_ret (se_and (se_cmp (op_eqD (hu64 hr)) vo_eq (so_E (se_ix ix_seq vo_ix (so_N 7 (pv 7)) (so_E se_int) (by intro _ _; rfl))) (so_E se_str) (nomark _)) (se_one (se_call bx_tk (fb_L_right T) (hr.mono (by omega)) (by rfl) (sa_cons (so_N 2 (pv 2)) (sa_cons (so_E (se_ix ix_seq vo_ix (so_E (se_ix ix_seq vo_ix (so_N 1 (pv 1)) (so_E se_int) (by intro _ _; rfl))) (so_N 4 (pv 4)) (by intro _ _; rfl))) (sa_cons (so_N 5 (pv 5)) (sa_cons (so_E (se_ix ix_seq vo_ix (so_N 7 (pv 7)) (so_E se_int) (by intro _ _; rfl))) sa_nil)))))))))))))))))))
/-! ### _law_block_refused -/
abbrev s_L_block_refused : Stmt := tS 58
theorem sc_L_block_refused : FnScope ["d", "graph", "which", "block", "e"] ["d", "graph"] (defScope s_L_block_refused) := ⟨rfl, rfl, rfl, by decide +kernel, rfl, by decide +kernel, by decide +kernel⟩
noncomputable def m_L_block_refused : MS := mSeq (mAsg (mCallN 2 C_L_draw (oCons (oN 0) (oCons (oE (mC (.int 3))) (oNil)))) (t1 2))
  (mSeq (mAsg (mCallN 2 C_L_pick (oCons (oN 0) (oCons (oE (mLst (vCons (mOp pNeg (oCons (oE (mC (.int 1))) oNil)) (vCons (mOp pLen (oCons (oE (mOp pIx (oCons (oN 1) (oCons (oE (mC (.int 0))) oNil)))) (oNil))) (vCons (mC (.bl true)) (vCons (mC (.bl false)) (vCons (mC (.str "0")) (vCons (mC .non) (vCons (mTup (vCons (mC (.int 0)) (vNil))) (vNil)))))))))) (oNil)))) (t1 3))
  (mSeq (mTry (catOf [("BadThing", true)]) 4 (mIf (mT (mOp (pEq false) (oCons (oN 2) (oCons (oE (mC (.int 0))) oNil)))) (mDrop (mCallN 2 C_incoming (oCons (oN 1) (oCons (oN 3) (oNil))))) (mIf (mT (mOp (pEq false) (oCons (oN 2) (oCons (oE (mC (.int 1))) oNil)))) (mDrop (mCallN 2 C_outgoing (oCons (oN 1) (oCons (oN 3) (oNil))))) (mDrop (mCallN 2 C_phases (oCons (oN 1) (oCons (oN 3) (oNil))))))) (byCls [("BadThing", fun y => uRet (u2 (pEq false) ((fun _ => y.fs.lookup ("part" : Str))) (uC (.str "block"))))]))
  (mRet (mC (.bl false)))))
noncomputable def C_L_block_refused : List PV → CR := runB 5 2 [0, 1] m_L_block_refused
theorem fb_L_block_refused (T : Tx P w K mg base aBadThing aRateError) : FB P w K mg base 8 "_law_block_refused" 2 C_L_block_refused := by
  obtain ⟨f, fd, F, g, b⟩ := T.f_L_block_refused
  exact fb_of (N := ["d", "graph", "which", "block", "e"]) (ps := ["d", "graph"]) (pn := [0, 1]) (m := m_L_block_refused) (k := 7) F sc_L_block_refused g b fun cdv A outer s H E hr => (sss_cons (ss_set 2 (se_call bx_tk (fb_L_draw T) (hr.mono (by omega)) (by rfl) (sa_cons (so_N 0 (pv 0)) (sa_cons (so_E se_int) sa_nil))) sc_L_block_refused.nd rfl (Or.inl rfl) (by decide) (by rfl) (.inl rfl))
  (sss_cons (ss_set 3 (se_call bx_tk (fb_L_pick T) (hr.mono (by omega)) (by rfl) (sa_cons (so_N 0 (pv 0)) (sa_cons (so_E (se_lst (sv_cons (se_neg (so_E se_int)) (sv_cons (se_blt call_len vo_len (by rfl) T.b_len bt_len (sa_cons (so_E (se_ix ix_seq vo_ix (so_N 1 (pv 1)) (so_E se_int) (by intro _ _; rfl))) sa_nil)) (sv_cons se_bl (sv_cons se_bl (sv_cons se_str (sv_cons se_non (sv_cons (se_tup (sv_cons se_int sv_nil)) sv_nil))))))))) sa_nil))) sc_L_block_refused.nd rfl (Or.inl rfl) (by decide) (by rfl) (.inl rfl))
  (sss_cons (ss_try 4 rfl rfl sc_L_block_refused.nd rfl rfl ⟨by rfl, by decide, Or.inl T.m_BadThing⟩ bx_tk (by decide) (cat_ok (CatC.cons T.m_BadThing T.e_BadThing_BadThing CatC.nil)) (fun W pn' xe tk' po' => (sss_one (ss_if (st_cmp (op_eqD (hu64 hr)) vo_eq (so_N 2 (pv 2)) (so_E se_int) (nomark _)) (sss_one (ss_expr (se_call tk' (fb_incoming T) (hr.mono (by omega)) (by rfl) (sa_cons (so_N 1 (pv 1)) (sa_cons (so_N 3 (pv 3)) sa_nil))) (by rfl))) (sss_one (ss_if (st_cmp (op_eqD (hu64 hr)) vo_eq (so_N 2 (pv 2)) (so_E se_int) (nomark _)) (sss_one (ss_expr (se_call tk' (fb_outgoing T) (hr.mono (by omega)) (by rfl) (sa_cons (so_N 1 (pv 1)) (sa_cons (so_N 3 (pv 3)) sa_nil))) (by rfl))) (sss_one (ss_expr (se_call tk' (fb_phases T) (hr.mono (by omega)) (by rfl) (sa_cons (so_N 1 (pv 1)) (sa_cons (so_N 3 (pv 3)) sa_nil))) (by rfl)))))))) (byCls_ok (by decide) (USsC.cons (fun y a C dd oe pn' hy hC hz hf => by obtain rfl : C = aBadThing := addr_of T.m_BadThing hy hC; exact (uss_one (us_ret (su_cmp ze_fs (op_eqD (hu64s hr)) vo_eq (su_xf T.g_BadThing T.n_BadThing_part hz hf (pv 4)) (su_C pe_str fun _ => rep_str) (nomark _))))) USsC.nil)))
  (sss_one (ss_ret se_bl)))))
/-! ### law -/
abbrev s_law : Stmt := tS 77
theorem sc_law : FnScope ["script", "d", "graph", "turn"] ["script"] (defScope s_law) := ⟨rfl, rfl, rfl, by decide +kernel, rfl, by decide +kernel, by decide +kernel⟩
noncomputable def m_law : MS := mSeq (mAsg (mCallN 1 C_L_begin (oCons (oN 0) (oNil))) (t1 1))
  (mSeq (mAsg (mCallN 1 C_L_made (oCons (oN 1) (oNil))) (t1 2))
  (mSeq (mIf (mNot (mT (mCallN 1 C_L_ends (oCons (oN 2) (oNil))))) (mRet (mC (.bl false))) (mNx))
  (mSeq (mFor [0] (oCons (oE (mC (.int 3))) oNil) itRng1 (t1 3) (mIf (mNot (mT (mCallN 2 C_L_graphs (oCons (oN 1) (oCons (oN 2) (oNil)))))) (mRet (mC (.bl false))) (mNx)))
  (mSeq (mFor [0] (oCons (oE (mC (.int 4))) oNil) itRng1 (t1 3) (mIf (mNot (mT (mCallN 2 C_L_turn (oCons (oN 1) (oCons (oN 2) (oNil)))))) (mRet (mC (.bl false))) (mNx)))
  (mSeq (mFor [0] (oCons (oE (mC (.int 4))) oNil) itRng1 (t1 3) (mIf (mNot (mT (mCallN 2 C_L_refused (oCons (oN 1) (oCons (oN 2) (oNil)))))) (mRet (mC (.bl false))) (mNx)))
  (mRet (mCallN 2 C_L_block_refused (oCons (oN 1) (oCons (oN 2) (oNil))))))))))
noncomputable def C_law : List PV → CR := runB 4 1 [0] m_law
theorem fn_law (T : Tx P w K mg base aBadThing aRateError) {f : Addr} {fd : FuncData} (F : L2.Fun K "law" "law" s_law f fd) : FnOk P w K mg base (L2.CX P w) 10 f fd ["script"] (spB K mg 1 C_law) :=
  fk_of (N := ["script", "d", "graph", "turn"]) (ps := ["script"]) (pn := [0]) (m := m_law) (k := 9) F sc_law fun cdv A outer s H E hr => (sss_cons (ss_set 1 (se_call bx_tk (fb_L_begin T) (hr.mono (by omega)) (by rfl) (sa_cons (so_N 0 (pv 0)) sa_nil)) sc_law.nd rfl (Or.inl rfl) (by decide) (by rfl) (.inl rfl))
  (sss_cons (ss_set 2 (se_call bx_tk (fb_L_made T) (hr.mono (by omega)) (by rfl) (sa_cons (so_N 1 (pv 1)) sa_nil)) sc_law.nd rfl (Or.inl rfl) (by decide) (by rfl) (.inl rfl))
  (sss_cons (ss_if (st_not (st_val (se_call bx_tk (fb_L_ends T) (hr.mono (by omega)) (by rfl) (sa_cons (so_N 2 (pv 2)) sa_nil)))) (sss_one (ss_ret se_bl)) sss_nil)
  (sss_cons (ss_for bx_po rfl (si_rng1 (so_E se_int) (by rfl) T.b_range (by rfl) (by rfl)) vi_rng1 (tg_name 3 (pg_name (i := 3) sc_law.nd rfl (Or.inl rfl))) (by decide) (by decide) (sss_one (ss_if (st_not (st_val (se_call bx_tk (fb_L_graphs T) (hr.mono (by omega)) (by rfl) (sa_cons (so_N 1 (pv 1)) (sa_cons (so_N 2 (pv 2)) sa_nil))))) (sss_one (ss_ret se_bl)) sss_nil)))
  (sss_cons (ss_for bx_po rfl (si_rng1 (so_E se_int) (by rfl) T.b_range (by rfl) (by rfl)) vi_rng1 (tg_name 3 (pg_name (i := 3) sc_law.nd rfl (Or.inl rfl))) (by decide) (by decide) (sss_one (ss_if (st_not (st_val (se_call bx_tk (fb_L_turn T) (hr.mono (by omega)) (by rfl) (sa_cons (so_N 1 (pv 1)) (sa_cons (so_N 2 (pv 2)) sa_nil))))) (sss_one (ss_ret se_bl)) sss_nil)))
  (sss_cons (ss_for bx_po rfl (si_rng1 (so_E se_int) (by rfl) T.b_range (by rfl) (by rfl)) vi_rng1 (tg_name 3 (pg_name (i := 3) sc_law.nd rfl (Or.inl rfl))) (by decide) (by decide) (sss_one (ss_if (st_not (st_val (se_call bx_tk (fb_L_refused T) (hr.mono (by omega)) (by rfl) (sa_cons (so_N 1 (pv 1)) (sa_cons (so_N 2 (pv 2)) sa_nil))))) (sss_one (ss_ret se_bl)) sss_nil)))
  (sss_one (ss_ret (se_call bx_tk (fb_L_block_refused T) (hr.mono (by omega)) (by rfl) (sa_cons (so_N 1 (pv 1)) (sa_cons (so_N 2 (pv 2)) sa_nil)))))))))))
end K04
set_option maxHeartbeats 4000000
namespace K04
open PySem PySem.Spec PyProof.Rows L2 Bv
set_option maxHeartbeats 4000000
/-! ### the plain law: the drawing -/
def encD (ns : List Int) (p q st : Int) : PV := .lst true [.lst false (ns.map PV.int), .int p, .int q, .int st, .int 3]
def DOK (d : PV) : Prop := ∃ ns p q st, d = encD ns p q st ∧ ns.length ≤ 63 ∧ 0 ≤ p ∧ 0 ≤ q ∧ 0 ≤ st ∧ st < 2147483647
theorem DOK.own {d : PV} (h : DOK d) : d.own = true := by
  obtain ⟨ns, p, q, st, rfl, _⟩ := h
  rfl
theorem begin_ok (o : Bool) (ns : List Int) (h : ns.length ≤ 63) : ∃ d y, C_L_begin [.lst o (ns.map PV.int)] = .ok d [y] ∧ DOK d := by
  have hc : ∀ s : Sl, ∀ acc, (∃ y, s = [y, none]) → compL (t1 1) mYes (mOp pInt1 (oCons (oN 1) oNil)) [1] (ns.map PV.int) s acc = .ok (acc ++ (ns.map PV.int).map id) s := fun s acc hs => by
    obtain ⟨y, rfl⟩ := hs
    refine compL_map (fun x hx => ?_) acc
    obtain ⟨i, _, rfl⟩ := List.mem_map.mp hx
    exact ⟨[y, some (.int i)], [y, some (.int i)], rfl, by simp, by simp⟩
  have hl : ns.length ≤ LIM := by unfold LIM; omega
  cases o with
  | true =>
    refine ⟨encD ns 0 0 7, .lst true (ns.map PV.int), ?_, ns, 0, 0, 7, rfl, h, by decide, by decide, by decide, by decide⟩
    simp [C_L_begin, runB, m_L_begin, encD, hl, hc, LIM]
  | false =>
    refine ⟨encD ns 0 0 7, .lst false (ns.map PV.int), ?_, ns, 0, 0, 7, rfl, h, by decide, by decide, by decide, by decide⟩
    simp [C_L_begin, runB, m_L_begin, encD, hl, hc, LIM]
theorem draw_ok {d : PV} {many : Int} (hd : DOK d) (h0 : 0 < many) (h1 : many < 1073741824) : ∃ r d', C_L_draw [d, .int many] = .ok (.int r) [d', .int many] ∧ 0 ≤ r ∧ r < many ∧ DOK d' := by
  obtain ⟨ns, p, q, st, rfl, hl, hp, hq, hs, hs2⟩ := hd
  by_cases hq0 : 0 < q
  · refine ⟨q % many, encD ns p (q / many) st, ?_, Int.emod_nonneg _ (by omega), Int.emod_lt_of_pos _ h0, ⟨ns, p, _, st, rfl, hl, hp, Int.ediv_nonneg hq (by omega), hs, hs2⟩⟩
    simp [C_L_draw, runB, m_L_draw, encD, hq0, h0, h1, ixN]
  · have e0 : q = 0 := by omega
    subst e0
    have fin : ∀ (st' p' : Int), 0 ≤ st' → st' < 2147483647 → 0 ≤ p' → (0 ≤ st' / 16 % many ∧ st' / 16 % many < many ∧ DOK (encD ns p' 0 st')) := fun st' p' a b c => ⟨Int.emod_nonneg _ (by omega), Int.emod_lt_of_pos _ h0, ns, p', 0, st', rfl, hl, c, by omega, a, b⟩
    by_cases hc : p < ns.length
    · obtain ⟨c, hcell⟩ : ∃ c, ns[p.toNat]? = some c := ⟨_, List.getElem?_eq_getElem (by omega)⟩
      have hix : atI (ns.map PV.int) p = some (.int c) := atI_of hp (by rw [List.getElem?_map, hcell]; rfl)
      obtain ⟨size, hsize⟩ : ∃ size : Int, (2 * (if c < 0 then -c else c) + if c < 0 then 1 else 0) = size := ⟨_, rfl⟩
      by_cases hb : (2000000000000000000 : Int) ≤ size
      · simp [C_L_draw, runB, m_L_draw, encD, h0, h1, ixN, hc, hix, hsize, hb, big6000_pos]
        exact ⟨_, _, ⟨rfl, rfl⟩, Int.emod_nonneg _ (by omega), Int.emod_lt_of_pos _ h0, ns, p + 1, _, st, rfl, hl, by omega, Int.ediv_nonneg (Int.emod_nonneg _ (by have := big6000_pos; omega)) (by omega), hs, hs2⟩
      · simp [C_L_draw, runB, m_L_draw, encD, h0, h1, ixN, hc, hix, hsize, hb]
        exact ⟨_, _, ⟨rfl, rfl⟩, fin _ _ (Int.emod_nonneg _ (by decide)) (Int.emod_lt_of_pos _ (by decide)) (by omega)⟩
    · simp [C_L_draw, runB, m_L_draw, encD, h0, h1, ixN, hc]
      exact ⟨_, _, ⟨rfl, rfl⟩, fin _ _ (Int.emod_nonneg _ (by decide)) (Int.emod_lt_of_pos _ (by decide)) (by omega)⟩
theorem rare_ok {d : PV} {many : Int} (hd : DOK d) (h0 : 0 < many) (h1 : many < 1073741824) : ∃ b d', C_L_rare [d, .int many] = .ok (.bl b) [d', .int many] ∧ DOK d' := by
  obtain ⟨r, d', e, _, _, h⟩ := draw_ok hd h0 h1
  refine ⟨decide (r = many / 2), d', ?_, h⟩
  have hz := hd.own
  have hz' := h.own
  simp [C_L_rare, runB, m_L_rare, hz, hz', e]
theorem pickL_ok {d : PV} {o : Bool} {xs : List PV} (hd : DOK d) (h0 : xs ≠ []) (h1 : xs.length < 1073741824) (hn : PV.owns xs = false) : ∃ x d', C_L_pick [d, .lst o xs] = .ok x [d', .lst o xs] ∧ x ∈ xs ∧ DOK d' := by
  have hp : 0 < xs.length := List.length_pos_iff.mpr h0
  obtain ⟨r, d', e, r0, r1, h⟩ := draw_ok (many := xs.length) hd (by omega) (by omega)
  have hx : xs[r.toNat]? = some xs[r.toNat] := List.getElem?_eq_getElem (by omega)
  have hxo : (xs[r.toNat]).own = false := owns_mem hn (List.getElem_mem _)
  refine ⟨xs[r.toNat], d', ?_, List.getElem_mem _, h⟩
  have hz := hd.own
  have hz' := h.own
  cases o <;> simp [C_L_pick, runB, m_L_pick, hz, hz', e, hn, atI_of r0 hx, hxo]
abbrev Sg (l : List Nat) : Str := _root_.SX.S l
def poolC : List (List Nat) := [[97], [98, 50], [115, 117, 109], [108, 101, 102, 116], [114], [107, 48], [99, 97, 114, 114, 121], [122, 57, 122], [102, 117, 108, 108], [116, 97, 105, 108], [110], [109, 56], [97, 97], [98, 117, 115, 121], [99, 110, 116], [112], [116, 52], [101, 118, 101, 110, 50], [97, 98, 49], [104, 101, 97, 100], [117], [118, 50], [119], [108, 111, 119, 101, 115, 116], [104, 105, 103, 104], [109, 105, 100], [115], [116], [101], [102], [103], [104], [105], [106], [107], [120], [121], [113, 55], [100, 101, 101, 112], [116, 117, 114, 110], [103, 97, 116, 101], [108, 53], [104, 111, 108, 100], [110, 101, 120, 116, 49], [111], [99, 48], [100], [116, 119, 111], [122, 122, 49], [110, 101, 97, 114], [102, 97, 114, 57], [108, 97, 115, 116], [114, 105, 110, 103, 50], [97, 97, 97, 97, 97, 97, 97, 56], [98], [99, 49], [116, 111, 112, 50], [110, 101, 116, 51], [114, 111, 119], [99, 111, 108, 55], [118]]
def poolS : List Str := poolC.map Sg
def tA : List Nat := [97, 32, 98, 50, 32, 115, 117, 109, 32, 108, 101, 102, 116, 32, 114, 32, 107, 48, 32, 99, 97, 114, 114, 121, 32, 122, 57, 122, 32, 102, 117, 108, 108, 32, 116, 97, 105, 108, 32, 110, 32, 109, 56, 32, 97, 97, 32, 98, 117, 115, 121, 32, 99, 110, 116, 32, 112, 32, 116, 52, 32, 101, 118, 101, 110, 50, 32, 97, 98, 49, 32, 104, 101, 97, 100, 32, 117, 32, 118, 50, 32, 119, 32, 108, 111, 119, 101, 115, 116, 32, 104, 105, 103, 104, 32, 109, 105, 100, 32]
def tB : List Nat := [115, 32, 116, 32, 101, 32, 102, 32, 103, 32, 104, 32, 105, 32, 106, 32, 107, 32, 120, 32, 121, 32, 113, 55, 32, 100, 101, 101, 112, 32, 116, 117, 114, 110, 32, 103, 97, 116, 101, 32, 108, 53, 32, 104, 111, 108, 100, 32, 110, 101, 120, 116, 49, 32, 111, 32, 99, 48, 32, 100, 32, 116, 119, 111, 32, 122, 122, 49, 32, 110, 101, 97, 114, 32, 102, 97, 114, 57, 32, 108, 97, 115, 116, 32, 114, 105, 110, 103, 50, 32]
def tC : List Nat := [97, 97, 97, 97, 97, 97, 97, 56, 32, 98, 32, 99, 49, 32, 116, 111, 112, 50, 32, 110, 101, 116, 51, 32, 114, 111, 119, 32, 99, 111, 108, 55, 32, 118]
theorem lit_a : ("a b2 sum left r k0 carry z9z full tail n m8 aa busy cnt p t4 even2 ab1 head u v2 w lowest high mid " : Str) = Sg tA := by decide +kernel
theorem lit_b : ("s t e f g h i j k x y q7 deep turn gate l5 hold next1 o c0 d two zz1 near far9 last ring2 " : Str) = Sg tB := by decide +kernel
theorem lit_c : ("aaaaaaa8 b c1 top2 net3 row col7 v" : Str) = Sg tC := by decide +kernel
theorem lit_sp : (" " : Str) = Sg [32] := by decide +kernel
theorem spl_pool : TL.spl [32] 0 [] (tA ++ (tB ++ tC)) = poolC := by decide +kernel
theorem pp_addS (a b : List Nat) (h : a.length + b.length ≤ LIM) : pAdd [.str (Sg a), .str (Sg b)] = some (.str (Sg (a ++ b))) := by
  show (if (Sg a).length + (Sg b).length ≤ LIM then some (PV.str (Sg a ++ Sg b)) else none) = _
  rw [_root_.SX.S_len, _root_.SX.S_len, if_pos h, _root_.SX.S_cat]
theorem pp_split32 (a : List Nat) (p : List (List Nat)) (h : a.length + 2 ≤ LIM) (e : TL.spl [32] 0 [] a = p) (h2 : p.length ≤ LIM) : pSplit [.str (Sg a), .str (Sg [32])] = some (.lst true ((p.map Sg).map .str)) := by
  have e1 : Txt.split (Sg a) (Sg [32]) = p.map Sg := by rw [_root_.SX.split_S (by simp) (by decide), e]
  show (if ((Sg [32]).length == 0) = false ∧ (Sg a).length + 2 ≤ LIM ∧ (Txt.split (Sg a) (Sg [32])).length ≤ LIM then some (PV.lst true ((Txt.split (Sg a) (Sg [32])).map .str)) else none) = _
  rw [e1, _root_.SX.S_len, if_pos ⟨rfl, h, by rw [List.length_map]; exact h2⟩]
@[simp] theorem ap_str1 (f : List PV → Option PV) (mo : M PV) (oe : M Pnd) (s : Sl) : mStr1 f mo oe s = (mo s).bind fun x s1 => match x with
  | .str a => (oe s1).bind fun p s2 => (match Pnd.gets s2 [.val (.str a), p] with
    | some xs => (match f xs with | some z => .ok z s2 | none => .bad)
    | none => .bad)
  | _ => .bad := Eq.trans rfl rfl
theorem pool_ok : C_L_pool [] = .ok (.lst true (poolS.map .str)) [] := by
  have l1 := lim_le (n := 190) (by decide)
  simp only [C_L_pool, m_L_pool, lit_a, lit_b, lit_c, lit_sp]
  simp [runB, ap_str1]
  rw [pp_addS _ _ (lim_le (by decide))]
  simp
  rw [pp_addS _ _ (lim_le (by decide)), List.append_assoc]
  simp
  rw [pp_split32 _ poolC (lim_le (by decide)) spl_pool (lim_le (by decide))]
  rfl
/-- numbers within -/
def NumsP (high : Int) (l : List Int) : Prop := ∀ i ∈ l, 0 ≤ i ∧ i ≤ high
def RatesP (size : Nat) (l : List Int) : Prop := l.length = size ∧ NumsP 12 l ∧ 0 < l.sum
theorem sum_nonneg : ∀ {l : List Int}, (∀ i ∈ l, 0 ≤ i) → 0 ≤ l.sum
  | [], _ => by simp
  | x :: l, h => by
    have := sum_nonneg (l := l) fun i hi => h i (List.mem_cons_of_mem _ hi)
    have := h x List.mem_cons_self
    rw [List.sum_cons]; omega
theorem sum_set_pos : ∀ {l : List Int} {n : Nat} {v : Int}, (∀ i ∈ l, 0 ≤ i) → n < l.length → 0 < v → 0 < (l.set n v).sum
  | [], _, _, _, h, _ => by simp at h
  | x :: l, 0, v, h, _, hv => by
    have := sum_nonneg (l := l) fun i hi => h i (List.mem_cons_of_mem _ hi)
    rw [List.set_cons_zero, List.sum_cons]; omega
  | x :: l, n + 1, v, h, hn, hv => by
    have := sum_set_pos (l := l) (n := n) (v := v) (fun i hi => h i (List.mem_cons_of_mem _ hi)) (by simpa using hn) hv
    have := h x List.mem_cons_self
    rw [List.set_cons_succ, List.sum_cons]; omega
theorem ints_of : ∀ l : List Int, intsP (l.map PV.int) = some l
  | [] => rfl
  | x :: l => by
    have := ints_of l
    simp [intsP, this]
theorem sum_of (o : Bool) (l : List Int) : pSum [.lst o (l.map PV.int)] = some (.int l.sum) := by
  show (intsP (l.map PV.int)).map _ = _
  rw [ints_of]; rfl
theorem sum_ofT (l : List Int) : pSum [.tup (l.map PV.int)] = some (.int l.sum) := by
  show (intsP (l.map PV.int)).map _ = _
  rw [ints_of]; rfl
theorem ixN_of {n : Nat} {i : Int} (h0 : 0 ≤ i) (h1 : i < n) : ixN n i = some i.toNat := by
  unfold ixN; rw [if_pos h0, if_pos h1]
theorem set_ints (l : List Int) (n : Nat) (v : Int) : (l.map PV.int).set n (.int v) = (l.set n v).map PV.int := by
  rw [List.map_set]
def LETC : List Nat := [97, 98, 99, 100, 101, 102, 103, 104, 105, 106, 107, 108, 109, 110, 111, 112, 113, 114, 115, 116, 117, 118, 119, 120, 121, 122]
def SIGC : List Nat := [97, 98, 99, 100, 101, 102, 103, 104, 105, 106, 107, 108, 109, 110, 111, 112, 113, 114, 115, 116, 117, 118, 119, 120, 121, 122, 48, 49, 50, 51, 52, 53, 54, 55, 56, 57, 95, 46]
theorem lit_sig : ("abcdefghijklmnopqrstuvwxyz0123456789_." : Str) = Sg SIGC := by decide +kernel
theorem lit_let : ("abcdefghijklmnopqrstuvwxyz" : Str) = Sg LETC := by decide +kernel
/-- a name: its signs -/
def nameB : List Nat → Bool
  | [] => false
  | c :: r => decide (c ∈ LETC) && decide ((c :: r).length ≤ 16) && (c :: r).all fun x => decide (x ∈ SIGC)
def NameOK (y : Str) : Prop := ∃ c, y = Sg c ∧ nameB c = true
theorem sig_small : ∀ c ∈ SIGC, c < 1114112 := by decide
theorem NameOK.strOk {y : Str} (h : NameOK y) : PyData.strOk y = true := by
  obtain ⟨c, rfl, h⟩ := h
  unfold PyData.strOk
  rw [Array.all_eq_true_iff_forall_mem]
  intro x hx
  have hx : x ∈ c := by simpa [_root_.SX.S] using hx
  cases c with
  | nil => simp at hx
  | cons a r =>
    simp only [nameB, Bool.and_eq_true, List.all_eq_true, decide_eq_true_eq] at h
    exact decide_eq_true (sig_small x (h.2 x hx))
theorem pool_names : ∀ y ∈ poolS, NameOK y := by
  have h : poolC.all nameB = true := by decide +kernel
  intro y hy
  obtain ⟨c, hc, rfl⟩ := List.mem_map.mp hy
  exact ⟨c, rfl, List.all_eq_true.mp h c hc⟩
theorem nodup_map {α β : Type} {f : α → β} (hf : ∀ a b, f a = f b → a = b) : ∀ {l : List α}, l.Nodup → (l.map f).Nodup
  | [], _ => List.nodup_nil
  | x :: l, h => by
    rw [List.map_cons, List.nodup_cons]
    refine ⟨fun hm => ?_, nodup_map hf (List.nodup_cons.mp h).2⟩
    obtain ⟨z, hz, e⟩ := List.mem_map.mp hm
    exact (List.nodup_cons.mp h).1 (hf _ _ e ▸ hz)
theorem pool_nodup : poolS.Nodup := nodup_map (fun a b e => _root_.SX.S_inj e) (by decide +kernel : poolC.Nodup)
theorem pool_len : poolS.length = 61 := by decide +kernel
theorem ix_str {c : List Nat} {i : Int} {x : Nat} (h : c.length ≤ 16777216) (h0 : 0 ≤ i) (hx : c[i.toNat]? = some x) : pIx [.str (Sg c), .int i] = some (.str (Sg [x])) := by
  show (if (Sg c).length ≤ LIM then match atI (Sg c).cps.toList i with | some c => some (PV.str ⟨#[c]⟩) | none => none else none) = _
  rw [_root_.SX.S_len, if_pos (lim_le h), show (Sg c).cps.toList = c from rfl, atI_of h0 hx]
structure Blk where
  name : Str
  times : List Int
  deed : List Int
structure Que where
  s : Nat
  t : Nat
  gives : List Int
  takes : List Int
  start : List Int
def eI (l : List Int) : PV := .tup (l.map PV.int)
def eB (b : Blk) : PV := .tup [.str b.name, .tup (b.times.map PV.int), .tup (b.deed.map PV.int)]
def eQ (q : Que) : PV := .tup [.int q.s, .tup (q.gives.map PV.int), .int q.t, .tup (q.takes.map PV.int), .tup (q.start.map PV.int)]
def BlkOK (b : Blk) : Prop := NameOK b.name ∧ 1 ≤ b.times.length ∧ b.times.length ≤ 6 ∧ NumsP 60 b.times ∧ b.deed.length = 2 ∧ NumsP 9972 b.deed
def QueOK (bs : List Blk) (q : Que) : Prop := ∃ b1 b2, bs[q.s]? = some b1 ∧ bs[q.t]? = some b2 ∧ RatesP b1.times.length q.gives ∧ RatesP b2.times.length q.takes ∧ q.start.length ≤ 60 ∧ NumsP 9972 q.start
structure GrOK (bs : List Blk) (qs : List Que) : Prop where
  b1 : 1 ≤ bs.length
  b2 : bs.length ≤ 60
  q2 : qs.length ≤ 160
  bo : ∀ b ∈ bs, BlkOK b
  nd : (bs.map (·.name)).Nodup
  qo : ∀ q ∈ qs, QueOK bs q
def eG (bs : List Blk) (qs : List Que) : PV := .tup [.tup (bs.map eB), .tup (qs.map eQ)]
@[simp] theorem eB_own (b : Blk) : (eB b).own = false := by simp [eB]
@[simp] theorem eQ_own (b : Que) : (eQ b).own = false := by simp [eQ]
@[simp] theorem eBs_own (bs : List Blk) : PV.owns (bs.map eB) = false := owns_of fun x hx => by
  obtain ⟨b, _, rfl⟩ := List.mem_map.mp hx
  exact eB_own b
@[simp] theorem eQs_own (bs : List Que) : PV.owns (bs.map eQ) = false := owns_of fun x hx => by
  obtain ⟨b, _, rfl⟩ := List.mem_map.mp hx
  exact eQ_own b
@[simp] theorem eB_frz (b : Blk) : frzP (eB b) = some (eB b) := frz_id (eB_own b)
@[simp] theorem eQ_frz (b : Que) : frzP (eQ b) = some (eQ b) := frz_id (eQ_own b)
@[simp] theorem ix_eB0 (b : Blk) : pIx [eB b, .int 0] = some (.str b.name) := by simp [eB]
@[simp] theorem ix_eB1 (b : Blk) : pIx [eB b, .int 1] = some (.tup (b.times.map PV.int)) := by simp [eB]
@[simp] theorem ix_eB2 (b : Blk) : pIx [eB b, .int 2] = some (.tup (b.deed.map PV.int)) := by simp [eB]
@[simp] theorem isi_tup (xs : List PV) : pIsi "tuple" [.tup xs] = some (.bl true) := rfl
@[simp] theorem isi_tupL (o : Bool) (xs : List PV) : pIsi "tuple" [.lst o xs] = some (.bl false) := rfl
@[simp] theorem isi_ii (i : Int) : pIsi "int" [.int i] = some (.bl true) := rfl
@[simp] theorem isi_ib (i : Bool) : pIsi "int" [.bl i] = some (.bl true) := rfl
@[simp] theorem isi_bi (i : Int) : pIsi "bool" [.int i] = some (.bl false) := rfl
@[simp] theorem isi_bb (i : Bool) : pIsi "bool" [.bl i] = some (.bl true) := rfl
@[simp] theorem isi_ss (i : Str) : pIsi "str" [.str i] = some (.bl true) := rfl
theorem in_sg (n : Bool) (c : Nat) (a : List Nat) : pIn n [.str (Sg [c]), .str (Sg a)] = some (.bl (if n then !decide (c ∈ a) else decide (c ∈ a))) := by
  show some (inStr n (Sg [c]) (Sg a)) = _
  unfold inStr
  rw [_root_.SX.in_one]
theorem all_bools (o : Bool) (bs : List Bool) : pAll [.lst o (bs.map PV.bl)] = some (.bl (bs.all id)) := by
  have e : ∀ bs : List Bool, boolsP (bs.map PV.bl) = some bs := by
    intro bs
    induction bs with
    | nil => rfl
    | cons b bs ih => simp [boolsP, ih]
  show (boolsP (bs.map PV.bl)).map _ = _
  rw [e]; rfl
theorem all_map {α : Type} (o : Bool) (l : List α) (f : α → Bool) : pAll [.lst o (l.map fun x => PV.bl (f x))] = some (.bl (l.all f)) := by
  have := all_bools o (l.map f)
  rw [List.map_map, List.all_map] at this
  exact this
theorem len_str {c : List Nat} (h : c.length ≤ LIM) : pLen1 (.str (Sg c)) = some (.int c.length) := by
  show (if (Sg c).length ≤ LIM then some (PV.int (Sg c).length) else none) = _
  rw [_root_.SX.S_len, if_pos h]
theorem name_val {c : List Nat} (hl : c.length ≤ 1000000) : C_is_name [.str (Sg c)] = .ok (.bl (nameB c)) [.str (Sg c)] := by
  have e0 : (Sg c).length = c.length := _root_.SX.S_len c
  have hll : c.length ≤ LIM := lim_le (by omega)
  have hls := len_str hll
  have hdef : C_is_name = runB 2 1 [0] (mSeq (mIf (mOr (mNot (mT (mOp (pIsi "str") (oCons (oN 0) oNil)))) (mNot (mT (mChain pLe pLe (oE (mC (.int 1))) (oE (mOp pLen (oCons (oN 0) (oNil)))) (oE (mC (.int 16))))))) (mRet (mC (.bl false))) (mNx))
  (mRet (mAndV (mOp (pIn false) (oCons (oE (mOp pIx (oCons (oN 0) (oCons (oE (mC (.int 0))) oNil)))) (oCons (oE (mC (.str (Sg LETC)))) oNil))) (mOp pAll (oCons (oE (mComp (oCons (oN 0) oNil) itSeq (t1 1) (mYes) (mOp (pIn false) (oCons (oN 1) (oCons (oE (mC (.str (Sg SIGC)))) oNil))) [1])) (oNil)))))) := by
    unfold C_is_name m_is_name
    rw [lit_sig, lit_let]
  rw [hdef]
  cases c with
  | nil =>
    simp [runB, hls, e0, pLe, nameB]
  | cons a r =>
    have hx : pIx [.str (Sg (a :: r)), .int 0] = some (.str (Sg [a])) := ix_str (by omega) (by omega) rfl
    have hc : compL (t1 1) mYes (mOp (pIn false) (oCons (oN 1) (oCons (oE (mC (.str (Sg SIGC)))) oNil))) [1] ((a :: r).map fun c => PV.str ⟨#[c]⟩) [some (.str (Sg (a :: r))), none] [] = .ok ([] ++ ((a :: r).map fun c => PV.str ⟨#[c]⟩).map fun x => match x with | .str y => .bl (decide (y.cps.toList.headD 0 ∈ SIGC)) | _ => .non) [some (.str (Sg (a :: r))), none] := by
      refine compL_map (fun x hx => ?_) []
      obtain ⟨y, _, rfl⟩ := List.mem_map.mp hx
      refine ⟨[some (.str (Sg (a :: r))), some (.str ⟨#[y]⟩)], [some (.str (Sg (a :: r))), some (.str ⟨#[y]⟩)], by simp, ?_, by simp⟩
      have := in_sg false y SIGC
      simp only [Bool.false_eq_true, if_false] at this
      simp [this]
    rw [List.nil_append, List.map_map, show ((fun x : PV => match x with | .str y => PV.bl (decide (y.cps.toList.headD 0 ∈ SIGC)) | _ => .non) ∘ fun c : Nat => PV.str ⟨#[c]⟩) = fun c : Nat => PV.bl (decide (c ∈ SIGC)) from rfl] at hc
    have ha := all_map true (a :: r) fun c => decide (c ∈ SIGC)
    have hi := in_sg false a LETC
    simp only [Bool.false_eq_true, if_false] at hi
    by_cases h16 : (a :: r).length ≤ 16
    · by_cases hL : a ∈ LETC
      · simp only [List.map_cons] at hc ha
        have h1 : (1 : Int) ≤ (r.length : Int) + 1 := by omega
        have h2 : (r.length : Int) + 1 ≤ 16 := by simp at h16; omega
        have h3 : r.length ≤ 15 := by simp at h16; omega
        have h4 : r.length + 1 ≤ LIM := by simpa using hll
        simp [runB, hls, e0, pLe, nameB, hx, hi, hL, h1, h2, h3, h4, hc, ha]
      · have h1 : (1 : Int) ≤ (r.length : Int) + 1 := by omega
        have h2 : (r.length : Int) + 1 ≤ 16 := by simp at h16; omega
        simp [runB, hls, e0, pLe, nameB, hx, hi, hL, h1, h2]
    · have h1 : (1 : Int) ≤ (r.length : Int) + 1 := by omega
      have h2 : ¬ (r.length : Int) + 1 ≤ 16 := by simp at h16; omega
      have h3 : ¬ r.length ≤ 15 := by simp at h16; omega
      simp [runB, hls, e0, pLe, nameB, h1, h2, h3]
def NumV : PV → Bool
  | .int _ => true
  | .bl _ => true
  | _ => false
def wholeV (lo hi : Int) : PV → Bool
  | .int i => decide (lo ≤ i) && decide (i ≤ hi)
  | _ => false
theorem whole_val {x : PV} {lo hi : Int} (h : NumV x = true) : C_whole [x, .int lo, .int hi] = .ok (.bl (wholeV lo hi x)) [x, .int lo, .int hi] := by
  cases x with
  | int i =>
    by_cases h1 : lo ≤ i <;> by_cases h2 : i ≤ hi <;> simp [C_whole, runB, m_whole, pLe, wholeV, h1, h2]
  | bl b => simp [C_whole, runB, m_whole, wholeV]
  | _ => simp [NumV] at h
theorem numV_own {x : PV} (h : NumV x = true) : x.own = false := by
  cases x with
  | int i => rfl
  | bl b => rfl
  | _ => simp [NumV] at h
def NumsSh : PV → Prop
  | .tup xs => (∀ y ∈ xs, NumV y = true) ∧ xs.length ≤ 1000000
  | .lst o xs => o = false ∧ (∀ y ∈ xs, NumV y = true) ∧ xs.length ≤ 1000000
  | _ => False
def numsV (lo hi : Int) : PV → Bool
  | .tup xs => xs.all (wholeV lo hi)
  | _ => false
def lenV : PV → Nat
  | .tup xs => xs.length
  | _ => 0
theorem nums_own {xs : List PV} (h : ∀ y ∈ xs, NumV y = true) : PV.owns xs = false := owns_of fun y hy => numV_own (h y hy)
theorem nums_val {x : PV} {lo hi : Int} (h : NumsSh x) : C_is_numbers [x, .int lo, .int hi] = .ok (.bl (numsV lo hi x)) [x, .int lo, .int hi] := by
  cases x with
  | tup xs =>
    obtain ⟨h1, h2⟩ := h
    have ho := nums_own h1
    have hl : xs.length ≤ LIM := lim_le (by omega)
    have hc : compL (t1 3) mYes (mFz (mCallN 3 C_whole (oCons (oN 3) (oCons (oN 1) (oCons (oN 2) (oNil)))))) [3] xs [some (.tup xs), some (.int lo), some (.int hi), none] [] = .ok ([] ++ xs.map fun x => .bl (wholeV lo hi x)) [some (.tup xs), some (.int lo), some (.int hi), none] := by
      refine compL_map (fun x hx => ?_) []
      have e := whole_val (lo := lo) (hi := hi) (h1 x hx)
      have o := numV_own (h1 x hx)
      refine ⟨[some (.tup xs), some (.int lo), some (.int hi), some x], [some (.tup xs), some (.int lo), some (.int hi), some x], by simp, by simp [e, o], by simp⟩
    have ha := all_map true xs (wholeV lo hi)
    simp at hc
    simp [C_is_numbers, runB, m_is_numbers, ho, hl, hc, ha, numsV]
  | lst o xs =>
    obtain ⟨rfl, h1, h2⟩ := h
    have ho := nums_own h1
    simp [C_is_numbers, runB, m_is_numbers, ho, numsV]
  | _ => exact absurd h (by simp [NumsSh])
theorem numsSh_own {x : PV} (h : NumsSh x) : x.own = false := by
  cases x with
  | tup xs => simpa using nums_own h.1
  | lst o xs => obtain ⟨rfl, h1, h2⟩ := h; simpa using nums_own h1
  | _ => exact absurd h (by simp [NumsSh])
def timesV (x : PV) : Bool := numsV 0 60 x && (decide (1 ≤ lenV x) && decide (lenV x ≤ 6))
def deedV (x : PV) : Bool := numsV 0 9972 x && decide (lenV x = 2)
def startV (x : PV) : Bool := numsV 0 9972 x && decide (lenV x ≤ 60)
theorem numsV_tup {lo hi : Int} {x : PV} (h : numsV lo hi x = true) : ∃ xs, x = .tup xs := by
  cases x with
  | tup xs => exact ⟨xs, rfl⟩
  | _ => simp [numsV] at h
theorem times_val {x : PV} (h : NumsSh x) : C_is_times [x] = .ok (.bl (timesV x)) [x] := by
  have e := nums_val (lo := 0) (hi := 60) h
  have o := numsSh_own h
  cases hv : numsV 0 60 x with
  | false => rw [hv] at e; simp [C_is_times, runB, m_is_times, o, e, timesV, hv]
  | true =>
    obtain ⟨xs, rfl⟩ := numsV_tup hv
    rw [hv] at e
    have o2 : PV.owns xs = false := by simpa using o
    by_cases h1 : 1 ≤ xs.length <;> by_cases h2 : xs.length ≤ 6
    · have h3 : (1 : Int) ≤ xs.length := by omega
      have h4 : (xs.length : Int) ≤ 6 := by omega
      simp [C_is_times, runB, m_is_times, o2, e, timesV, hv, pLe, h1, h2, h3, h4, lenV]
    · have h3 : (1 : Int) ≤ xs.length := by omega
      have h4 : ¬ (xs.length : Int) ≤ 6 := by omega
      simp [C_is_times, runB, m_is_times, o2, e, timesV, hv, pLe, h1, h2, h3, h4, lenV]
    · have h3 : ¬ (1 : Int) ≤ xs.length := by omega
      simp [C_is_times, runB, m_is_times, o2, e, timesV, hv, pLe, h1, h2, h3, lenV]
    · omega
theorem deed_val {x : PV} (h : NumsSh x) : C_is_deed [x] = .ok (.bl (deedV x)) [x] := by
  have e := nums_val (lo := 0) (hi := 9972) h
  have o := numsSh_own h
  cases hv : numsV 0 9972 x with
  | false => rw [hv] at e; simp [C_is_deed, runB, m_is_deed, o, e, deedV, hv]
  | true =>
    obtain ⟨xs, rfl⟩ := numsV_tup hv
    rw [hv] at e
    have o2 : PV.owns xs = false := by simpa using o
    by_cases h1 : xs.length = 2
    · simp [C_is_deed, runB, m_is_deed, o2, e, deedV, hv, h1, lenV]
    · have h3 : ¬ (xs.length : Int) = 2 := by omega
      simp [C_is_deed, runB, m_is_deed, o2, e, deedV, hv, h1, h3, lenV]
theorem start_val {x : PV} (h : NumsSh x) : C_is_start [x] = .ok (.bl (startV x)) [x] := by
  have e := nums_val (lo := 0) (hi := 9972) h
  have o := numsSh_own h
  cases hv : numsV 0 9972 x with
  | false => rw [hv] at e; simp [C_is_start, runB, m_is_start, o, e, startV, hv]
  | true =>
    obtain ⟨xs, rfl⟩ := numsV_tup hv
    rw [hv] at e
    have o2 : PV.owns xs = false := by simpa using o
    by_cases h1 : xs.length ≤ 60
    · have h3 : (xs.length : Int) ≤ 60 := by omega
      simp [C_is_start, runB, m_is_start, o2, e, startV, hv, h1, h3, lenV, pLe]
    · have h3 : ¬ (xs.length : Int) ≤ 60 := by omega
      simp [C_is_start, runB, m_is_start, o2, e, startV, hv, h1, h3, lenV, pLe]
def toI : PV → Int
  | .int i => i
  | _ => 0
def sumV : PV → Int
  | .tup xs => (xs.map toI).sum
  | _ => 0
def ratesV (size : Nat) (x : PV) : Bool := numsV 0 12 x && (decide (lenV x = size) && decide (0 < sumV x))
theorem whole_ints {lo hi : Int} : ∀ {xs : List PV}, xs.all (wholeV lo hi) = true → (xs.map toI).map PV.int = xs
  | [], _ => rfl
  | x :: xs, h => by
    rw [List.all_cons, Bool.and_eq_true] at h
    rw [List.map_cons, List.map_cons, whole_ints h.2]
    cases x with
    | int i => rfl
    | _ => simp [wholeV] at h
theorem rates_val {x : PV} {size : Nat} (h : NumsSh x) : C_is_rates [x, .int size] = .ok (.bl (ratesV size x)) [x, .int size] := by
  have e := nums_val (lo := 0) (hi := 12) h
  have o := numsSh_own h
  cases hv : numsV 0 12 x with
  | false => rw [hv] at e; simp [C_is_rates, runB, m_is_rates, o, e, ratesV, hv]
  | true =>
    obtain ⟨xs, rfl⟩ := numsV_tup hv
    rw [hv] at e
    have o2 : PV.owns xs = false := by simpa using o
    have hs : pSum [.tup xs] = some (.int (xs.map toI).sum) := by
      have := sum_ofT (xs.map toI)
      rwa [whole_ints hv] at this
    by_cases h1 : xs.length = size
    · have h3 : (xs.length : Int) = size := by omega
      simp [C_is_rates, runB, m_is_rates, o2, e, ratesV, hv, h1, h3, lenV, hs, pGt, sumV]
      try rfl
    · have h3 : ¬ (xs.length : Int) = size := by omega
      simp [C_is_rates, runB, m_is_rates, o2, e, ratesV, hv, h1, h3, lenV]
structure Bk where
  c : List Nat
  t : PV
  u : PV
def eK (b : Bk) : PV := .tup [.str (Sg b.c), b.t, b.u]
structure BkSh (b : Bk) : Prop where
  c : b.c.length ≤ 1000000
  t : NumsSh b.t
  u : NumsSh b.u
def bkV (b : Bk) : Bool := nameB b.c && (timesV b.t && deedV b.u)
theorem eK_own {b : Bk} (h : BkSh b) : (eK b).own = false := by
  have h1 := numsSh_own h.t
  have h2 := numsSh_own h.u
  simp [eK, h1, h2]
theorem blk_val {b : Bk} (h : BkSh b) : C_is_block [eK b] = .ok (.bl (bkV b)) [eK b] := by
  have e1 := name_val h.c
  have e2 := times_val h.t
  have e3 := deed_val h.u
  have o1 := numsSh_own h.t
  have o2 := numsSh_own h.u
  cases h1 : nameB b.c with
  | false => rw [h1] at e1; simp [C_is_block, runB, m_is_block, eK, o1, o2, e1, bkV, h1]
  | true =>
    rw [h1] at e1
    cases h2 : timesV b.t with
    | false => rw [h2] at e2; simp [C_is_block, runB, m_is_block, eK, o1, o2, e1, e2, bkV, h1, h2]
    | true => rw [h2] at e2; simp [C_is_block, runB, m_is_block, eK, o1, o2, e1, e2, e3, bkV, h1, h2]
/-- a queue as it may be told -/
structure Qk where
  s : PV
  g : PV
  t : PV
  k : PV
  st : PV
def eR (q : Qk) : PV := .tup [q.s, q.g, q.t, q.k, q.st]
structure QkSh (q : Qk) : Prop where
  s : NumV q.s = true
  g : NumsSh q.g
  t : NumV q.t = true
  k : NumsSh q.k
  st : NumsSh q.st
def tlen (bs : List Blk) : PV → Nat
  | .int i => match bs[i.toNat]? with | some b => b.times.length | none => 0
  | _ => 0
def qkV (bs : List Blk) (q : Qk) : Bool := (wholeV 0 ((bs.length : Int) - 1) q.s && wholeV 0 ((bs.length : Int) - 1) q.t) && (ratesV (tlen bs q.s) q.g && (ratesV (tlen bs q.t) q.k && startV q.st))
theorem whole_int {lo hi : Int} {x : PV} (h : wholeV lo hi x = true) : ∃ i, x = .int i ∧ lo ≤ i ∧ i ≤ hi := by
  cases x with
  | int i => simp [wholeV] at h; exact ⟨i, rfl, h.1, h.2⟩
  | _ => simp [wholeV] at h
theorem que_val {q : Qk} {bs : List Blk} (h : QkSh q) (hb : bs.length ≤ 1000) : C_is_queue [eR q, .tup (bs.map eB)] = .ok (.bl (qkV bs q)) [eR q, .tup (bs.map eB)] := by
  have os := numV_own h.s
  have ot := numV_own h.t
  have og := numsSh_own h.g
  have ok := numsSh_own h.k
  have ost := numsSh_own h.st
  have e1 := whole_val (lo := 0) (hi := (bs.length : Int) - 1) h.s
  have e2 := whole_val (lo := 0) (hi := (bs.length : Int) - 1) h.t
  cases v1 : wholeV 0 ((bs.length : Int) - 1) q.s with
  | false => rw [v1] at e1; simp [C_is_queue, runB, m_is_queue, eR, os, ot, og, ok, ost, e1, qkV, v1]
  | true =>
    rw [v1] at e1
    cases v2 : wholeV 0 ((bs.length : Int) - 1) q.t with
    | false => rw [v2] at e2; simp [C_is_queue, runB, m_is_queue, eR, os, ot, og, ok, ost, e1, e2, qkV, v1, v2]
    | true =>
      rw [v2] at e2
      obtain ⟨i, ei, i0, i1⟩ := whole_int v1
      obtain ⟨j, ej, j0, j1⟩ := whole_int v2
      have hi : bs[i.toNat]? = some bs[i.toNat] := List.getElem?_eq_getElem (by omega)
      have hj : bs[j.toNat]? = some bs[j.toNat] := List.getElem?_eq_getElem (by omega)
      have a1 : atI (bs.map eB) i = some (eB bs[i.toNat]) := atI_of i0 (by rw [List.getElem?_map, hi]; rfl)
      have a2 : atI (bs.map eB) j = some (eB bs[j.toNat]) := atI_of j0 (by rw [List.getElem?_map, hj]; rfl)
      have t1 : tlen bs q.s = (bs[i.toNat]).times.length := by rw [ei]; simp only [tlen, hi]
      have t2 : tlen bs q.t = (bs[j.toNat]).times.length := by rw [ej]; simp only [tlen, hj]
      have e3 := rates_val (size := (bs[i.toNat]).times.length) h.g
      have e4 := rates_val (size := (bs[j.toNat]).times.length) h.k
      have e5 := start_val h.st
      rw [ei] at e1
      rw [ej] at e2
      cases v3 : ratesV (bs[i.toNat]).times.length q.g with
      | false => rw [v3] at e3; simp [C_is_queue, runB, m_is_queue, eR, ei, ej, og, ok, ost, e1, e2, qkV, a1, a2, e3]; simp [← ei, ← ej, v1, v2, t1, v3]
      | true =>
        rw [v3] at e3
        cases v4 : ratesV (bs[j.toNat]).times.length q.k with
        | false => rw [v4] at e4; simp [C_is_queue, runB, m_is_queue, eR, ei, ej, og, ok, ost, e1, e2, qkV, a1, a2, e3, e4]; simp [← ei, ← ej, v1, v2, t1, v3, t2, v4]
        | true => rw [v4] at e4; simp [C_is_queue, runB, m_is_queue, eR, ei, ej, og, ok, ost, e1, e2, qkV, a1, a2, e3, e4, e5]; simp [← ei, ← ej, v1, v2, t1, v3, t2, v4]
@[simp] theorem ap_LenSc (os : M (List Pnd)) (it : List PV → Option (List PV)) (t : PV → Sl → Option Sl) (cond : M Bool) (el : M PV) (own : List Nat) (s : Sl) : mLenSc os it t cond el own s = (os s).bind fun ps s1 => match takeP ps s1 with
  | none => .bad
  | some (vals, s2) => match it vals with
    | none => .bad
    | some xs => if xs.length ≤ 4000 then (match keysL t cond el own xs (wipeS s2 own) [] with
      | .ok acc s3 => .ok (.int acc.length) (putP ps vals s3)
      | _ => .bad) else .bad := Eq.trans rfl rfl
def keysOf (bks : List Bk) : List Key := bks.map fun b => .inr (Sg b.c)
theorem keys_nodup {bks : List Bk} : (keysOf bks).Nodup ↔ (bks.map (·.c)).Nodup := by
  have e : keysOf bks = (bks.map (·.c)).map fun c => (.inr (Sg c) : Key) := by rw [List.map_map]; rfl
  rw [e]
  constructor
  · intro h
    generalize bks.map (·.c) = l at h
    induction l with
    | nil => exact List.nodup_nil
    | cons x l ih =>
      rw [List.map_cons, List.nodup_cons] at h
      exact List.nodup_cons.mpr ⟨fun hx => h.1 (List.mem_map_of_mem hx), ih h.2⟩
  · exact nodup_map fun a b h => _root_.SX.S_inj (Sum.inr.inj h)
def gOK (bks : List Bk) (xs : List PV) : Prop := (1 ≤ bks.length ∧ bks.length ≤ 60) ∧ xs.length ≤ 160 ∧ (∀ b ∈ bks, bkV b = true) ∧ (bks.map (·.c)).Nodup
def eGk (bks : List Bk) (xs : List PV) : PV := .tup [.tup (bks.map eK), .tup xs]
theorem eKs_own {bks : List Bk} (h : ∀ b ∈ bks, BkSh b) : PV.owns (bks.map eK) = false := owns_of fun x hx => by
  obtain ⟨b, hb, rfl⟩ := List.mem_map.mp hx
  exact eK_own (h b hb)
theorem comp_blk {bks : List Bk} (h : ∀ b ∈ bks, BkSh b) (a0 a2 a3 a4 : Option PV) : compL (t1 1) mYes (mFz (mCallN 1 C_is_block (oCons (oN 1) (oNil)))) [1] (bks.map eK) [a0, none, a2, a3, a4] [] = .ok ((bks.map fun b => PV.bl (bkV b))) [a0, none, a2, a3, a4] := by
  have : compL (t1 1) mYes (mFz (mCallN 1 C_is_block (oCons (oN 1) (oNil)))) [1] (bks.map eK) [a0, none, a2, a3, a4] [] = .ok ([] ++ (bks.map eK).map fun x => match C_is_block [x] with | .ok y _ => y | _ => .non) [a0, none, a2, a3, a4] := by
    refine compL_map (fun x hx => ?_) []
    obtain ⟨b, hb, rfl⟩ := List.mem_map.mp hx
    have e := blk_val (h b hb)
    have o := eK_own (h b hb)
    exact ⟨[a0, some (eK b), a2, a3, a4], [a0, some (eK b), a2, a3, a4], by simp, by simp [e, o], by simp⟩
  rw [this, List.nil_append, List.map_map]
  congr 1
  refine List.map_congr_left fun b hb => ?_
  simp [blk_val (h b hb)]
theorem keys_blk {bks : List Bk} (h : ∀ b ∈ bks, BkSh b) (a0 a2 a3 a4 : Option PV) : keysL (t1 1) mYes (mFz (mOp pIx (oCons (oN 1) (oCons (oE (mC (.int 0))) oNil)))) [1] (bks.map eK) [a0, none, a2, a3, a4] [] = .ok ((keysOf bks).foldl insK []) [a0, none, a2, a3, a4] := by
  have : keysL (t1 1) mYes (mFz (mOp pIx (oCons (oN 1) (oCons (oE (mC (.int 0))) oNil)))) [1] (bks.map eK) [a0, none, a2, a3, a4] [] = .ok (((bks.map eK).map fun x => match pIx [x, .int 0] with | some (.str y) => (.inr y : Key) | _ => .inl 0).foldl insK []) [a0, none, a2, a3, a4] := by
    refine keysL_map (g := fun x => match pIx [x, .int 0] with | some y => y | _ => .non) (fun x hx => ?_) []
    obtain ⟨b, hb, rfl⟩ := List.mem_map.mp hx
    have o := eK_own (h b hb)
    have e : pIx [eK b, .int 0] = some (.str (Sg b.c)) := by simp [eK]
    refine ⟨[a0, some (eK b), a2, a3, a4], [a0, some (eK b), a2, a3, a4], by simp, by simp [o, e], by simp [e, keyP], by simp⟩
  rw [this, List.map_map]
  congr 2
theorem graph_run {bks : List Bk} {xs : List PV} (h : ∀ b ∈ bks, BkSh b) (hl : bks.length ≤ 1000) (hx : PV.owns xs = false) (hxl : xs.length ≤ 1000) :
    (¬ gOK bks xs → C_is_graph [eGk bks xs] = .ok (.bl false) [eGk bks xs]) ∧
    (∀ f : PV → Bool, gOK bks xs → (∀ x ∈ xs, C_is_queue [x, .tup (bks.map eK)] = .ok (.bl (f x)) [x, .tup (bks.map eK)]) → C_is_graph [eGk bks xs] = .ok (.bl (xs.all f)) [eGk bks xs]) := by
  have ho := eKs_own h
  have l1 : bks.length ≤ LIM := lim_le (by omega)
  have l2 : xs.length ≤ LIM := lim_le (by omega)
  have l3 : bks.length ≤ 4000 := by omega
  have ha := all_map true bks bkV
  have hc := comp_blk h (some (eGk bks xs)) none (some (.tup (bks.map eK))) (some (.tup xs))
  have hk := keys_blk h (some (eGk bks xs)) none (some (.tup (bks.map eK))) (some (.tup xs))
  unfold eGk at hc hk
  by_cases c1 : 1 ≤ bks.length
  case neg =>
    have d1 : ¬ (1 : Int) ≤ bks.length := by omega
    exact ⟨fun _ => by simp [C_is_graph, runB, m_is_graph, eGk, ho, hx, pLe, d1], fun f g _ => absurd g.1.1 c1⟩
  have d1 : (1 : Int) ≤ bks.length := by omega
  by_cases c2 : bks.length ≤ 60
  case neg =>
    have d2 : ¬ (bks.length : Int) ≤ 60 := by omega
    exact ⟨fun _ => by simp [C_is_graph, runB, m_is_graph, eGk, ho, hx, pLe, d1, d2], fun f g _ => absurd g.1.2 c2⟩
  have d2 : (bks.length : Int) ≤ 60 := by omega
  by_cases c3 : xs.length ≤ 160
  case neg =>
    have d3 : ((160 : Int) < xs.length) := by omega
    exact ⟨fun _ => by simp [C_is_graph, runB, m_is_graph, eGk, ho, hx, pLe, pGt, d1, d2, d3], fun f g _ => absurd g.2.1 c3⟩
  have d3 : ¬ ((160 : Int) < xs.length) := by omega
  cases c4 : bks.all bkV with
  | false =>
    rw [c4] at ha
    exact ⟨fun _ => by simp [C_is_graph, runB, m_is_graph, eGk, ho, hx, pLe, pGt, d1, d2, d3, l1, hc, ha], fun f g _ => absurd (List.all_eq_true.mpr g.2.2.1) (by rw [c4]; simp)⟩
  | true =>
    rw [c4] at ha
    by_cases c5 : (bks.map (·.c)).Nodup
    · have e1 := insK_fold_nodup (keysOf bks) [] (by simp) (keys_nodup.mpr c5)
      have e2 : ((keysOf bks).foldl insK []).length = bks.length := by rw [e1]; simp [keysOf]
      refine ⟨fun g => absurd ⟨⟨c1, c2⟩, c3, List.all_eq_true.mp c4, c5⟩ g, fun f g hq => ?_⟩
      have hcq : compL (t1 2) mYes (mFz (mCallN 2 C_is_queue (oCons (oN 2) (oCons (oN 3) (oNil))))) [2] xs [some (.tup [.tup (bks.map eK), .tup xs]), none, none, some (.tup (bks.map eK)), some (.tup xs)] [] = .ok ([] ++ xs.map fun x => PV.bl (f x)) [some (.tup [.tup (bks.map eK), .tup xs]), none, none, some (.tup (bks.map eK)), some (.tup xs)] := by
        refine compL_map (fun x hx2 => ?_) []
        have e := hq x hx2
        have o := owns_mem hx hx2
        exact ⟨[some (.tup [.tup (bks.map eK), .tup xs]), none, some x, some (.tup (bks.map eK)), some (.tup xs)], [some (.tup [.tup (bks.map eK), .tup xs]), none, some x, some (.tup (bks.map eK)), some (.tup xs)], by simp, by simp [e, o, ho], by simp⟩
      rw [List.nil_append] at hcq
      have haq := all_map true xs f
      simp [C_is_graph, runB, m_is_graph, eGk, ho, hx, pLe, pGt, d1, d2, d3, l1, l2, l3, hc, ha, hk, e2, hcq, haq]
    · have e1 := insK_fold_lt (keysOf bks) [] (fun z => c5 (keys_nodup.mp z.2))
      have e2 : ¬ ((((keysOf bks).foldl insK []).length : Int) = bks.length) := by
        have : (keysOf bks).length = bks.length := by simp [keysOf]
        simp at e1
        omega
      exact ⟨fun _ => by simp [C_is_graph, runB, m_is_graph, eGk, ho, hx, pLe, pGt, d1, d2, d3, l1, l3, hc, ha, hk, e2], fun f g _ => absurd g.2.2.2 c5⟩
def toK (b : Blk) : Bk := ⟨b.name.cps.toList, eI b.times, eI b.deed⟩
theorem eK_toK (b : Blk) : eK (toK b) = eB b := by
  unfold eK toK eB eI
  rw [show Sg b.name.cps.toList = b.name from _root_.SX.S_tl b.name]
theorem eKs_toK (bs : List Blk) : (bs.map toK).map eK = bs.map eB := by
  rw [List.map_map]
  exact List.map_congr_left fun b _ => eK_toK b
theorem numsSh_ints {l : List Int} (h : l.length ≤ 1000000) : NumsSh (eI l) := ⟨fun y hy => by
  obtain ⟨i, _, rfl⟩ := List.mem_map.mp hy
  rfl, by rw [List.length_map]; exact h⟩
theorem numsV_ints {l : List Int} {hi : Int} (h : NumsP hi l) : numsV 0 hi (eI l) = true := by
  show (l.map PV.int).all (wholeV 0 hi) = true
  rw [List.all_eq_true]
  intro y hy
  obtain ⟨i, hi, rfl⟩ := List.mem_map.mp hy
  simp [wholeV, h i hi]
@[simp] theorem lenV_ints (l : List Int) : lenV (eI l) = l.length := by simp [lenV, eI]
theorem NameOK.val {y : Str} (h : NameOK y) : nameB y.cps.toList = true ∧ y.cps.toList.length ≤ 16 := by
  obtain ⟨c, rfl, h⟩ := h
  refine ⟨h, ?_⟩
  show c.length ≤ 16
  cases c with
  | nil => simp
  | cons a r =>
    simp only [nameB, Bool.and_eq_true, decide_eq_true_eq] at h
    exact h.1.2
theorem toK_sh {b : Blk} (h : BlkOK b) : BkSh (toK b) := by
  obtain ⟨h1, h2, h3, h4, h5, h6⟩ := h
  exact ⟨by have := h1.val.2; show b.name.cps.toList.length ≤ 1000000; omega, numsSh_ints (by omega), numsSh_ints (by omega)⟩
theorem toK_val {b : Blk} (h : BlkOK b) : bkV (toK b) = true := by
  obtain ⟨h1, h2, h3, h4, h5, h6⟩ := h
  simp [bkV, toK, timesV, deedV, h1.val.1, numsV_ints h4, numsV_ints h6, h2, h3, h5]
theorem names_toK {bs : List Blk} (h : (bs.map (·.name)).Nodup) : ((bs.map toK).map (·.c)).Nodup := by
  have e : (bs.map toK).map (·.c) = (bs.map (·.name)).map fun y => y.cps.toList := by rw [List.map_map, List.map_map]; rfl
  rw [e]
  exact nodup_map (fun a b e => by rw [← _root_.SX.S_tl a, ← _root_.SX.S_tl b, e]) h
def toQ (q : Que) : Qk := ⟨.int q.s, eI q.gives, .int q.t, eI q.takes, eI q.start⟩
theorem eR_toQ (q : Que) : eR (toQ q) = eQ q := rfl
theorem toI_ints (l : List Int) : sumV (eI l) = l.sum := by
  show ((l.map PV.int).map toI).sum = _
  rw [List.map_map, show toI ∘ PV.int = id from rfl, List.map_id]
theorem rates_good {n : Nat} {l : List Int} (h : RatesP n l) : ratesV n (eI l) = true := by
  obtain ⟨h1, h2, h3⟩ := h
  simp [ratesV, numsV_ints h2, toI_ints, h1, h3]
theorem toQ_sh {bs : List Blk} {q : Que} (hb : ∀ b ∈ bs, BlkOK b) (h : QueOK bs q) : QkSh (toQ q) := by
  obtain ⟨b1, b2, e1, e2, h1, h2, h3, h4⟩ := h
  have a1 := (hb b1 (List.mem_of_getElem? e1)).2.2.1
  have a2 := (hb b2 (List.mem_of_getElem? e2)).2.2.1
  exact ⟨rfl, numsSh_ints (by rw [h1.1]; omega), rfl, numsSh_ints (by rw [h2.1]; omega), numsSh_ints (by omega)⟩
theorem toQ_val {bs : List Blk} {q : Que} (h : QueOK bs q) : qkV bs (toQ q) = true := by
  obtain ⟨b1, b2, e1, e2, h1, h2, h3, h4⟩ := h
  have a1 := (List.getElem?_eq_some_iff.mp e1).1
  have a2 := (List.getElem?_eq_some_iff.mp e2).1
  have t1 : tlen bs (.int q.s) = b1.times.length := by simp [tlen, e1]
  have t2 : tlen bs (.int q.t) = b2.times.length := by simp [tlen, e2]
  simp [qkV, toQ, wholeV, t1, t2, rates_good h1, rates_good h2, startV, numsV_ints h4, h3]
  omega
theorem graph_good {bs : List Blk} {qs : List Que} (h : GrOK bs qs) : C_is_graph [eG bs qs] = .ok (.bl true) [eG bs qs] := by
  have e : eG bs qs = eGk (bs.map toK) (qs.map eQ) := by unfold eG eGk; rw [eKs_toK]
  have r := (graph_run (bks := bs.map toK) (xs := qs.map eQ) (fun b hb => by
    obtain ⟨c, hc, rfl⟩ := List.mem_map.mp hb
    exact toK_sh (h.bo c hc)) (by rw [List.length_map]; have := h.b2; omega) (eQs_own qs) (by rw [List.length_map]; have := h.q2; omega)).2 (fun _ => true) ⟨by rw [List.length_map]; exact ⟨h.b1, h.b2⟩, by rw [List.length_map]; exact h.q2, fun b hb => by
      obtain ⟨c, hc, rfl⟩ := List.mem_map.mp hb
      exact toK_val (h.bo c hc), names_toK h.nd⟩ (fun x hx => by
      obtain ⟨q, hq, rfl⟩ := List.mem_map.mp hx
      rw [eKs_toK, ← eR_toQ, que_val (toQ_sh h.bo (h.qo q hq)) (by have := h.b2; omega), toQ_val (h.qo q hq)])
  rw [e, r]
  simp
theorem check_good {bs : List Blk} {qs : List Que} (h : GrOK bs qs) : C_check_graph [eG bs qs] = .ok .non [eG bs qs] := by
  have e := graph_good h
  have o : (eG bs qs).own = false := by simp [eG]
  simp [C_check_graph, runB, m_check_graph, o, e]
def numC (i : Int) : List Nat := TL.numL i.toNat
theorem str_num {i : Int} (h0 : 0 ≤ i) (h1 : i ≤ 9972) : pStr [.int i] = some (.str (Sg (numC i))) := by
  have hl : i.natAbs.log2 < 1920 := by
    have : i.natAbs < 2 ^ 1920 := Nat.lt_of_le_of_lt (by omega : i.natAbs ≤ 2 ^ 14) (Nat.pow_lt_pow_right (by omega) (by omega))
    by_cases hz : i.natAbs = 0
    · rw [hz]; decide
    · exact (Nat.log2_lt hz).mpr this
  have e : ((toString i : String) : Str) = Sg (numC i) := by
    obtain ⟨n, rfl⟩ := Int.eq_ofNat_of_zero_le h0
    refine TL.ext_tl ?_
    exact TL.tl_num n
  show (if i.natAbs.log2 < 1920 then some (PV.str (toString i)) else none) = _
  rw [if_pos hl, e]
theorem numC_len {i : Int} (h0 : 0 ≤ i) (h1 : i ≤ 9972) : (numC i).length ≤ 4 := TL.numL_len (by omega) (by omega)
def Lo (l : List Nat) : Prop := ∀ x ∈ l, x < 1114112
theorem Lo.app {a b : List Nat} (h : Lo a) (g : Lo b) : Lo (a ++ b) := fun x hx => (List.mem_append.mp hx).elim (h x) (g x)
theorem lo_num (i : Int) : Lo (numC i) := fun x hx => by
  by_cases h : x < 48 ∨ 57 < x
  · exact absurd hx (TL.numL_free h)
  · omega
theorem cut_hi {α : Type} (xs : List α) (k : Nat) : cutP xs none (some (k : Int)) = xs.take k := by
  unfold cutP
  simp only [HT.sIx_nat, HT.sIx_none, List.drop_zero, Nat.sub_zero]
  by_cases h : k ≤ xs.length
  · rw [Nat.min_eq_left h]
  · rw [Nat.min_eq_right (by omega), List.take_of_length_le (Nat.le_refl _), List.take_of_length_le (by omega)]
theorem cut_lo {α : Type} (xs : List α) (k : Nat) : cutP xs (some (k : Int)) none = xs.drop k := by
  unfold cutP
  simp only [HT.sIx_nat, HT.sIx_none]
  by_cases h : k ≤ xs.length
  · rw [Nat.min_eq_left h, List.take_of_length_le (by rw [List.length_drop]; omega)]
  · rw [Nat.min_eq_right (by omega), List.drop_of_length_le (Nat.le_refl _), List.drop_of_length_le (by omega)]; simp
theorem slHi_tup (xs : List PV) (i : Int) (k : Nat) (h : i = k) (ho : PV.owns xs = false) : pSlHi [.tup xs, .int i] = some (.tup (xs.take k)) := by
  subst h
  show (if PV.owns xs = false then some (PV.tup (cutP xs none (some (k : Int)))) else none) = _
  rw [if_pos ho, cut_hi]
/-! ### the graph that is near -/
theorem compE {α : Type} {t : PV → Sl → Option Sl} {el : M PV} {own : List Nat} {enc f : α → PV} {s : Sl} : ∀ {l : List α},
    (∀ a ∈ l, ∃ s1 s3, t (enc a) s = some s1 ∧ el s1 = .ok (f a) s3 ∧ wipeS s3 own = s) → ∀ acc, compL t mYes el own (l.map enc) s acc = .ok (acc ++ l.map f) s
  | [], _, acc => by simp [compL]
  | x :: xs, h, acc => by
    obtain ⟨s1, s3, e1, e2, e3⟩ := h x List.mem_cons_self
    have ih := compE (l := xs) (enc := enc) (f := f) (fun z hz => h z (List.mem_cons_of_mem _ hz)) (acc ++ [f x])
    simp [compL, e1, e2, mYes, e3, ih]
@[simp] theorem pp_neg (a : Int) : pNeg [.int a] = some (.int (-a)) := Eq.trans rfl rfl
theorem addT (xs ys : List PV) (h1 : PV.owns xs = false) (h2 : PV.owns ys = false) (h3 : xs.length + ys.length ≤ 16777216) : pAdd [.tup xs, .tup ys] = some (.tup (xs ++ ys)) := by
  show (if PV.owns xs = false ∧ PV.owns ys = false ∧ xs.length + ys.length ≤ LIM then some (PV.tup (xs ++ ys)) else none) = _
  rw [if_pos ⟨h1, h2, lim_le h3⟩]
theorem addL (o o' : Bool) (xs ys : List PV) (h1 : PV.owns xs = false) (h2 : PV.owns ys = false) (h3 : xs.length + ys.length ≤ 16777216) : pAdd [.lst o xs, .lst o' ys] = some (.lst true (xs ++ ys)) := by
  show (if PV.owns xs = false ∧ PV.owns ys = false ∧ xs.length + ys.length ≤ LIM then some (PV.lst true (xs ++ ys)) else none) = _
  rw [if_pos ⟨h1, h2, lim_le h3⟩]
theorem slLoL (o : Bool) (xs : List PV) (k : Nat) (i : Int) (h : i = k) (ho : PV.owns xs = false) : pSlLo [.lst o xs, .int i] = some (.lst true (xs.drop k)) := by
  subst h
  show (if PV.owns xs = false then some (PV.lst true (cutP xs (some (k : Int)) none)) else none) = _
  rw [if_pos ho, cut_lo]
theorem slHiL (o : Bool) (xs : List PV) (k : Nat) (i : Int) (h : i = k) (ho : PV.owns xs = false) : pSlHi [.lst o xs, .int i] = some (.lst true (xs.take k)) := by
  subst h
  show (if PV.owns xs = false then some (PV.lst true (cutP xs none (some (k : Int)))) else none) = _
  rw [if_pos ho, cut_hi]
@[simp] theorem tN_eB (i j k : Nat) (b : Blk) (s : Sl) : tN [i, j, k] (eB b) s = some (((s.set i (some (.str b.name))).set j (some (.tup (b.times.map PV.int)))).set k (some (.tup (b.deed.map PV.int)))) := by
  simp [eB]
@[simp] theorem tN_eQ (i j k l m : Nat) (q : Que) (s : Sl) : tN [i, j, k, l, m] (eQ q) s = some (((((s.set i (some (.int q.s))).set j (some (.tup (q.gives.map PV.int)))).set k (some (.int q.t))).set l (some (.tup (q.takes.map PV.int)))).set m (some (.tup (q.start.map PV.int)))) := by
  simp [eQ]
/-! ### plain things of any form -/
mutual
def dat : PV → Bool
  | .non => true
  | .int _ => true
  | .bl _ => true
  | .str x => PyData.strOk x && decide (x.length ≤ 1000)
  | .tup xs => dats xs && decide (xs.length ≤ 100000)
  | .lst o xs => !o && (dats xs && decide (xs.length ≤ 100000))
  | _ => false
def dats : List PV → Bool
  | [] => true
  | x :: r => dat x && dats r
end
theorem dats_cons (x : PV) (r : List PV) : dats (x :: r) = (dat x && dats r) := rfl
theorem dats_mem : ∀ {xs : List PV}, dats xs = true → ∀ x ∈ xs, dat x = true
  | [], _, x, h => by cases h
  | y :: r, h, x, hx => by
    rw [dats_cons, Bool.and_eq_true] at h
    rcases List.mem_cons.mp hx with rfl | hx
    · exact h.1
    · exact dats_mem h.2 x hx
theorem dats_of : ∀ {xs : List PV}, (∀ x ∈ xs, dat x = true) → dats xs = true
  | [], _ => rfl
  | y :: r, h => by
    rw [dats_cons, Bool.and_eq_true]
    exact ⟨h y List.mem_cons_self, dats_of fun x hx => h x (List.mem_cons_of_mem _ hx)⟩
theorem dat_tup {xs : List PV} (h : dat (.tup xs) = true) : dats xs = true ∧ xs.length ≤ 100000 := by
  have h : (dats xs && decide (xs.length ≤ 100000)) = true := h
  simpa using h
theorem dat_lst {o : Bool} {xs : List PV} (h : dat (.lst o xs) = true) : o = false ∧ dats xs = true ∧ xs.length ≤ 100000 := by
  have h : (!o && (dats xs && decide (xs.length ≤ 100000))) = true := h
  simpa using h
mutual
theorem dat_own : ∀ {x : PV}, dat x = true → x.own = false
  | .non, _ => rfl
  | .int _, _ => rfl
  | .bl _, _ => rfl
  | .str _, _ => rfl
  | .tup xs, h => by
    show PV.owns xs = false
    exact dats_own (dat_tup h).1
  | .lst o xs, h => by
    obtain ⟨rfl, h1, _⟩ := dat_lst h
    show (false || PV.owns xs) = false
    rw [dats_own h1]; rfl
theorem dats_own : ∀ {xs : List PV}, dats xs = true → PV.owns xs = false
  | [], _ => rfl
  | x :: r, h => by
    rw [dats_cons, Bool.and_eq_true] at h
    show (x.own || PV.owns r) = false
    rw [dat_own h.1, dats_own h.2]; rfl
end
@[simp] theorem isj_in : pIsi "int" [.non] = some (.bl false) := rfl
@[simp] theorem isj_is (x : Str) : pIsi "int" [.str x] = some (.bl false) := rfl
@[simp] theorem isj_it (x : List PV) : pIsi "int" [.tup x] = some (.bl false) := rfl
@[simp] theorem isj_il (o : Bool) (x : List PV) : pIsi "int" [.lst o x] = some (.bl false) := rfl
@[simp] theorem isj_tn : pIsi "tuple" [.non] = some (.bl false) := rfl
@[simp] theorem isj_ts (x : Str) : pIsi "tuple" [.str x] = some (.bl false) := rfl
@[simp] theorem isj_ti (x : Int) : pIsi "tuple" [.int x] = some (.bl false) := rfl
@[simp] theorem isj_tb (x : Bool) : pIsi "tuple" [.bl x] = some (.bl false) := rfl
@[simp] theorem isj_sn : pIsi "str" [.non] = some (.bl false) := rfl
@[simp] theorem isj_st (x : List PV) : pIsi "str" [.tup x] = some (.bl false) := rfl
@[simp] theorem isj_si (x : Int) : pIsi "str" [.int x] = some (.bl false) := rfl
@[simp] theorem isj_sb (x : Bool) : pIsi "str" [.bl x] = some (.bl false) := rfl
@[simp] theorem isj_sl (o : Bool) (x : List PV) : pIsi "str" [.lst o x] = some (.bl false) := rfl
theorem whole_dat {x : PV} {lo hi : Int} (h : dat x = true) : C_whole [x, .int lo, .int hi] = .ok (.bl (wholeV lo hi x)) [x, .int lo, .int hi] := by
  have o := dat_own h
  cases x with
  | int i => exact whole_val rfl
  | bl b => exact whole_val rfl
  | non => simp [C_whole, runB, m_whole, wholeV]
  | str s => simp [C_whole, runB, m_whole, wholeV]
  | tup xs => simp at o; simp [C_whole, runB, m_whole, wholeV, o]
  | lst o' xs => simp at o; obtain ⟨rfl, o⟩ := o; simp [C_whole, runB, m_whole, wholeV, o]
  | _ => cases h
theorem L_is_int_dat {x : PV} (h : dat x = true) : C_L_is_int [x] = .ok (.bl (match x with | .int _ => true | _ => false)) [x] := by
  have o := dat_own h
  cases x with
  | int i => simp [C_L_is_int, runB, m_L_is_int]
  | bl b => simp [C_L_is_int, runB, m_L_is_int]
  | non => simp [C_L_is_int, runB, m_L_is_int]
  | str s => simp [C_L_is_int, runB, m_L_is_int]
  | tup xs => simp at o; simp [C_L_is_int, runB, m_L_is_int, o]
  | lst o' xs => simp at o; obtain ⟨rfl, o⟩ := o; simp [C_L_is_int, runB, m_L_is_int, o]
  | _ => cases h
theorem L_in_dat {x : PV} {lo hi : Int} (h : dat x = true) : C_L_in [x, .int lo, .int hi] = .ok (.bl (wholeV lo hi x)) [x, .int lo, .int hi] := by
  have o := dat_own h
  have e := L_is_int_dat h
  cases x with
  | int i =>
    simp at e
    by_cases h1 : lo ≤ i <;> by_cases h2 : i ≤ hi <;> simp [C_L_in, runB, m_L_in, pLe, wholeV, h1, h2, e]
  | bl b => simp at e; simp [C_L_in, runB, m_L_in, wholeV, e]
  | non => simp at e; simp [C_L_in, runB, m_L_in, wholeV, e]
  | str s => simp at e; simp [C_L_in, runB, m_L_in, wholeV, e]
  | tup xs => simp at o e; simp [C_L_in, runB, m_L_in, wholeV, o, e]
  | lst o' xs => simp at o e; obtain ⟨rfl, o⟩ := o; simp [C_L_in, runB, m_L_in, wholeV, o, e]
  | _ => cases h
theorem nums_dat {x : PV} {lo hi : Int} (h : dat x = true) : C_is_numbers [x, .int lo, .int hi] = .ok (.bl (numsV lo hi x)) [x, .int lo, .int hi] := by
  have o := dat_own h
  cases x with
  | tup xs =>
    obtain ⟨h1, h2⟩ := dat_tup h
    have ho := dats_own h1
    have hl : xs.length ≤ LIM := lim_le (by omega)
    have hc : compL (t1 3) mYes (mFz (mCallN 3 C_whole (oCons (oN 3) (oCons (oN 1) (oCons (oN 2) (oNil)))))) [3] xs [some (.tup xs), some (.int lo), some (.int hi), none] [] = .ok ([] ++ xs.map fun x => .bl (wholeV lo hi x)) [some (.tup xs), some (.int lo), some (.int hi), none] := by
      refine compL_map (fun x hx => ?_) []
      have e := whole_dat (lo := lo) (hi := hi) (dats_mem h1 x hx)
      have o := dat_own (dats_mem h1 x hx)
      refine ⟨[some (.tup xs), some (.int lo), some (.int hi), some x], [some (.tup xs), some (.int lo), some (.int hi), some x], by simp, by simp [e, o], by simp⟩
    have ha := all_map true xs (wholeV lo hi)
    simp at hc
    simp [C_is_numbers, runB, m_is_numbers, ho, hl, hc, ha, numsV]
  | lst o' xs => simp at o; obtain ⟨rfl, o⟩ := o; simp [C_is_numbers, runB, m_is_numbers, o, numsV]
  | int i => simp [C_is_numbers, runB, m_is_numbers, numsV]
  | bl b => simp [C_is_numbers, runB, m_is_numbers, numsV]
  | non => simp [C_is_numbers, runB, m_is_numbers, numsV]
  | str s => simp [C_is_numbers, runB, m_is_numbers, numsV]
  | _ => cases h
def rowV (lo hi a b : Int) (x : PV) : Bool := numsV lo hi x && (decide (a ≤ lenV x) && decide ((lenV x : Int) ≤ b))
theorem row_in_dat {x : PV} {lo hi a b : Int} (h : dat x = true) : C_L_row_in [x, .int lo, .int hi, .int a, .int b] = .ok (.bl (rowV lo hi a b x)) [x, .int lo, .int hi, .int a, .int b] := by
  have o := dat_own h
  cases x with
  | tup xs =>
    obtain ⟨h1, h2⟩ := dat_tup h
    have ho := dats_own h1
    have hl : xs.length ≤ LIM := lim_le (by omega)
    have hc : compL (t1 5) mYes (mFz (mCallN 3 C_L_in (oCons (oN 5) (oCons (oN 1) (oCons (oN 2) (oNil)))))) [5] xs [some (.tup xs), some (.int lo), some (.int hi), some (.int a), some (.int b), none] [] = .ok ([] ++ xs.map fun x => .bl (wholeV lo hi x)) [some (.tup xs), some (.int lo), some (.int hi), some (.int a), some (.int b), none] := by
      refine compL_map (fun x hx => ?_) []
      have e := L_in_dat (lo := lo) (hi := hi) (dats_mem h1 x hx)
      have o := dat_own (dats_mem h1 x hx)
      refine ⟨[some (.tup xs), some (.int lo), some (.int hi), some (.int a), some (.int b), some x], [some (.tup xs), some (.int lo), some (.int hi), some (.int a), some (.int b), some x], by simp, by simp [e, o], by simp⟩
    have ha := all_map true xs (wholeV lo hi)
    simp at hc
    by_cases c1 : a ≤ (xs.length : Nat)
    · by_cases c2 : ((xs.length : Nat) : Int) ≤ b
      · simp [C_L_row_in, runB, m_L_row_in, ho, hl, hc, ha, numsV, rowV, lenV, pLe, c1, c2]
      · simp [C_L_row_in, runB, m_L_row_in, ho, numsV, rowV, lenV, pLe, c1, c2]
    · simp [C_L_row_in, runB, m_L_row_in, ho, numsV, rowV, lenV, pLe, c1]
  | lst o' xs => simp at o; obtain ⟨rfl, o⟩ := o; simp [C_L_row_in, runB, m_L_row_in, o, numsV, rowV]
  | int i => simp [C_L_row_in, runB, m_L_row_in, numsV, rowV]
  | bl b => simp [C_L_row_in, runB, m_L_row_in, numsV, rowV]
  | non => simp [C_L_row_in, runB, m_L_row_in, numsV, rowV]
  | str s => simp [C_L_row_in, runB, m_L_row_in, numsV, rowV]
  | _ => cases h
theorem times_dat {x : PV} (h : dat x = true) : C_is_times [x] = .ok (.bl (timesV x)) [x] := by
  have e := nums_dat (lo := 0) (hi := 60) h
  have o := dat_own h
  cases hv : numsV 0 60 x with
  | false => rw [hv] at e; simp [C_is_times, runB, m_is_times, o, e, timesV, hv]
  | true =>
    obtain ⟨xs, rfl⟩ := numsV_tup hv
    rw [hv] at e
    have o2 : PV.owns xs = false := by simpa using o
    by_cases h1 : 1 ≤ xs.length <;> by_cases h2 : xs.length ≤ 6
    · have h3 : (1 : Int) ≤ xs.length := by omega
      have h4 : (xs.length : Int) ≤ 6 := by omega
      simp [C_is_times, runB, m_is_times, o2, e, timesV, hv, pLe, h1, h2, h3, h4, lenV]
    · have h3 : (1 : Int) ≤ xs.length := by omega
      have h4 : ¬ (xs.length : Int) ≤ 6 := by omega
      simp [C_is_times, runB, m_is_times, o2, e, timesV, hv, pLe, h1, h2, h3, h4, lenV]
    · have h3 : ¬ (1 : Int) ≤ xs.length := by omega
      simp [C_is_times, runB, m_is_times, o2, e, timesV, hv, pLe, h1, h2, h3, lenV]
    · omega
theorem deed_dat {x : PV} (h : dat x = true) : C_is_deed [x] = .ok (.bl (deedV x)) [x] := by
  have e := nums_dat (lo := 0) (hi := 9972) h
  have o := dat_own h
  cases hv : numsV 0 9972 x with
  | false => rw [hv] at e; simp [C_is_deed, runB, m_is_deed, o, e, deedV, hv]
  | true =>
    obtain ⟨xs, rfl⟩ := numsV_tup hv
    rw [hv] at e
    have o2 : PV.owns xs = false := by simpa using o
    by_cases h1 : xs.length = 2
    · simp [C_is_deed, runB, m_is_deed, o2, e, deedV, hv, h1, lenV]
    · have h3 : ¬ (xs.length : Int) = 2 := by omega
      simp [C_is_deed, runB, m_is_deed, o2, e, deedV, hv, h1, h3, lenV]
theorem start_dat {x : PV} (h : dat x = true) : C_is_start [x] = .ok (.bl (startV x)) [x] := by
  have e := nums_dat (lo := 0) (hi := 9972) h
  have o := dat_own h
  cases hv : numsV 0 9972 x with
  | false => rw [hv] at e; simp [C_is_start, runB, m_is_start, o, e, startV, hv]
  | true =>
    obtain ⟨xs, rfl⟩ := numsV_tup hv
    rw [hv] at e
    have o2 : PV.owns xs = false := by simpa using o
    by_cases h1 : xs.length ≤ 60
    · have h3 : (xs.length : Int) ≤ 60 := by omega
      simp [C_is_start, runB, m_is_start, o2, e, startV, hv, h1, h3, lenV, pLe]
    · have h3 : ¬ (xs.length : Int) ≤ 60 := by omega
      simp [C_is_start, runB, m_is_start, o2, e, startV, hv, h1, h3, lenV, pLe]
theorem rates_dat {x : PV} {size : Nat} (h : dat x = true) : C_is_rates [x, .int size] = .ok (.bl (ratesV size x)) [x, .int size] := by
  have e := nums_dat (lo := 0) (hi := 12) h
  have o := dat_own h
  cases hv : numsV 0 12 x with
  | false => rw [hv] at e; simp [C_is_rates, runB, m_is_rates, o, e, ratesV, hv]
  | true =>
    obtain ⟨xs, rfl⟩ := numsV_tup hv
    rw [hv] at e
    have o2 : PV.owns xs = false := by simpa using o
    have hs : pSum [.tup xs] = some (.int (xs.map toI).sum) := by
      have := sum_ofT (xs.map toI)
      rwa [whole_ints hv] at this
    by_cases h1 : xs.length = size
    · have h3 : (xs.length : Int) = size := by omega
      simp [C_is_rates, runB, m_is_rates, o2, e, ratesV, hv, h1, h3, lenV, hs, pGt, sumV]
      try rfl
    · have h3 : ¬ (xs.length : Int) = size := by omega
      simp [C_is_rates, runB, m_is_rates, o2, e, ratesV, hv, h1, h3, lenV]
/-! ### names -/
def nameP : PV → Bool
  | .str s => nameB s.cps.toList
  | _ => false
theorem str_sg (s : Str) : ∃ c, s = Sg c := ⟨s.cps.toList, (_root_.SX.S_tl s).symm⟩
theorem dat_str {c : List Nat} (h : dat (.str (Sg c)) = true) : PyData.strOk (Sg c) = true ∧ c.length ≤ 1000 := by
  have h : (PyData.strOk (Sg c) && decide ((Sg c).length ≤ 1000)) = true := h
  rw [_root_.SX.S_len] at h
  simpa using h
theorem name_dat {x : PV} (h : dat x = true) : C_is_name [x] = .ok (.bl (nameP x)) [x] := by
  have o := dat_own h
  cases x with
  | str s =>
    obtain ⟨c, rfl⟩ := str_sg s
    exact name_val (by have := (dat_str h).2; omega)
  | tup xs => simp at o; simp [C_is_name, runB, m_is_name, o, nameP]
  | lst o' xs => simp at o; obtain ⟨rfl, o⟩ := o; simp [C_is_name, runB, m_is_name, o, nameP]
  | int i => simp [C_is_name, runB, m_is_name, nameP]
  | bl b => simp [C_is_name, runB, m_is_name, nameP]
  | non => simp [C_is_name, runB, m_is_name, nameP]
  | _ => cases h
theorem lit_fig2 : ("0123456789_." : Str) = Sg [48, 49, 50, 51, 52, 53, 54, 55, 56, 57, 95, 46] := by decide +kernel
theorem sig_app : LETC ++ [48, 49, 50, 51, 52, 53, 54, 55, 56, 57, 95, 46] = SIGC := rfl
theorem named_val {c : List Nat} (hl : c.length ≤ 1000000) : C_L_named [.str (Sg c)] = .ok (.bl (nameB c)) [.str (Sg c)] := by
  have e0 : (Sg c).length = c.length := _root_.SX.S_len c
  have hll : c.length ≤ LIM := lim_le (by omega)
  have hls := len_str hll
  have ea := pp_addS LETC [48, 49, 50, 51, 52, 53, 54, 55, 56, 57, 95, 46] (lim_le (by decide))
  rw [sig_app] at ea
  simp only [C_L_named, m_L_named, lit_let, lit_fig2]
  generalize ([48, 49, 50, 51, 52, 53, 54, 55, 56, 57, 95, 46] : List Nat) = FG at *
  cases c with
  | nil =>
    simp [runB, hls, e0, pLe, nameB]
  | cons a r =>
    have hx : pIx [.str (Sg (a :: r)), .int 0] = some (.str (Sg [a])) := ix_str (by omega) (by omega) rfl
    have hc : compL (t1 1) mYes (mOp (pIn false) (oCons (oN 1) (oCons (oE (mOp pAdd (oCons (oN 2) (oCons (oE (mC (.str (Sg FG)))) oNil)))) oNil))) [1] ((a :: r).map fun c => PV.str ⟨#[c]⟩) [some (.str (Sg (a :: r))), none, some (.str (Sg LETC))] [] = .ok ([] ++ ((a :: r).map fun c => PV.str ⟨#[c]⟩).map fun x => match x with | .str y => .bl (decide (y.cps.toList.headD 0 ∈ SIGC)) | _ => .non) [some (.str (Sg (a :: r))), none, some (.str (Sg LETC))] := by
      refine compL_map (fun x hx => ?_) []
      obtain ⟨y, _, rfl⟩ := List.mem_map.mp hx
      refine ⟨[some (.str (Sg (a :: r))), some (.str ⟨#[y]⟩), some (.str (Sg LETC))], [some (.str (Sg (a :: r))), some (.str ⟨#[y]⟩), some (.str (Sg LETC))], by simp, ?_, by simp⟩
      have := in_sg false y SIGC
      simp only [Bool.false_eq_true, if_false] at this
      simp [this, ea]
    rw [List.nil_append, List.map_map, show ((fun x : PV => match x with | .str y => PV.bl (decide (y.cps.toList.headD 0 ∈ SIGC)) | _ => .non) ∘ fun c : Nat => PV.str ⟨#[c]⟩) = fun c : Nat => PV.bl (decide (c ∈ SIGC)) from rfl] at hc
    have ha := all_map true (a :: r) fun c => decide (c ∈ SIGC)
    have hi := in_sg false a LETC
    simp only [Bool.false_eq_true, if_false] at hi
    by_cases h16 : (a :: r).length ≤ 16
    · by_cases hL : a ∈ LETC
      · simp only [List.map_cons] at hc ha
        have h1 : (1 : Int) ≤ (r.length : Int) + 1 := by omega
        have h2 : (r.length : Int) + 1 ≤ 16 := by simp at h16; omega
        have h3 : r.length ≤ 15 := by simp at h16; omega
        have h4 : r.length + 1 ≤ LIM := by simpa using hll
        simp [runB, hls, e0, pLe, nameB, hx, hi, hL, h1, h2, h3, h4, hc, ha]
      · have h1 : (1 : Int) ≤ (r.length : Int) + 1 := by omega
        have h2 : (r.length : Int) + 1 ≤ 16 := by simp at h16; omega
        simp [runB, hls, e0, pLe, nameB, hx, hi, hL, h1, h2]
    · have h1 : (1 : Int) ≤ (r.length : Int) + 1 := by omega
      have h2 : ¬ (r.length : Int) + 1 ≤ 16 := by simp at h16; omega
      have h3 : ¬ r.length ≤ 15 := by simp at h16; omega
      simp [runB, hls, e0, pLe, nameB, h1, h2, h3]
theorem named_dat {x : PV} (h : dat x = true) : C_L_named [x] = .ok (.bl (nameP x)) [x] := by
  have o := dat_own h
  cases x with
  | str s =>
    obtain ⟨c, rfl⟩ := str_sg s
    exact named_val (by have := (dat_str h).2; omega)
  | tup xs => simp at o; simp [C_L_named, runB, m_L_named, o, nameP]
  | lst o' xs => simp at o; obtain ⟨rfl, o⟩ := o; simp [C_L_named, runB, m_L_named, o, nameP]
  | int i => simp [C_L_named, runB, m_L_named, nameP]
  | bl b => simp [C_L_named, runB, m_L_named, nameP]
  | non => simp [C_L_named, runB, m_L_named, nameP]
  | _ => cases h
/-! ### blocks and queues -/
def blockV : PV → Bool
  | .tup [a, b, c] => nameP a && (timesV b && deedV c)
  | _ => false
theorem len3 {xs : List PV} (h : xs.length = 3) : ∃ a b c, xs = [a, b, c] := by
  match xs, h with
  | [a, b, c], _ => exact ⟨a, b, c, rfl⟩
theorem len5 {xs : List PV} (h : xs.length = 5) : ∃ a b c d e, xs = [a, b, c, d, e] := by
  match xs, h with
  | [a, b, c, d, e], _ => exact ⟨a, b, c, d, e, rfl⟩
theorem len2 {xs : List PV} (h : xs.length = 2) : ∃ a b, xs = [a, b] := by
  match xs, h with
  | [a, b], _ => exact ⟨a, b, rfl⟩
theorem blockV_no {xs : List PV} (h : ¬ xs.length = 3) : blockV (.tup xs) = false := by
  unfold blockV
  split
  · rename_i e
    cases e
    simp at h
  · rfl
theorem block_dat {x : PV} (h : dat x = true) : C_is_block [x] = .ok (.bl (blockV x)) [x] := by
  have o := dat_own h
  cases x with
  | tup xs =>
    have ho : PV.owns xs = false := by simpa using o
    by_cases hl : xs.length = 3
    · obtain ⟨a, b, c, rfl⟩ := len3 hl
      have hd := (dat_tup h).1
      have ha := dats_mem hd a (by simp)
      have hb := dats_mem hd b (by simp)
      have hc := dats_mem hd c (by simp)
      have e1 := name_dat ha
      have e2 := times_dat hb
      have e3 := deed_dat hc
      have o1 := dat_own ha
      have o2 := dat_own hb
      have o3 := dat_own hc
      cases h1 : nameP a with
      | false => rw [h1] at e1; simp [C_is_block, runB, m_is_block, o1, o2, o3, e1, blockV, h1]
      | true =>
        rw [h1] at e1
        cases h2 : timesV b with
        | false => rw [h2] at e2; simp [C_is_block, runB, m_is_block, o1, o2, o3, e1, e2, blockV, h1, h2]
        | true => rw [h2] at e2; simp [C_is_block, runB, m_is_block, o1, o2, o3, e1, e2, e3, blockV, h1, h2]
    · have hl' : ¬ ((xs.length : Int) = 3) := by omega
      simp [C_is_block, runB, m_is_block, ho, hl', blockV_no hl]
      try simp [hl]
  | lst o' xs => simp at o; obtain ⟨rfl, o⟩ := o; simp [C_is_block, runB, m_is_block, o, blockV]
  | int i => simp [C_is_block, runB, m_is_block, blockV]
  | bl b => simp [C_is_block, runB, m_is_block, blockV]
  | non => simp [C_is_block, runB, m_is_block, blockV]
  | str s => simp [C_is_block, runB, m_is_block, blockV]
  | _ => cases h
theorem row_times (x : PV) : rowV 0 60 1 6 x = timesV x := by
  unfold rowV timesV
  have h1 : decide ((1 : Int) ≤ (lenV x : Nat)) = decide (1 ≤ lenV x) := decide_eq_decide.mpr (by omega)
  have h2 : decide (((lenV x : Nat) : Int) ≤ 6) = decide (lenV x ≤ 6) := decide_eq_decide.mpr (by omega)
  rw [h1, h2]
theorem row_deed (x : PV) : rowV 0 9972 2 2 x = deedV x := by
  unfold rowV deedV
  have h1 : (decide ((2 : Int) ≤ (lenV x : Nat)) && decide (((lenV x : Nat) : Int) ≤ 2)) = decide (lenV x = 2) := by
    rw [← Bool.decide_and]
    exact decide_eq_decide.mpr (by omega)
  rw [h1]
theorem row_start (x : PV) : rowV 0 9972 0 60 x = startV x := by
  unfold rowV startV
  have h1 : decide ((0 : Int) ≤ (lenV x : Nat)) = true := decide_eq_true (by omega)
  have h2 : decide (((lenV x : Nat) : Int) ≤ 60) = decide (lenV x ≤ 60) := decide_eq_decide.mpr (by omega)
  rw [h1, h2, Bool.true_and]
theorem row_size (n : Nat) (x : PV) : rowV 0 12 n n x = (numsV 0 12 x && decide (lenV x = n)) := by
  unfold rowV
  have h1 : (decide ((n : Int) ≤ (lenV x : Nat)) && decide (((lenV x : Nat) : Int) ≤ n)) = decide (lenV x = n) := by
    rw [← Bool.decide_and]
    exact decide_eq_decide.mpr (by omega)
  rw [h1]
theorem block_due_dat {x : PV} (h : dat x = true) : C_L_block_due [x] = .ok (.bl (blockV x)) [x] := by
  have o := dat_own h
  cases x with
  | tup xs =>
    have ho : PV.owns xs = false := by simpa using o
    by_cases hl : xs.length = 3
    · obtain ⟨a, b, c, rfl⟩ := len3 hl
      have hd := (dat_tup h).1
      have ha := dats_mem hd a (by simp)
      have hb := dats_mem hd b (by simp)
      have hc := dats_mem hd c (by simp)
      have e1 := named_dat ha
      have e2 := row_in_dat (lo := 0) (hi := 60) (a := 1) (b := 6) hb
      have e3 := row_in_dat (lo := 0) (hi := 9972) (a := 2) (b := 2) hc
      rw [row_times] at e2
      rw [row_deed] at e3
      have o1 := dat_own ha
      have o2 := dat_own hb
      have o3 := dat_own hc
      cases h1 : nameP a with
      | false => rw [h1] at e1; simp [C_L_block_due, runB, m_L_block_due, o1, o2, o3, e1, blockV, h1]
      | true =>
        rw [h1] at e1
        cases h2 : timesV b with
        | false => rw [h2] at e2; simp [C_L_block_due, runB, m_L_block_due, o1, o2, o3, e1, e2, blockV, h1, h2]
        | true => rw [h2] at e2; simp [C_L_block_due, runB, m_L_block_due, o1, o2, o3, e1, e2, e3, blockV, h1, h2]
    · have hl' : ¬ ((xs.length : Int) = 3) := by omega
      simp [C_L_block_due, runB, m_L_block_due, ho, hl', blockV_no hl]
      try simp [hl]
  | lst o' xs => simp at o; obtain ⟨rfl, o⟩ := o; simp [C_L_block_due, runB, m_L_block_due, o, blockV]
  | int i => simp [C_L_block_due, runB, m_L_block_due, blockV]
  | bl b => simp [C_L_block_due, runB, m_L_block_due, blockV]
  | non => simp [C_L_block_due, runB, m_L_block_due, blockV]
  | str s => simp [C_L_block_due, runB, m_L_block_due, blockV]
  | _ => cases h
def queV (bs : List Blk) : PV → Bool
  | .tup [s, g, t, k, st] => qkV bs ⟨s, g, t, k, st⟩
  | _ => false
theorem queV_no {bs : List Blk} {xs : List PV} (h : ¬ xs.length = 5) : queV bs (.tup xs) = false := by
  unfold queV
  split
  · rename_i e
    cases e
    simp at h
  · rfl
theorem queue_dat {x : PV} {bs : List Blk} (h : dat x = true) (hb : bs.length ≤ 1000) : C_is_queue [x, .tup (bs.map eB)] = .ok (.bl (queV bs x)) [x, .tup (bs.map eB)] := by
  have o := dat_own h
  cases x with
  | tup xs =>
    have ho : PV.owns xs = false := by simpa using o
    by_cases hl : xs.length = 5
    · obtain ⟨s, g, t, k, st, rfl⟩ := len5 hl
      have hd := (dat_tup h).1
      have ds := dats_mem hd s (by simp)
      have dg := dats_mem hd g (by simp)
      have dt := dats_mem hd t (by simp)
      have dk := dats_mem hd k (by simp)
      have dst := dats_mem hd st (by simp)
      have os := dat_own ds
      have ot := dat_own dt
      have og := dat_own dg
      have ok := dat_own dk
      have ost := dat_own dst
      have e1 := whole_dat (lo := 0) (hi := (bs.length : Int) - 1) ds
      have e2 := whole_dat (lo := 0) (hi := (bs.length : Int) - 1) dt
      show _ = CR.ok (.bl (qkV bs ⟨s, g, t, k, st⟩)) _
      cases v1 : wholeV 0 ((bs.length : Int) - 1) s with
      | false => rw [v1] at e1; simp [C_is_queue, runB, m_is_queue, os, ot, og, ok, ost, e1, qkV, v1]
      | true =>
        rw [v1] at e1
        cases v2 : wholeV 0 ((bs.length : Int) - 1) t with
        | false => rw [v2] at e2; simp [C_is_queue, runB, m_is_queue, os, ot, og, ok, ost, e1, e2, qkV, v1, v2]
        | true =>
          rw [v2] at e2
          obtain ⟨i, rfl, i0, i1⟩ := whole_int v1
          obtain ⟨j, rfl, j0, j1⟩ := whole_int v2
          have hi : bs[i.toNat]? = some bs[i.toNat] := List.getElem?_eq_getElem (by omega)
          have hj : bs[j.toNat]? = some bs[j.toNat] := List.getElem?_eq_getElem (by omega)
          have a1 : atI (bs.map eB) i = some (eB bs[i.toNat]) := atI_of i0 (by rw [List.getElem?_map, hi]; rfl)
          have a2 : atI (bs.map eB) j = some (eB bs[j.toNat]) := atI_of j0 (by rw [List.getElem?_map, hj]; rfl)
          have t1 : tlen bs (.int i) = (bs[i.toNat]).times.length := by simp only [tlen, hi]
          have t2 : tlen bs (.int j) = (bs[j.toNat]).times.length := by simp only [tlen, hj]
          have e3 := rates_dat (size := (bs[i.toNat]).times.length) dg
          have e4 := rates_dat (size := (bs[j.toNat]).times.length) dk
          have e5 := start_dat dst
          cases v3 : ratesV (bs[i.toNat]).times.length g with
          | false => rw [v3] at e3; simp [C_is_queue, runB, m_is_queue, og, ok, ost, e1, e2, qkV, v1, v2, t1, v3, a1, a2, e3]
          | true =>
            rw [v3] at e3
            cases v4 : ratesV (bs[j.toNat]).times.length k with
            | false => rw [v4] at e4; simp [C_is_queue, runB, m_is_queue, og, ok, ost, e1, e2, qkV, v1, v2, t1, t2, v3, v4, a1, a2, e3, e4]
            | true => rw [v4] at e4; simp [C_is_queue, runB, m_is_queue, og, ok, ost, e1, e2, qkV, v1, v2, t1, t2, v3, v4, a1, a2, e3, e4, e5]
    · have hl' : ¬ ((xs.length : Int) = 5) := by omega
      simp [C_is_queue, runB, m_is_queue, ho, hl', queV_no hl]
      try simp [hl]
  | lst o' xs => simp at o; obtain ⟨rfl, o⟩ := o; simp [C_is_queue, runB, m_is_queue, o, queV]
  | int i => simp [C_is_queue, runB, m_is_queue, queV]
  | bl b => simp [C_is_queue, runB, m_is_queue, queV]
  | non => simp [C_is_queue, runB, m_is_queue, queV]
  | str s => simp [C_is_queue, runB, m_is_queue, queV]
  | _ => cases h
theorem sumV_nonneg {x : PV} {hi : Int} (h : numsV 0 hi x = true) : 0 ≤ sumV x := by
  obtain ⟨xs, rfl⟩ := numsV_tup h
  show 0 ≤ (xs.map toI).sum
  refine sum_nonneg fun i hi2 => ?_
  obtain ⟨y, hy, rfl⟩ := List.mem_map.mp hi2
  have := List.all_eq_true.mp (show xs.all (wholeV 0 hi) = true from h) y hy
  obtain ⟨j, rfl, j0, _⟩ := whole_int this
  exact j0
theorem pSum_dat {x : PV} {hi : Int} (h : numsV 0 hi x = true) : pSum [x] = some (.int (sumV x)) := by
  obtain ⟨xs, rfl⟩ := numsV_tup h
  have := sum_ofT (xs.map toI)
  rwa [whole_ints h] at this
noncomputable def bodyQd : MS := mSeq (mAsg (mOp pLen (oCons (oE (mOp pIx (oCons (oE (mOp pIx (oCons (oN 1) (oCons (oE (mOp pIx (oCons (oN 7) (oCons (oE (mC (.int 0))) oNil)))) oNil)))) (oCons (oE (mC (.int 1))) oNil)))) (oNil))) (t1 8))
  (mIf (mOr (mNot (mT (mCallN 5 C_L_row_in (oCons (oE (mOp pIx (oCons (oN 7) (oCons (oE (mC (.int 1))) oNil)))) (oCons (oE (mC (.int 0))) (oCons (oE (mC (.int 12))) (oCons (oN 8) (oCons (oN 8) (oNil))))))))) (mT (mOp (pEq false) (oCons (oE (mOp pSum (oCons (oE (mOp pIx (oCons (oN 7) (oCons (oE (mC (.int 1))) oNil)))) (oNil)))) (oCons (oE (mC (.int 0))) oNil))))) (mRet (mC (.bl false))) (mNx))
theorem bodyQd_ok {bs : List Blk} {g : PV} {i : Int} (dg : dat g = true) (i0 : 0 ≤ i) (i1 : i < bs.length) (a0 a2 a3 a4 a5 a6 a8 : Option PV) :
    (ratesV (tlen bs (.int i)) g = true → ∃ b8, bodyQd [a0, some (.tup (bs.map eB)), a2, a3, a4, a5, a6, some (.tup [.int i, g]), a8] = .nx [a0, some (.tup (bs.map eB)), a2, a3, a4, a5, a6, some (.tup [.int i, g]), b8]) ∧
    (ratesV (tlen bs (.int i)) g = false → ∃ b8, bodyQd [a0, some (.tup (bs.map eB)), a2, a3, a4, a5, a6, some (.tup [.int i, g]), a8] = .rt (.bl false) [a0, some (.tup (bs.map eB)), a2, a3, a4, a5, a6, some (.tup [.int i, g]), b8]) := by
  have hi : bs[i.toNat]? = some bs[i.toNat] := List.getElem?_eq_getElem (by omega)
  have ai : atI (bs.map eB) i = some (eB bs[i.toNat]) := atI_of i0 (by rw [List.getElem?_map, hi]; rfl)
  have t1' : tlen bs (.int i) = (bs[i.toNat]).times.length := by simp only [tlen, hi]
  have og := dat_own dg
  rw [t1']
  generalize (bs[i.toNat]) = b at *
  have e := row_in_dat (lo := 0) (hi := 12) (a := (b.times.length : Nat)) (b := (b.times.length : Nat)) dg
  rw [row_size] at e
  cases v1 : numsV 0 12 g with
  | false =>
    rw [v1] at e
    simp at e
    refine ⟨fun h => by simp [ratesV, v1] at h, fun _ => ⟨some (.int b.times.length), ?_⟩⟩
    simp [bodyQd, ai, og, e]
  | true =>
    rw [v1] at e
    have hs := pSum_dat v1
    have h0 := sumV_nonneg v1
    by_cases v2 : lenV g = b.times.length
    · simp [v2] at e
      by_cases v3 : sumV g = 0
      · rw [v3] at hs
        refine ⟨fun h => by simp [ratesV, v1, v3] at h, fun _ => ⟨some (.int b.times.length), ?_⟩⟩
        simp [bodyQd, ai, og, e, hs]
      · have v4 : 0 < sumV g := by omega
        refine ⟨fun _ => ⟨some (.int b.times.length), ?_⟩, fun h => by simp [ratesV, v1, v2, v4] at h⟩
        simp [bodyQd, ai, og, e, hs, v3]
    · simp [v2] at e
      refine ⟨fun h => by simp [ratesV, v2] at h, fun _ => ⟨some (.int b.times.length), ?_⟩⟩
      simp [bodyQd, ai, og, e]
theorem m_L_queue_due_f : m_L_queue_due = mSeq (mIf (mOr (mNot (mT (mOp (pIsi "tuple") (oCons (oN 0) oNil)))) (mT (mOp (pEq true) (oCons (oE (mOp pLen (oCons (oN 0) (oNil)))) (oCons (oE (mC (.int 5))) oNil))))) (mRet (mC (.bl false))) (mNx)) (mSeq (mAsg (mN 0) (tN [2, 3, 4, 5, 6])) (mSeq (mIf (mOr (mNot (mT (mCallN 3 C_L_in (oCons (oN 2) (oCons (oE (mC (.int 0))) (oCons (oE (mOp pSub (oCons (oE (mOp pLen (oCons (oN 1) (oNil)))) (oCons (oE (mC (.int 1))) oNil)))) (oNil))))))) (mNot (mT (mCallN 3 C_L_in (oCons (oN 4) (oCons (oE (mC (.int 0))) (oCons (oE (mOp pSub (oCons (oE (mOp pLen (oCons (oN 1) (oNil)))) (oCons (oE (mC (.int 1))) oNil)))) (oNil)))))))) (mRet (mC (.bl false))) (mNx)) (mSeq (mFor [0, 1] (oCons (oE (mTup (vCons (mTup (vCons (mFzN 2) (vCons (mFzN 3) (vNil)))) (vCons (mTup (vCons (mFzN 4) (vCons (mFzN 5) (vNil)))) (vNil))))) oNil) itSeq (t1 7) bodyQd) (mRet (mCallN 5 C_L_row_in (oCons (oN 6) (oCons (oE (mC (.int 0))) (oCons (oE (mC (.int 9972))) (oCons (oE (mC (.int 0))) (oCons (oE (mC (.int 60))) (oNil))))))))))) := rfl
theorem queue_due_dat {x : PV} {bs : List Blk} (h : dat x = true) (hb : bs.length ≤ 1000) : C_L_queue_due [x, .tup (bs.map eB)] = .ok (.bl (queV bs x)) [x, .tup (bs.map eB)] := by
  have o := dat_own h
  cases x with
  | tup xs =>
    have ho : PV.owns xs = false := by simpa using o
    by_cases hl : xs.length = 5
    · obtain ⟨s, g, t, k, st, rfl⟩ := len5 hl
      have hd := (dat_tup h).1
      have ds := dats_mem hd s (by simp)
      have dg := dats_mem hd g (by simp)
      have dt := dats_mem hd t (by simp)
      have dk := dats_mem hd k (by simp)
      have dst := dats_mem hd st (by simp)
      have os := dat_own ds
      have ot := dat_own dt
      have og := dat_own dg
      have ok := dat_own dk
      have ost := dat_own dst
      have e1 := L_in_dat (lo := 0) (hi := (bs.length : Int) - 1) ds
      have e2 := L_in_dat (lo := 0) (hi := (bs.length : Int) - 1) dt
      show _ = CR.ok (.bl (qkV bs ⟨s, g, t, k, st⟩)) _
      cases v1 : wholeV 0 ((bs.length : Int) - 1) s with
      | false => rw [v1] at e1; simp [C_L_queue_due, runB, m_L_queue_due_f, os, ot, og, ok, ost, e1, qkV, v1]
      | true =>
        rw [v1] at e1
        cases v2 : wholeV 0 ((bs.length : Int) - 1) t with
        | false => rw [v2] at e2; simp [C_L_queue_due, runB, m_L_queue_due_f, os, ot, og, ok, ost, e1, e2, qkV, v1, v2]
        | true =>
          rw [v2] at e2
          obtain ⟨i, rfl, i0, i1⟩ := whole_int v1
          obtain ⟨j, rfl, j0, j1⟩ := whole_int v2
          have e5 := row_in_dat (lo := 0) (hi := 9972) (a := 0) (b := 60) dst
          rw [row_start] at e5
          have fg : frzP g = some g := frz_id og
          have fk : frzP k = some k := frz_id ok
          obtain ⟨p1, n1⟩ := bodyQd_ok (bs := bs) dg i0 (by omega) (some (.tup [.int i, g, .int j, k, st])) (some (.int i)) (some g) (some (.int j)) (some k) (some st) none
          cases v3 : ratesV (tlen bs (.int i)) g with
          | false =>
            obtain ⟨b8, f1⟩ := n1 v3
            simp [C_L_queue_due, runB, m_L_queue_due_f, og, ok, ost, e1, e2, qkV, v1, v2, v3, fg, fk, forL, f1]
          | true =>
            obtain ⟨b8, f1⟩ := p1 v3
            obtain ⟨p2, n2⟩ := bodyQd_ok (bs := bs) dk j0 (by omega) (some (.tup [.int i, g, .int j, k, st])) (some (.int i)) (some g) (some (.int j)) (some k) (some st) b8
            cases v4 : ratesV (tlen bs (.int j)) k with
            | false =>
              obtain ⟨c8, f2⟩ := n2 v4
              simp [C_L_queue_due, runB, m_L_queue_due_f, og, ok, ost, e1, e2, qkV, v1, v2, v3, v4, fg, fk, forL, f1, f2]
            | true =>
              obtain ⟨c8, f2⟩ := p2 v4
              simp [C_L_queue_due, runB, m_L_queue_due_f, og, ok, ost, e1, e2, qkV, v1, v2, v3, v4, fg, fk, forL, f1, f2, e5]
    · have hl' : ¬ ((xs.length : Int) = 5) := by omega
      simp [C_L_queue_due, runB, m_L_queue_due_f, ho, hl', queV_no hl]
      try simp [hl]
  | lst o' xs => simp at o; obtain ⟨rfl, o⟩ := o; simp [C_L_queue_due, runB, m_L_queue_due_f, o, queV]
  | int i => simp [C_L_queue_due, runB, m_L_queue_due_f, queV]
  | bl b => simp [C_L_queue_due, runB, m_L_queue_due_f, queV]
  | non => simp [C_L_queue_due, runB, m_L_queue_due_f, queV]
  | str s => simp [C_L_queue_due, runB, m_L_queue_due_f, queV]
  | _ => cases h
/-! ### what is well is a graph -/
theorem nums_back {x : PV} {hi : Int} (h : numsV 0 hi x = true) : ∃ l : List Int, x = .tup (l.map PV.int) ∧ NumsP hi l ∧ lenV x = l.length ∧ sumV x = l.sum := by
  obtain ⟨xs, rfl⟩ := numsV_tup h
  refine ⟨xs.map toI, by rw [whole_ints h], fun i hi2 => ?_, by simp [lenV], rfl⟩
  obtain ⟨y, hy, rfl⟩ := List.mem_map.mp hi2
  have := List.all_eq_true.mp (show xs.all (wholeV 0 hi) = true from h) y hy
  obtain ⟨j, rfl, j0, j1⟩ := whole_int this
  exact ⟨j0, j1⟩
theorem blockV_blk {x : PV} (h : blockV x = true) : ∃ b, BlkOK b ∧ x = eB b := by
  unfold blockV at h
  split at h
  · rename_i a b c
    simp only [Bool.and_eq_true] at h
    obtain ⟨h1, h2, h3⟩ := h
    cases a with
    | str s =>
      simp only [timesV, deedV, Bool.and_eq_true, decide_eq_true_eq] at h2 h3
      obtain ⟨t, rfl, t1, t2, _⟩ := nums_back h2.1
      obtain ⟨u, rfl, u1, u2, _⟩ := nums_back h3.1
      obtain ⟨c, rfl⟩ := str_sg s
      exact ⟨⟨Sg c, t, u⟩, ⟨⟨c, rfl, h1⟩, (by show 1 ≤ t.length; omega), (by show t.length ≤ 6; omega), t1, by show u.length = 2; omega, u1⟩, rfl⟩
    | _ => simp [nameP] at h1
  · cases h
theorem rates_back {n : Nat} {x : PV} (h : ratesV n x = true) : ∃ l : List Int, x = .tup (l.map PV.int) ∧ RatesP n l := by
  simp only [ratesV, Bool.and_eq_true, decide_eq_true_eq] at h
  obtain ⟨h1, h2, h3⟩ := h
  obtain ⟨l, rfl, l1, l2, l3⟩ := nums_back h1
  exact ⟨l, rfl, by omega, l1, by omega⟩
theorem queV_que {bs : List Blk} {x : PV} (h : queV bs x = true) : ∃ q, QueOK bs q ∧ x = eQ q := by
  unfold queV at h
  split at h
  · rename_i s g t k st
    simp only [qkV, startV, Bool.and_eq_true, decide_eq_true_eq] at h
    obtain ⟨⟨h1, h2⟩, h3, h4, h5, h6⟩ := h
    obtain ⟨i, rfl, i0, i1⟩ := whole_int h1
    obtain ⟨j, rfl, j0, j1⟩ := whole_int h2
    obtain ⟨l, rfl, l1, l2, _⟩ := nums_back h5
    have hi : bs[i.toNat]? = some bs[i.toNat] := List.getElem?_eq_getElem (by omega)
    have hj : bs[j.toNat]? = some bs[j.toNat] := List.getElem?_eq_getElem (by omega)
    simp only [tlen, hi] at h3
    simp only [tlen, hj] at h4
    obtain ⟨a, rfl, ha⟩ := rates_back h3
    obtain ⟨b, rfl, hb⟩ := rates_back h4
    refine ⟨⟨i.toNat, j.toNat, a, b, l⟩, ⟨_, _, hi, hj, ha, hb, by show l.length ≤ 60; omega, l1⟩, ?_⟩
    simp only [eQ]
    rw [show ((i.toNat : Nat) : Int) = i by omega, show ((j.toNat : Nat) : Int) = j by omega]
  · cases h
theorem map_back {α : Type} {P : α → Prop} {e : α → PV} : ∀ {xs : List PV}, (∀ x ∈ xs, ∃ a, P a ∧ x = e a) → ∃ as : List α, xs = as.map e ∧ ∀ a ∈ as, P a
  | [], _ => ⟨[], rfl, fun a h => by cases h⟩
  | x :: r, h => by
    obtain ⟨a, ha, rfl⟩ := h x List.mem_cons_self
    obtain ⟨as, rfl, has⟩ := map_back (xs := r) fun z hz => h z (List.mem_cons_of_mem _ hz)
    exact ⟨a :: as, rfl, fun b hb => by
      rcases List.mem_cons.mp hb with rfl | hb
      · exact ha
      · exact has b hb⟩
theorem isi_no {x : PV} (h : dat x = true) (hn : ∀ xs, x ≠ .tup xs) : pIsi "tuple" [x] = some (.bl false) := by
  cases x with
  | tup xs => exact absurd rfl (hn xs)
  | _ => first | rfl | cases h
theorem any_mapB {α : Type} (o : Bool) (l : List α) (f : α → Bool) : pAny [.lst o (l.map fun x => PV.bl (f x))] = some (.bl (l.any f)) := by
  have e : boolsP (l.map fun x => PV.bl (f x)) = some (l.map f) := by
    induction l with
    | nil => rfl
    | cons b bs ih => simp [boolsP, ih]
  show (boolsP (l.map fun x => PV.bl (f x))).map _ = _
  rw [e]
  simp [List.any_map]
theorem cnt_strs (o : Bool) {ys : List Str} {a : Str} (ha : PyData.strOk a = true) (hy : ∀ y ∈ ys, PyData.strOk y = true) : pLCount [.lst o (ys.map PV.str), .str a] = some (.int (ys.count a : Nat)) := by
  rw [lcount_pu o (x := .str a) (by simpa using ha) (pus_of fun x hx => by
    obtain ⟨y, hy2, rfl⟩ := List.mem_map.mp hx
    simpa using hy y hy2) (by simp) (by
      refine Nat.le_trans (dpts_of (k := 0) fun x hx => ?_) (by omega)
      obtain ⟨y, hy2, rfl⟩ := List.mem_map.mp hx
      simp)]
  rw [List.countP_map, List.count]
  congr 3
  refine List.countP_congr fun z hz => ?_
  simp only [Function.comp_apply, decide_eq_true_eq, beq_iff_eq]
  exact ⟨fun e => PV.str.inj e, fun e => by rw [e]⟩
theorem count_dup : ∀ {l : List Str}, ¬ l.Nodup → ∃ x ∈ l, 1 < l.count x
  | [], h => absurd List.nodup_nil h
  | x :: r, h => by
    by_cases hx : x ∈ r
    · refine ⟨x, List.mem_cons_self, ?_⟩
      rw [List.count_cons_self]
      have := List.count_pos_iff.mpr hx
      omega
    · have : ¬ r.Nodup := fun z => h (List.nodup_cons.mpr ⟨hx, z⟩)
      obtain ⟨y, hy, hc⟩ := count_dup this
      refine ⟨y, List.mem_cons_of_mem _ hy, ?_⟩
      rw [List.count_cons]
      omega
theorem count_nodup : ∀ {l : List Str}, l.Nodup → ∀ x, l.count x ≤ 1
  | [], _, x => by simp
  | y :: r, h, x => by
    obtain ⟨h1, h2⟩ := List.nodup_cons.mp h
    have ih := count_nodup h2 x
    rw [List.count_cons]
    by_cases e : (y == x) = true
    · have e2 : y = x := by simpa using e
      subst e2
      rw [if_pos e, List.count_eq_zero.mpr h1]
      omega
    · rw [if_neg e]
      omega
theorem anyNames {o : Bool} {ys : List Str} (hy : ∀ y ∈ ys, PyData.strOk y = true) : pAny [.lst o (ys.map fun a => PV.bl (decide (1 < ys.count a)))] = some (.bl (!decide ys.Nodup)) := by
  rw [any_mapB]
  by_cases h : ys.Nodup
  · have : (ys.any fun a => decide (1 < ys.count a)) = false := by
      rw [List.any_eq_false]
      intro a _
      have := count_nodup h a
      simp
      omega
    rw [this]
    simp [h]
  · obtain ⟨x, hx, hc⟩ := count_dup h
    have : (ys.any fun a => decide (1 < ys.count a)) = true := List.any_eq_true.mpr ⟨x, hx, by simpa using hc⟩
    rw [this]
    simp [h]
theorem comp_isblk {bl : List PV} (h : dats bl = true) (a0 a2 a3 a4 : Option PV) : compL (t1 1) mYes (mFz (mCallN 1 C_is_block (oCons (oN 1) (oNil)))) [1] bl [a0, none, a2, a3, a4] [] = .ok (bl.map fun x => PV.bl (blockV x)) [a0, none, a2, a3, a4] := by
  have : compL (t1 1) mYes (mFz (mCallN 1 C_is_block (oCons (oN 1) (oNil)))) [1] bl [a0, none, a2, a3, a4] [] = .ok ([] ++ bl.map fun x => PV.bl (blockV x)) [a0, none, a2, a3, a4] := by
    refine compL_map (fun x hx => ?_) []
    have e := block_dat (dats_mem h x hx)
    have o := dat_own (dats_mem h x hx)
    exact ⟨[a0, some x, a2, a3, a4], [a0, some x, a2, a3, a4], by simp, by simp [e, o], by simp⟩
  rw [this, List.nil_append]
theorem comp_blkdue {bl : List PV} (h : dats bl = true) (a0 a2 a3 a4 a5 a6 : Option PV) : compL (t1 1) mYes (mFz (mCallN 1 C_L_block_due (oCons (oN 1) (oNil)))) [1] bl [a0, none, a2, a3, a4, a5, a6] [] = .ok (bl.map fun x => PV.bl (blockV x)) [a0, none, a2, a3, a4, a5, a6] := by
  have : compL (t1 1) mYes (mFz (mCallN 1 C_L_block_due (oCons (oN 1) (oNil)))) [1] bl [a0, none, a2, a3, a4, a5, a6] [] = .ok ([] ++ bl.map fun x => PV.bl (blockV x)) [a0, none, a2, a3, a4, a5, a6] := by
    refine compL_map (fun x hx => ?_) []
    have e := block_due_dat (dats_mem h x hx)
    have o := dat_own (dats_mem h x hx)
    exact ⟨[a0, some x, a2, a3, a4, a5, a6], [a0, some x, a2, a3, a4, a5, a6], by simp, by simp [e, o], by simp⟩
  rw [this, List.nil_append]
theorem comp_isq {ql : List PV} {bs : List Blk} (h : dats ql = true) (hb : bs.length ≤ 1000) (a0 a1 a4 : Option PV) : compL (t1 2) mYes (mFz (mCallN 2 C_is_queue (oCons (oN 2) (oCons (oN 3) (oNil))))) [2] ql [a0, a1, none, some (.tup (bs.map eB)), a4] [] = .ok (ql.map fun x => PV.bl (queV bs x)) [a0, a1, none, some (.tup (bs.map eB)), a4] := by
  have : compL (t1 2) mYes (mFz (mCallN 2 C_is_queue (oCons (oN 2) (oCons (oN 3) (oNil))))) [2] ql [a0, a1, none, some (.tup (bs.map eB)), a4] [] = .ok ([] ++ ql.map fun x => PV.bl (queV bs x)) [a0, a1, none, some (.tup (bs.map eB)), a4] := by
    refine compL_map (fun x hx => ?_) []
    have e := queue_dat (dats_mem h x hx) hb
    have o := dat_own (dats_mem h x hx)
    exact ⟨[a0, a1, some x, some (.tup (bs.map eB)), a4], [a0, a1, some x, some (.tup (bs.map eB)), a4], by simp, by simp [e, o], by simp⟩
  rw [this, List.nil_append]
theorem comp_qdue {ql : List PV} {bs : List Blk} (h : dats ql = true) (hb : bs.length ≤ 1000) (a0 a1 a2 a5 a6 : Option PV) : compL (t1 3) mYes (mFz (mCallN 2 C_L_queue_due (oCons (oN 3) (oCons (oN 4) (oNil))))) [3] ql [a0, a1, a2, none, some (.tup (bs.map eB)), a5, a6] [] = .ok (ql.map fun x => PV.bl (queV bs x)) [a0, a1, a2, none, some (.tup (bs.map eB)), a5, a6] := by
  have : compL (t1 3) mYes (mFz (mCallN 2 C_L_queue_due (oCons (oN 3) (oCons (oN 4) (oNil))))) [3] ql [a0, a1, a2, none, some (.tup (bs.map eB)), a5, a6] [] = .ok ([] ++ ql.map fun x => PV.bl (queV bs x)) [a0, a1, a2, none, some (.tup (bs.map eB)), a5, a6] := by
    refine compL_map (fun x hx => ?_) []
    have e := queue_due_dat (dats_mem h x hx) hb
    have o := dat_own (dats_mem h x hx)
    exact ⟨[a0, a1, a2, some x, some (.tup (bs.map eB)), a5, a6], [a0, a1, a2, some x, some (.tup (bs.map eB)), a5, a6], by simp, by simp [e, o], by simp⟩
  rw [this, List.nil_append]
def nmL (bs : List Blk) : List Str := bs.map (·.name)
theorem comp_names (bs : List Blk) (a0 a2 a3 a4 a5 a6 : Option PV) : compL (t1 1) mYes (mFz (mOp pIx (oCons (oN 1) (oCons (oE (mC (.int 0))) oNil)))) [1] (bs.map eB) [a0, none, a2, a3, a4, a5, a6] [] = .ok ((nmL bs).map PV.str) [a0, none, a2, a3, a4, a5, a6] := by
  have h := compE (l := bs) (enc := eB) (f := fun b => PV.str b.name) (t := t1 1) (own := [1]) (el := mFz (mOp pIx (oCons (oN 1) (oCons (oE (mC (.int 0))) oNil)))) (s := [a0, none, a2, a3, a4, a5, a6]) (fun b hb => by
    refine ⟨[a0, some (eB b), a2, a3, a4, a5, a6], [a0, some (eB b), a2, a3, a4, a5, a6], rfl, ?_, by simp⟩
    simp) []
  rw [List.nil_append] at h
  rw [h]
  unfold nmL
  rw [List.map_map]
  rfl
theorem comp_counts {ys : List Str} (hy : ∀ y ∈ ys, PyData.strOk y = true) (a0 a1 a3 a4 a5 : Option PV) : compL (t1 2) mYes (mOp (pCmp pGt) (oCons (oE (mLst1 pLCount (oN 6) (oN 2))) (oCons (oE (mC (.int 1))) oNil))) [2] (ys.map PV.str) [a0, a1, none, a3, a4, a5, some (.lst false (ys.map PV.str))] [] = .ok (ys.map fun a => PV.bl (decide (1 < ys.count a))) [a0, a1, none, a3, a4, a5, some (.lst false (ys.map PV.str))] := by
  have h := compE (l := ys) (enc := PV.str) (f := fun a => PV.bl (decide (1 < ys.count a))) (t := t1 2) (own := [2]) (el := mOp (pCmp pGt) (oCons (oE (mLst1 pLCount (oN 6) (oN 2))) (oCons (oE (mC (.int 1))) oNil))) (s := [a0, a1, none, a3, a4, a5, some (.lst false (ys.map PV.str))]) (fun a ha => by
    have e := cnt_strs false (hy a ha) hy
    refine ⟨[a0, a1, some (.str a), a3, a4, a5, some (.lst false (ys.map PV.str))], [a0, a1, some (.str a), a3, a4, a5, some (.lst false (ys.map PV.str))], rfl, ?_, by simp⟩
    have e2 : pGt ((ys.count a : Nat) : Int) 1 = decide (1 < ys.count a) := by
      unfold pGt
      exact decide_eq_decide.mpr (by omega)
    simp [e, e2]) []
  rw [List.nil_append] at h
  exact h
/-! ### graphs: both judges tell one thing -/
theorem graph_dat {x : PV} (h : dat x = true) : ∃ b, C_is_graph [x] = .ok (.bl b) [x] ∧ C_L_graph_due [x] = .ok (.bl b) [x] ∧ (b = true → ∃ bs qs, GrOK bs qs ∧ x = eG bs qs) := by
  have o := dat_own h
  by_cases hx : ∃ xs, x = .tup xs
  case neg =>
    have e := isi_no h fun xs e => hx ⟨xs, e⟩
    exact ⟨false, by simp [C_is_graph, runB, m_is_graph, o, e], by simp [C_L_graph_due, runB, m_L_graph_due, o, e], fun z => by cases z⟩
  obtain ⟨xs, rfl⟩ := hx
  have ho : PV.owns xs = false := by simpa using o
  by_cases hl : xs.length = 2
  case neg =>
    have hl' : ¬ ((xs.length : Int) = 2) := by omega
    refine ⟨false, ?_, ?_, fun z => by cases z⟩
    · simp [C_is_graph, runB, m_is_graph, ho, hl']
      try simp [hl]
    · simp [C_L_graph_due, runB, m_L_graph_due, ho, hl']
      try simp [hl]
  obtain ⟨a, b, rfl⟩ := len2 hl
  have hd := (dat_tup h).1
  have da := dats_mem hd a (by simp)
  have db := dats_mem hd b (by simp)
  have oa := dat_own da
  have ob := dat_own db
  by_cases ha : ∃ bl, a = .tup bl
  case neg =>
    have e := isi_no da fun xs e => ha ⟨xs, e⟩
    exact ⟨false, by simp [C_is_graph, runB, m_is_graph, oa, ob, e], by simp [C_L_graph_due, runB, m_L_graph_due, oa, ob, e], fun z => by cases z⟩
  obtain ⟨bl, rfl⟩ := ha
  have hob : PV.owns bl = false := by simpa using oa
  obtain ⟨dbl, dbn⟩ := dat_tup da
  have ll : bl.length ≤ LIM := lim_le (by omega)
  by_cases hb : ∃ ql, b = .tup ql
  case neg =>
    have e := isi_no db fun xs e => hb ⟨xs, e⟩
    refine ⟨false, ?_, by simp [C_L_graph_due, runB, m_L_graph_due, hob, ob, e], fun z => by cases z⟩
    by_cases c1 : (1 : Int) ≤ bl.length <;> by_cases c2 : (bl.length : Int) ≤ 60 <;> simp [C_is_graph, runB, m_is_graph, hob, ob, e, pLe, c1, c2]
  obtain ⟨ql, rfl⟩ := hb
  have hoq : PV.owns ql = false := by simpa using ob
  obtain ⟨dql, dqn⟩ := dat_tup db
  have lq : ql.length ≤ LIM := lim_le (by omega)
  by_cases c1 : (1 : Int) ≤ bl.length
  case neg => exact ⟨false, by simp [C_is_graph, runB, m_is_graph, hob, hoq, pLe, c1], by simp [C_L_graph_due, runB, m_L_graph_due, hob, hoq, pLe, c1], fun z => by cases z⟩
  by_cases c2 : (bl.length : Int) ≤ 60
  case neg => exact ⟨false, by simp [C_is_graph, runB, m_is_graph, hob, hoq, pLe, c1, c2], by simp [C_L_graph_due, runB, m_L_graph_due, hob, hoq, pLe, c1, c2], fun z => by cases z⟩
  by_cases c3 : (160 : Int) < ql.length
  case pos => exact ⟨false, by simp [C_is_graph, runB, m_is_graph, hob, hoq, pLe, pGt, c1, c2, c3], by simp [C_L_graph_due, runB, m_L_graph_due, hob, hoq, pLe, pGt, c1, c2, c3], fun z => by cases z⟩
  have k1 := fun a0 a2 a3 a4 => comp_isblk dbl a0 a2 a3 a4
  have k2 := fun a0 a2 a3 a4 a5 a6 => comp_blkdue dbl a0 a2 a3 a4 a5 a6
  have ha := all_map true bl blockV
  cases c4 : bl.all blockV with
  | false =>
    rw [c4] at ha
    exact ⟨false, by simp [C_is_graph, runB, m_is_graph, hob, hoq, pLe, pGt, c1, c2, c3, k1, ll, ha], by simp [C_L_graph_due, runB, m_L_graph_due, hob, hoq, pLe, pGt, c1, c2, c3, k2, ll, ha], fun z => by cases z⟩
  | true =>
    rw [c4] at ha
    obtain ⟨bs, rfl, hbs⟩ := map_back (P := BlkOK) (e := eB) fun x hx => blockV_blk (List.all_eq_true.mp c4 x hx)
    rw [List.length_map] at c1 c2 ll
    have hbl : bs.length ≤ 60 := by omega
    generalize (bs.map eB).map (fun x => PV.bl (blockV x)) = BL at *
    have l3 : bs.length ≤ 4000 := by omega
    have ys : ∀ y ∈ nmL bs, PyData.strOk y = true := fun y hy => by
      obtain ⟨b, hb, rfl⟩ := List.mem_map.mp hy
      exact (hbs b hb).1.strOk
    have k3 := fun a0 a2 a3 a4 a5 a6 => comp_names bs a0 a2 a3 a4 a5 a6
    have k4 := fun a0 a1 a3 a4 a5 => comp_counts ys a0 a1 a3 a4 a5
    have hany := anyNames (o := true) ys
    have hk := fun a0 a2 a3 a4 => keys_blk (bks := bs.map toK) (fun b hb => by
      obtain ⟨b2, hb2, rfl⟩ := List.mem_map.mp hb
      exact toK_sh (hbs b2 hb2)) a0 a2 a3 a4
    rw [eKs_toK] at hk
    have nlen : (nmL bs).length = bs.length := by simp [nmL]
    have nown : PV.owns ((nmL bs).map PV.str) = false := owns_strs _
    have klen : (keysOf (bs.map toK)).length = bs.length := by simp [keysOf]
    have knd : (keysOf (bs.map toK)).Nodup ↔ (nmL bs).Nodup := by
      rw [keys_nodup]
      have e : (bs.map toK).map (·.c) = (nmL bs).map fun y => y.cps.toList := by unfold nmL; rw [List.map_map, List.map_map]; rfl
      rw [e]
      constructor
      · intro h
        generalize nmL bs = l at h
        induction l with
        | nil => exact List.nodup_nil
        | cons x l ih =>
          rw [List.map_cons, List.nodup_cons] at h
          exact List.nodup_cons.mpr ⟨fun hx => h.1 (List.mem_map_of_mem hx), ih h.2⟩
      · exact nodup_map (fun a b e => by rw [← _root_.SX.S_tl a, ← _root_.SX.S_tl b, e])
    by_cases c5 : (nmL bs).Nodup
    · have e1 := insK_fold_nodup (keysOf (bs.map toK)) [] (by simp) (knd.mpr c5)
      have e2 : ((keysOf (bs.map toK)).foldl insK []).length = bs.length := by rw [e1]; simpa using klen
      have hq := all_map true ql (queV bs)
      have k5 := fun a0 a1 a4 => comp_isq (bs := bs) dql (by omega) a0 a1 a4
      have k6 := fun a0 a1 a2 a5 a6 => comp_qdue (bs := bs) dql (by omega) a0 a1 a2 a5 a6
      rw [show (!decide (nmL bs).Nodup) = false by simp [c5]] at hany
      generalize (nmL bs).map (fun a => PV.bl (decide (1 < (nmL bs).count a))) = CL at *
      have clen : CL.length ≤ LIM → True := fun _ => trivial
      refine ⟨ql.all (queV bs), ?_, ?_, fun z => ?_⟩
      · simp [C_is_graph, runB, m_is_graph, hob, hoq, pLe, pGt, c1, c2, c3, k1, ll, ha, hk, l3, e2, k5, lq, hq]
      · simp [C_L_graph_due, runB, m_L_graph_due, hob, hoq, pLe, pGt, c1, c2, c3, k2, ll, ha, k3, k4, k6, lq, hq, hany, nlen, nown]
      · obtain ⟨qs, rfl, hqs⟩ := map_back (P := QueOK bs) (e := eQ) fun x hx => queV_que (List.all_eq_true.mp z x hx)
        rw [List.length_map] at c3
        exact ⟨bs, qs, ⟨by omega, by omega, by omega, hbs, c5, hqs⟩, rfl⟩
    · have e1 := insK_fold_lt (keysOf (bs.map toK)) [] (fun z => c5 (knd.mp z.2))
      have e2 : ¬ ((((keysOf (bs.map toK)).foldl insK []).length : Int) = bs.length) := by
        simp at e1
        omega
      rw [show (!decide (nmL bs).Nodup) = true by simp [c5]] at hany
      generalize (nmL bs).map (fun a => PV.bl (decide (1 < (nmL bs).count a))) = CL at *
      refine ⟨false, ?_, ?_, fun z => by cases z⟩
      · simp [C_is_graph, runB, m_is_graph, hob, hoq, pLe, pGt, c1, c2, c3, k1, ll, ha, hk, l3, e2]
      · simp [C_L_graph_due, runB, m_L_graph_due, hob, hoq, pLe, pGt, c1, c2, c3, k2, ll, ha, k3, k4, hany, nlen, nown]
/-! ### what the law draws -/
theorem token_ok {d : PV} (hd : DOK d) : ∃ i d', C_L_token [d] = .ok (.int i) [d'] ∧ 0 ≤ i ∧ i ≤ 9972 ∧ DOK d' := by
  obtain ⟨k, d1, e1, k0, k1, hd1⟩ := draw_ok (many := 4) hd (by omega) (by omega)
  have z0 := hd.own
  have z1 := hd1.own
  by_cases c0 : k = 0
  · subst c0
    obtain ⟨r, d2, e2, r0, r1, hd2⟩ := draw_ok (many := 9973) hd1 (by omega) (by omega)
    have z2 := hd2.own
    exact ⟨r, d2, by simp [C_L_token, runB, m_L_token, z0, z1, z2, e1, e2], by omega, by omega, hd2⟩
  · by_cases c1 : k = 1
    · subst c1
      obtain ⟨r, d2, e2, r0, r1, hd2⟩ := draw_ok (many := 3) hd1 (by omega) (by omega)
      have z2 := hd2.own
      exact ⟨9972 - r, d2, by simp [C_L_token, runB, m_L_token, z0, z1, z2, e1, e2], by omega, by omega, hd2⟩
    · obtain ⟨r, d2, e2, r0, r1, hd2⟩ := draw_ok (many := 12) hd1 (by omega) (by omega)
      have z2 := hd2.own
      exact ⟨r, d2, by simp [C_L_token, runB, m_L_token, z0, z1, z2, e1, e2, c0, c1], by omega, by omega, hd2⟩
theorem tokens_ok {d : PV} {many : Nat} (hd : DOK d) (hm : many ≤ 1000) : ∃ l d', C_L_tokens [d, .int many] = .ok (.tup (l.map PV.int)) [d', .int many] ∧ l.length = many ∧ NumsP 9972 l ∧ DOK d' := by
  have key : ∀ (xs : List PV) (d : PV) (a : PV) (acc : List PV), DOK d → ∃ l d', compL (t1 2) mYes (mFz (mCallN 1 C_L_token (oCons (oN 0) (oNil)))) [2] xs [some d, some a, none] acc = .ok (acc ++ l.map PV.int) [some d', some a, none] ∧ l.length = xs.length ∧ NumsP 9972 l ∧ DOK d' := by
    intro xs
    induction xs with
    | nil => intro d a acc hd; exact ⟨[], d, by simp [compL], rfl, fun i hi => by simp at hi, hd⟩
    | cons x xs ih =>
      intro d a acc hd
      obtain ⟨i, d1, e, i0, i1, hd1⟩ := token_ok hd
      obtain ⟨l, d', e2, hl, hn, hd'⟩ := ih d1 a (acc ++ [.int i]) hd1
      have z1 := hd.own
      have z2 := hd1.own
      refine ⟨i :: l, d', ?_, by simp [hl], fun j hj => ?_, hd'⟩
      · simp [compL, z1, z2, e, e2]
      · rcases List.mem_cons.mp hj with rfl | hj
        · exact ⟨i0, i1⟩
        · exact hn j hj
  obtain ⟨l, d', e, hl, hn, hd'⟩ := key (rngP many) d (.int many) [] hd
  have z1 := hd.own
  have z2 := hd'.own
  have z3 : itRng1 [.int many] = some (rngP many) := it_nat (by omega) (by omega)
  have z4 : many ≤ LIM := lim_le (by omega)
  refine ⟨l, d', ?_, by simpa using hl, hn, hd'⟩
  simp [C_L_tokens, runB, m_L_tokens, z1, z2, z3, e, z4]
theorem compDraw {many : Int} (h0 : 0 < many) (h1 : many < 1073741824) (a1 a3 a4 a5 : Option PV) : ∀ (xs : List PV) (d : PV) (acc : List PV), DOK d → ∃ l d', compL (t1 2) mYes (mFz (mCallN 2 C_L_draw (oCons (oN 0) (oCons (oE (mC (.int many))) (oNil))))) [2] xs [some d, a1, none, a3, a4, a5] acc = .ok (acc ++ l.map PV.int) [some d', a1, none, a3, a4, a5] ∧ l.length = xs.length ∧ NumsP (many - 1) l ∧ DOK d' := by
  intro xs
  induction xs with
  | nil => intro d acc hd; exact ⟨[], d, by simp [compL], rfl, fun i hi => by simp at hi, hd⟩
  | cons x xs ih =>
    intro d acc hd
    obtain ⟨i, d1, e, i0, i1, hd1⟩ := draw_ok (many := many) hd h0 h1
    obtain ⟨l, d', e2, hl, hn, hd'⟩ := ih d1 (acc ++ [.int i]) hd1
    have z1 := hd.own
    have z2 := hd1.own
    refine ⟨i :: l, d', ?_, by simp [hl], fun j hj => ?_, hd'⟩
    · simp [compL, z1, z2, e, e2]
    · rcases List.mem_cons.mp hj with rfl | hj
      · exact ⟨i0, by omega⟩
      · exact hn j hj
noncomputable def tailR : MS := mSeq (mIf (mT (mOp (pEq false) (oCons (oE (mOp pSum (oCons (oN 4) (oNil)))) (oCons (oE (mC (.int 0))) oNil)))) (mSeq (mAsg (mCallN 2 C_L_draw (oCons (oN 0) (oCons (oN 1) (oNil)))) (t1 5))
    (mSetI 4 (mN 5) (mFz (mOp pAdd (oCons (oE (mC (.int 1))) (oCons (oE (mCallN 2 C_L_draw (oCons (oN 0) (oCons (oE (mC (.int 12))) (oNil))))) oNil)))))) (mNx))
    (mRet (mOp pTuple (oCons (oN 4) (oNil))))
theorem tailR_ok {d : PV} {l : List Int} {size : Nat} (hd : DOK d) (hl : l.length = size) (hn : NumsP 12 l) (h0 : 0 < size) (h1 : size ≤ 1000) (a3 : Option PV) :
    ∃ l' d' a5, tailR [some d, some (.int size), none, a3, some (.lst true (l.map PV.int)), none] = .rt (.tup (l'.map PV.int)) [some d', some (.int size), none, a3, some (.lst true (l'.map PV.int)), a5] ∧ RatesP size l' ∧ DOK d' := by
  have z1 := hd.own
  have hs := sum_of true l
  have nn : 0 ≤ l.sum := sum_nonneg fun i hi => (hn i hi).1
  by_cases c : l.sum = 0
  · obtain ⟨k, d2, e2, k0, k1, hd2⟩ := draw_ok (many := size) hd (by omega) (by omega)
    obtain ⟨v, d3, e3, v0, v1, hd3⟩ := draw_ok (many := 12) hd2 (by omega) (by omega)
    have z2 := hd2.own
    have z3 := hd3.own
    have zi : ixN l.length k = some k.toNat := ixN_of k0 (by omega)
    have zs : (l.map PV.int).set k.toNat (.int (1 + v)) = (l.set k.toNat (1 + v)).map PV.int := set_ints _ _ _
    rw [c] at hs
    refine ⟨l.set k.toNat (1 + v), d3, some (.int k), ?_, ⟨by simp [hl], fun i hi => ?_, sum_set_pos (fun i hi => (hn i hi).1) (by omega) (by omega)⟩, hd3⟩
    · generalize l.set k.toNat (1 + v) = l' at *
      simp [tailR, z1, z2, z3, e2, e3, hs, zi, zs]
    · rcases List.mem_or_eq_of_mem_set hi with h | h
      · exact hn i h
      · subst h; omega
  · refine ⟨l, d, none, ?_, ⟨hl, hn, by omega⟩, hd⟩
    simp [tailR, z1, hs, c]
theorem m_row_f : m_L_row = mSeq (mAsg (mCallN 2 C_L_draw (oCons (oN 0) (oCons (oE (mC (.int 3))) (oNil)))) (t1 3))
    (mSeq (mAsg (mComp (oCons (oN 1) oNil) itRng1 (t1 2) (mYes) (mC (.int 0)) [2]) (t1 4))
    (mSeq (mIf (mT (mOp (pEq false) (oCons (oN 3) (oCons (oE (mC (.int 0))) oNil)))) (mAsg (mComp (oCons (oN 1) oNil) itRng1 (t1 2) (mYes) (mFz (mCallN 2 C_L_draw (oCons (oN 0) (oCons (oE (mC (.int 2))) (oNil))))) [2]) (t1 4)) (mNx))
    (mSeq (mIf (mT (mOp (pEq false) (oCons (oN 3) (oCons (oE (mC (.int 1))) oNil)))) (mAsg (mComp (oCons (oN 1) oNil) itRng1 (t1 2) (mYes) (mFz (mCallN 2 C_L_draw (oCons (oN 0) (oCons (oE (mC (.int 13))) (oNil))))) [2]) (t1 4)) (mNx))
    tailR))) := rfl
theorem row_ok {d : PV} {size : Nat} (hd : DOK d) (h0 : 0 < size) (h1 : size ≤ 1000) : ∃ l d', C_L_row [d, .int size] = .ok (.tup (l.map PV.int)) [d', .int size] ∧ RatesP size l ∧ DOK d' := by
  obtain ⟨kind, d1, e1, k0, k1, hd1⟩ := draw_ok (many := 3) hd (by omega) (by omega)
  have it : itRng1 [.int size] = some (rngP size) := it_nat (by omega) (by omega)
  have hz : ∀ a0 a1 a3 a4 a5, compL (t1 2) mYes (mC (.int 0)) [2] (rngP size) [a0, a1, none, a3, a4, a5] [] = .ok ((List.replicate size (0 : Int)).map PV.int) [a0, a1, none, a3, a4, a5] := fun a0 a1 a3 a4 a5 => by
    have : compL (t1 2) mYes (mC (.int 0)) [2] (rngP size) [a0, a1, none, a3, a4, a5] [] = .ok ([] ++ (rngP size).map fun _ => PV.int 0) [a0, a1, none, a3, a4, a5] :=
      compL_map (fun x _ => ⟨[a0, a1, some x, a3, a4, a5], [a0, a1, some x, a3, a4, a5], by simp, by simp, by simp⟩) []
    rw [this, List.nil_append]
    congr 1
    rw [List.map_replicate]
    exact List.eq_replicate_iff.mpr ⟨by simp, fun b hb => by obtain ⟨_, _, rfl⟩ := List.mem_map.mp hb; rfl⟩
  have z0 := hd.own
  have z1 := hd1.own
  have lz : size ≤ LIM := lim_le (by omega)
  have oz : PV.owns ((List.replicate size (0 : Int)).map PV.int) = false := owns_ints _
  rcases (by omega : kind = 0 ∨ kind = 1 ∨ kind = 2) with rfl | rfl | rfl
  · obtain ⟨l, d2, e2, hl, hn, hd2⟩ := compDraw (many := 2) (by omega) (by omega) (some (.int size)) (some (.int 0)) (some (.lst true ((List.replicate size (0 : Int)).map PV.int))) none (rngP size) d1 [] hd1
    obtain ⟨l', d3, a5, e3, hr, hd3⟩ := tailR_ok (size := size) hd2 (by simpa using hl) (fun i hi => ⟨(hn i hi).1, by have := (hn i hi).2; omega⟩) h0 h1 (some (.int 0))
    rw [List.nil_append] at e2
    have z2 := hd2.own
    have z3 := hd3.own
    refine ⟨l', d3, ?_, hr, hd3⟩
    generalize (List.replicate size (0 : Int)).map PV.int = Z at *
    simp [C_L_row, runB, m_row_f, z0, z1, z2, z3, e1, it, lz, hz, e2, e3]
  · obtain ⟨l, d2, e2, hl, hn, hd2⟩ := compDraw (many := 13) (by omega) (by omega) (some (.int size)) (some (.int 1)) (some (.lst true ((List.replicate size (0 : Int)).map PV.int))) none (rngP size) d1 [] hd1
    obtain ⟨l', d3, a5, e3, hr, hd3⟩ := tailR_ok (size := size) hd2 (by simpa using hl) (fun i hi => ⟨(hn i hi).1, by have := (hn i hi).2; omega⟩) h0 h1 (some (.int 1))
    rw [List.nil_append] at e2
    have z2 := hd2.own
    have z3 := hd3.own
    refine ⟨l', d3, ?_, hr, hd3⟩
    generalize (List.replicate size (0 : Int)).map PV.int = Z at *
    simp [C_L_row, runB, m_row_f, z0, z1, z2, z3, e1, it, lz, hz, e2, e3]
  · obtain ⟨l', d3, a5, e3, hr, hd3⟩ := tailR_ok (size := size) (l := List.replicate size 0) hd1 (by simp) (fun i hi => by rw [List.eq_of_mem_replicate hi]; omega) h0 h1 (some (.int 2))
    have z3 := hd3.own
    refine ⟨l', d3, ?_, hr, hd3⟩
    generalize (List.replicate size (0 : Int)).map PV.int = Z at *
    simp [C_L_row, runB, m_row_f, z0, z1, z3, e1, it, lz, hz, e3]
theorem pop_ok {d : PV} {xs : List PV} (hd : DOK d) (h0 : 0 < xs.length) (h1 : xs.length ≤ 1000) (ho : PV.owns xs = false) : ∃ (k : Nat) (hk : k < xs.length) (d' : PV), C_L_pop [d, .lst true xs] = .ok xs[k] [d', .lst true (xs.eraseIdx k)] ∧ DOK d' := by
  obtain ⟨r, d1, e, r0, r1, hd1⟩ := draw_ok (many := xs.length) hd (by omega) (by omega)
  have hr : r.toNat < xs.length := by omega
  have hx : xs[r.toNat]? = some xs[r.toNat] := List.getElem?_eq_getElem hr
  have hxo : (xs[r.toNat]).own = false := owns_mem ho (List.getElem_mem _)
  have z1 := hd.own
  have z2 := hd1.own
  have z3 : -9223372036854775808 ≤ r := by omega
  have z4 : r < 9223372036854775808 := by omega
  have z5 := seqIx r0 r1
  refine ⟨r.toNat, hr, d1, ?_, hd1⟩
  simp [C_L_pop, runB, m_L_pop, z1, z2, ho, e, z3, z4, z5, hx, hxo]
/-! ### the graph that the law makes -/
noncomputable def bodyM1 : MS := mSeq (mAsg (mOp pTuple (oCons (oE (mComp (oCons (oE (mOp pAdd (oCons (oE (mC (.int 1))) (oCons (oE (mCallN 2 C_L_draw (oCons (oN 0) (oCons (oE (mC (.int 6))) (oNil))))) oNil)))) oNil) itRng1 (t1 1) (mYes) (mFz (mCallN 2 C_L_draw (oCons (oN 0) (oCons (oE (mC (.int 61))) (oNil))))) [1])) (oNil))) (t1 5))
  (mDrop (mMeth 3 fApp (vCons (mTup (vCons (mFz (mCallN 2 C_L_pop (oCons (oN 0) (oCons (oN 2) (oNil))))) (vCons (mFzN 5) (vCons (mTup (vCons (mFz (mCallN 1 C_L_token (oCons (oN 0) (oNil)))) (vCons (mFz (mCallN 1 C_L_token (oCons (oN 0) (oNil)))) (vNil)))) (vNil))))) (vNil))))
noncomputable def bodyM2 : MS := mSeq (mPar 9 10 (vCons (mCallN 2 C_L_draw (oCons (oN 0) (oCons (oE (mOp pLen (oCons (oN 3) (oNil)))) (oNil)))) (vCons (mCallN 2 C_L_draw (oCons (oN 0) (oCons (oE (mOp pLen (oCons (oN 3) (oNil)))) (oNil)))) (vNil))))
  (mSeq (mAsg (mCallN 2 C_L_row (oCons (oN 0) (oCons (oE (mOp pLen (oCons (oE (mOp pIx (oCons (oE (mOp pIx (oCons (oN 3) (oCons (oN 9) oNil)))) (oCons (oE (mC (.int 1))) oNil)))) (oNil)))) (oNil)))) (t1 7))
  (mSeq (mAsg (mCallN 2 C_L_row (oCons (oN 0) (oCons (oE (mOp pLen (oCons (oE (mOp pIx (oCons (oE (mOp pIx (oCons (oN 3) (oCons (oN 10) oNil)))) (oCons (oE (mC (.int 1))) oNil)))) (oNil)))) (oNil)))) (t1 8))
  (mDrop (mMeth 6 fApp (vCons (mTup (vCons (mFzN 9) (vCons (mFzN 7) (vCons (mFzN 10) (vCons (mFzN 8) (vCons (mFz (mCallN 2 C_L_tokens (oCons (oN 0) (oCons (oE (mCallN 2 C_L_draw (oCons (oN 0) (oCons (oE (mC (.int 4))) (oNil))))) (oNil))))) (vNil))))))) (vNil))))))
theorem compDraw1 {many : Int} (h0 : 0 < many) (h1 : many < 1073741824) (a2 a3 a4 a5 a6 a7 a8 a9 a10 : Option PV) : ∀ (xs : List PV) (d : PV) (acc : List PV), DOK d → ∃ l d', compL (t1 1) mYes (mFz (mCallN 2 C_L_draw (oCons (oN 0) (oCons (oE (mC (.int many))) (oNil))))) [1] xs [some d, none, a2, a3, a4, a5, a6, a7, a8, a9, a10] acc = .ok (acc ++ l.map PV.int) [some d', none, a2, a3, a4, a5, a6, a7, a8, a9, a10] ∧ l.length = xs.length ∧ NumsP (many - 1) l ∧ DOK d' := by
  intro xs
  induction xs with
  | nil => intro d acc hd; exact ⟨[], d, by simp [compL], rfl, fun i hi => by simp at hi, hd⟩
  | cons x xs ih =>
    intro d acc hd
    obtain ⟨i, d1, e, i0, i1, hd1⟩ := draw_ok (many := many) hd h0 h1
    obtain ⟨l, d', e2, hl, hn, hd'⟩ := ih d1 (acc ++ [.int i]) hd1
    have z1 := hd.own
    have z2 := hd1.own
    refine ⟨i :: l, d', ?_, by simp [hl], fun j hj => ?_, hd'⟩
    · simp [compL, z1, z2, e, e2]
    · rcases List.mem_cons.mp hj with rfl | hj
      · exact ⟨i0, by omega⟩
      · exact hn j hj
structure M1 (k : Nat) (ns : List Str) (bs : List Blk) : Prop where
  l1 : ns.length + k = 61
  l2 : bs.length = k
  nd : (bs.map (·.name) ++ ns).Nodup
  no : ∀ y ∈ ns, NameOK y
  bo : ∀ b ∈ bs, BlkOK b
theorem bodyM1_ok {k : Nat} {ns : List Str} {bs : List Blk} {d : PV} (h : M1 k ns bs) (hk : k < 5) (hd : DOK d) (a4 a5 a6 a7 a8 a9 a10 : Option PV) :
    ∃ ns' bs' d' a5', bodyM1 [some d, none, some (.lst true (ns.map .str)), some (.lst true (bs.map eB)), a4, a5, a6, a7, a8, a9, a10] = .nx [some d', none, some (.lst true (ns'.map .str)), some (.lst true (bs'.map eB)), a4, a5', a6, a7, a8, a9, a10] ∧ M1 (k + 1) ns' bs' ∧ DOK d' := by
  have h1 := h.l1
  have h2 := h.l2
  obtain ⟨r, d1, e1, r0, r1, hd1⟩ := draw_ok (many := 6) hd (by omega) (by omega)
  obtain ⟨l, d2, e2, hl, hn, hd2⟩ := compDraw1 (many := 61) (by omega) (by omega) (some (.lst true (ns.map .str))) (some (.lst true (bs.map eB))) a4 a5 a6 a7 a8 a9 a10 (rngP (1 + r).toNat) d1 [] hd1
  rw [List.nil_append] at e2
  have it : itRng1 [.int (1 + r)] = some (rngP (1 + r).toNat) := it_nat (by omega) (by omega)
  obtain ⟨j, hj, d3, e3, hd3⟩ := pop_ok (xs := ns.map PV.str) hd2 (by rw [List.length_map]; omega) (by rw [List.length_map]; omega) (owns_strs ns)
  obtain ⟨t, d4, e4, t0, t1, hd4⟩ := token_ok hd3
  obtain ⟨u, d5, e5, u0, u1, hd5⟩ := token_ok hd4
  have hj2 : j < ns.length := by simpa using hj
  have g1 : (ns.map PV.str)[j] = .str ns[j] := by simp
  have g2 : (ns.map PV.str).eraseIdx j = (ns.eraseIdx j).map PV.str := by
    rw [List.eraseIdx_eq_take_drop_succ, List.eraseIdx_eq_take_drop_succ, List.map_append, List.map_take, List.map_drop]
  rw [g1, g2] at e3
  have z0 := hd.own
  have z1 := hd1.own
  have z2 := hd2.own
  have z3 := hd3.own
  have z4 := hd4.own
  have z5 := hd5.own
  have ll : l.length ≤ 6 ∧ 1 ≤ l.length := by
    rw [hl, rngP_len]
    omega
  have lr : (1 + r).toNat ≤ LIM := lim_le (by omega)
  have lb : bs.length < LIM := lim_lt (by omega)
  have lt : l.length ≤ LIM := lim_le (by omega)
  have perm : (ns[j] :: ns.eraseIdx j).Perm ns := perm_erase_cons hj2
  refine ⟨ns.eraseIdx j, bs ++ [⟨ns[j], l, [t, u]⟩], d5, some (.tup (l.map PV.int)), ?_, ⟨?_, ?_, ?_, fun y hy => h.no y (List.mem_of_mem_eraseIdx hy), fun b hb => ?_⟩, hd5⟩
  · have eb : (bs ++ [Blk.mk ns[j] l [t, u]]).map eB = bs.map eB ++ [.tup [.str ns[j], .tup (l.map PV.int), .tup [.int t, .int u]]] := by rw [List.map_append]; rfl
    rw [eb]
    generalize ns[j] = nj at *
    generalize (ns.eraseIdx j).map PV.str = NE at *
    generalize ns.map PV.str = NS at *
    simp [bodyM1, z0, z1, z2, z3, z4, z5, e1, it, lr, e2, lt, e3, e4, e5, lb]
  · rw [List.length_eraseIdx, if_pos hj2]; omega
  · simp [h2]
  · rw [List.map_append, List.append_assoc]
    exact ((List.Perm.append_left (bs.map (·.name)) perm).nodup_iff).mpr h.nd
  · rcases List.mem_append.mp hb with hb | hb
    · exact h.bo b hb
    · rw [List.mem_singleton.mp hb]
      exact ⟨h.no _ (List.getElem_mem _), ll.2, ll.1, fun i hi => ⟨(hn i hi).1, by have := (hn i hi).2; omega⟩, rfl, fun i hi => by
        simp only [List.mem_cons, List.not_mem_nil, or_false] at hi
        rcases hi with rfl | rfl <;> omega⟩
theorem bodyM2_ok {bs : List Blk} {qs : List Que} {d : PV} (hb : ∀ b ∈ bs, BlkOK b) (hl : 1 ≤ bs.length ∧ bs.length ≤ 60) (hq : ∀ q ∈ qs, QueOK bs q) (hql : qs.length ≤ 10) (hd : DOK d) (a1 a2 a4 a5 a7 a8 a9 a10 : Option PV) :
    ∃ q d' a7' a8' a9' a10', bodyM2 [some d, a1, a2, some (.lst true (bs.map eB)), a4, a5, some (.lst true (qs.map eQ)), a7, a8, a9, a10] = .nx [some d', a1, a2, some (.lst true (bs.map eB)), a4, a5, some (.lst true ((qs ++ [q]).map eQ)), a7', a8', a9', a10'] ∧ QueOK bs q ∧ DOK d' := by
  obtain ⟨s, d1, e1, s0, s1, hd1⟩ := draw_ok (many := bs.length) hd (by omega) (by omega)
  obtain ⟨t, d2, e2, t0, t1, hd2⟩ := draw_ok (many := bs.length) hd1 (by omega) (by omega)
  obtain ⟨i, rfl⟩ : ∃ i : Nat, s = i := ⟨s.toNat, by omega⟩
  obtain ⟨j, rfl⟩ : ∃ j : Nat, t = j := ⟨t.toNat, by omega⟩
  have hi : bs[i]? = some bs[i] := List.getElem?_eq_getElem (by omega)
  have hj : bs[j]? = some bs[j] := List.getElem?_eq_getElem (by omega)
  have ai : atI (bs.map eB) (i : Int) = some (eB bs[i]) := atI_of (by omega) (by rw [List.getElem?_map, Int.toNat_natCast, hi]; rfl)
  have aj : atI (bs.map eB) (j : Int) = some (eB bs[j]) := atI_of (by omega) (by rw [List.getElem?_map, Int.toNat_natCast, hj]; rfl)
  have bi := hb bs[i] (List.getElem_mem _)
  have bj := hb bs[j] (List.getElem_mem _)
  obtain ⟨g, d3, e3, hg, hd3⟩ := row_ok (size := (bs[i]).times.length) hd2 (by have := bi.2.1; omega) (by have := bi.2.2.1; omega)
  obtain ⟨k, d4, e4, hk, hd4⟩ := row_ok (size := (bs[j]).times.length) hd3 (by have := bj.2.1; omega) (by have := bj.2.2.1; omega)
  obtain ⟨m, d5, e5, m0, m1, hd5⟩ := draw_ok (many := 4) hd4 (by omega) (by omega)
  obtain ⟨mm, rfl⟩ : ∃ j : Nat, m = j := ⟨m.toNat, by omega⟩
  obtain ⟨l, d6, e6, l1, l2, hd6⟩ := tokens_ok (many := mm) hd5 (by omega)
  have z0 := hd.own
  have z1 := hd1.own
  have z2 := hd2.own
  have z3 := hd3.own
  have z4 := hd4.own
  have z5 := hd5.own
  have z6 := hd6.own
  have lq : qs.length < LIM := lim_lt (by omega)
  refine ⟨⟨i, j, g, k, l⟩, d6, some (.tup (g.map PV.int)), some (.tup (k.map PV.int)), some (.int i), some (.int j), ?_, ⟨_, _, hi, hj, hg, hk, by show l.length ≤ 60; omega, l2⟩, hd6⟩
  have eq : (qs ++ [Que.mk i j g k l]).map eQ = qs.map eQ ++ [.tup [.int i, .tup (g.map PV.int), .int j, .tup (k.map PV.int), .tup (l.map PV.int)]] := by rw [List.map_append]; rfl
  rw [eq]
  generalize bs[i] = b1 at *
  generalize bs[j] = b2 at *
  simp [bodyM2, z0, z1, z2, z3, z4, z5, z6, e1, e2, ai, aj, e3, e4, e5, e6, lq]
theorem loopM1 : ∀ (is : List PV) (k : Nat) (ns : List Str) (bs : List Blk) (d : PV) (a4 a5 : Option PV), M1 k ns bs → k + is.length ≤ 5 → DOK d →
    ∃ ns' bs' d' a4' a5', forL (t1 4) bodyM1 is [some d, none, some (.lst true (ns.map .str)), some (.lst true (bs.map eB)), a4, a5, none, none, none, none, none] = .nx [some d', none, some (.lst true (ns'.map .str)), some (.lst true (bs'.map eB)), a4', a5', none, none, none, none, none] ∧ M1 (k + is.length) ns' bs' ∧ DOK d'
  | [], k, ns, bs, d, a4, a5, h, _, hd => ⟨ns, bs, d, a4, a5, rfl, h, hd⟩
  | i :: is, k, ns, bs, d, a4, a5, h, hk, hd => by
    simp only [List.length_cons] at hk
    obtain ⟨ns1, bs1, d1, b5, e1, h1, hd1⟩ := bodyM1_ok h (by omega) hd (some i) a5 none none none none none
    obtain ⟨ns2, bs2, d2, c4, c5, e2, h2, hd2⟩ := loopM1 is (k + 1) ns1 bs1 d1 (some i) b5 h1 (by omega) hd1
    refine ⟨ns2, bs2, d2, c4, c5, ?_, by rw [List.length_cons, show k + (is.length + 1) = k + 1 + is.length by omega]; exact h2, hd2⟩
    simp only [forL, ap_t1, List.set_cons_succ, List.set_cons_zero, e1, e2]
theorem loopM2 {bs : List Blk} (hb : ∀ b ∈ bs, BlkOK b) (hl : 1 ≤ bs.length ∧ bs.length ≤ 60) (a1 a2 a5 : Option PV) : ∀ (is : List PV) (qs : List Que) (d : PV) (a4 a7 a8 a9 a10 : Option PV), (∀ q ∈ qs, QueOK bs q) → qs.length + is.length ≤ 5 → DOK d →
    ∃ (qs' : List Que) (d' : PV) (a4' a7' a8' a9' a10' : Option PV), forL (t1 4) bodyM2 is [some d, a1, a2, some (.lst true (bs.map eB)), a4, a5, some (.lst true (qs.map eQ)), a7, a8, a9, a10] = .nx [some d', a1, a2, some (.lst true (bs.map eB)), a4', a5, some (.lst true (qs'.map eQ)), a7', a8', a9', a10'] ∧ (∀ q ∈ qs', QueOK bs q) ∧ qs'.length = qs.length + is.length ∧ DOK d'
  | [], qs, d, a4, a7, a8, a9, a10, h, _, hd => ⟨qs, d, a4, a7, a8, a9, a10, rfl, h, rfl, hd⟩
  | i :: is, qs, d, a4, a7, a8, a9, a10, h, hk, hd => by
    simp only [List.length_cons] at hk
    obtain ⟨q, d1, b7, b8, b9, b10, e1, hq, hd1⟩ := bodyM2_ok hb hl h (by omega) hd a1 a2 (some i) a5 a7 a8 a9 a10
    obtain ⟨qs2, d2, c4, c7, c8, c9, c10, e2, h2, h3, hd2⟩ := loopM2 hb hl a1 a2 a5 is (qs ++ [q]) d1 (some i) b7 b8 b9 b10 (fun z hz => by
      rcases List.mem_append.mp hz with hz | hz
      · exact h z hz
      · rw [List.mem_singleton.mp hz]; exact hq) (by simp; omega) hd1
    refine ⟨qs2, d2, c4, c7, c8, c9, c10, ?_, h2, by rw [h3]; simp; omega, hd2⟩
    simp only [forL, ap_t1, List.set_cons_succ, List.set_cons_zero, e1, e2]
theorem m_L_made_f : m_L_made = mSeq (mAsg (mCallN 0 C_L_pool oNil) (t1 2)) (mSeq (mAsg (mLst (vNil)) (t1 3)) (mSeq (mFor [0] (oCons (oE (mOp pAdd (oCons (oE (mC (.int 1))) (oCons (oE (mCallN 2 C_L_draw (oCons (oN 0) (oCons (oE (mC (.int 3))) (oNil))))) oNil)))) oNil) itRng1 (t1 4) bodyM1) (mSeq (mAsg (mLst (vNil)) (t1 6)) (mSeq (mFor [0] (oCons (oE (mOp pAdd (oCons (oE (mC (.int 1))) (oCons (oE (mCallN 2 C_L_draw (oCons (oN 0) (oCons (oE (mC (.int 4))) (oNil))))) oNil)))) oNil) itRng1 (t1 4) bodyM2) (mRet (mTup (vCons (mOp pTuple (oCons (oN 3) (oNil))) (vCons (mOp pTuple (oCons (oN 6) (oNil))) (vNil))))))))) := rfl
theorem made_ok {d : PV} (hd : DOK d) : ∃ bs qs d', C_L_made [d] = .ok (eG bs qs) [d'] ∧ GrOK bs qs ∧ bs.length ≤ 3 ∧ 1 ≤ qs.length ∧ qs.length ≤ 4 ∧ DOK d' := by
  obtain ⟨r, d1, e1, r0, r1, hd1⟩ := draw_ok (many := 3) hd (by omega) (by omega)
  have m0 : M1 0 poolS [] := ⟨by rw [pool_len], rfl, by simpa using pool_nodup, pool_names, fun b hb => by cases hb⟩
  have it1 : itRng1 [.int (1 + r)] = some (rngP (1 + r).toNat) := it_nat (by omega) (by omega)
  obtain ⟨ns, bs, d2, b4, b5, e2, m1, hd2⟩ := loopM1 (rngP (1 + r).toNat) 0 poolS [] d1 none none m0 (by rw [rngP_len]; omega) hd1
  rw [rngP_len] at m1
  have lb := m1.l2
  obtain ⟨s, d3, e3, s0, s1, hd3⟩ := draw_ok (many := 4) hd2 (by omega) (by omega)
  have it2 : itRng1 [.int (1 + s)] = some (rngP (1 + s).toNat) := it_nat (by omega) (by omega)
  obtain ⟨qs, d4, c4, c7, c8, c9, c10, e4, hq, hql, hd4⟩ := loopM2 m1.bo (by omega) none (some (.lst true (ns.map .str))) b5 (rngP (1 + s).toNat) [] d3 b4 none none none none (fun q hq => by cases hq) (by rw [rngP_len]; simp; omega) hd3
  rw [rngP_len] at hql
  simp at hql
  have z0 := hd.own
  have z1 := hd1.own
  have z2 := hd2.own
  have z3 := hd3.own
  have z4 := hd4.own
  have l1 : bs.length ≤ LIM := lim_le (by omega)
  have l2 : qs.length ≤ LIM := lim_le (by omega)
  have nd : (bs.map (·.name)).Nodup := (List.nodup_append.mp m1.nd).1
  refine ⟨bs, qs, d4, ?_, ⟨by omega, by omega, by omega, m1.bo, nd, hq⟩, by omega, by omega, by omega, hd4⟩
  have n1 : ([] : List Blk).map eB = [] := rfl
  have n2 : ([] : List Que).map eQ = [] := rfl
  rw [n1] at e2
  rw [n2] at e4
  have pk := pool_ok
  have t1 : eG bs qs = .tup [.tup (bs.map eB), .tup (qs.map eQ)] := rfl
  rw [t1]
  generalize poolS.map PV.str = PS at *
  simp [C_L_made, runB, m_L_made_f, z0, z1, z2, z3, z4, pk, e1, it1, e2, e3, it2, e4, l1, l2]
/-! ### blocks' queues -/
def xB (p : Str) : XV := ⟨"BadThing", [("part", .str p)]⟩
theorem eG_own (bs : List Blk) (qs : List Que) : (eG bs qs).own = false := by simp [eG]
theorem check_block_dat {bs : List Blk} {qs : List Que} {x : PV} (h : dat x = true) : C_check_block [eG bs qs, x] = (if wholeV 0 ((bs.length : Int) - 1) x then .ok .non [eG bs qs, x] else .exc (xB "block") [eG bs qs, x]) := by
  have o := dat_own h
  have e := whole_dat (lo := 0) (hi := (bs.length : Int) - 1) h
  have e2 : C_is_place [x, .int bs.length] = .ok (.bl (wholeV 0 ((bs.length : Int) - 1) x)) [x, .int bs.length] := by
    simp [C_is_place, runB, m_is_place, o, e]
  cases v : wholeV 0 ((bs.length : Int) - 1) x with
  | true => rw [v] at e2; simp [C_check_block, runB, m_check_block, eG, o, e2]
  | false => rw [v] at e2; simp [C_check_block, runB, m_check_block, eG, o, e2, xB]
theorem check_queue_dat {bs : List Blk} {qs : List Que} {x : PV} (h : dat x = true) : C_check_queue [eG bs qs, x] = (if wholeV 0 ((qs.length : Int) - 1) x then .ok .non [eG bs qs, x] else .exc (xB "queue") [eG bs qs, x]) := by
  have o := dat_own h
  have e := whole_dat (lo := 0) (hi := (qs.length : Int) - 1) h
  have e2 : C_is_place [x, .int qs.length] = .ok (.bl (wholeV 0 ((qs.length : Int) - 1) x)) [x, .int qs.length] := by
    simp [C_is_place, runB, m_is_place, o, e]
  cases v : wholeV 0 ((qs.length : Int) - 1) x with
  | true => rw [v] at e2; simp [C_check_queue, runB, m_check_queue, eG, o, e2]
  | false => rw [v] at e2; simp [C_check_queue, runB, m_check_queue, eG, o, e2, xB]
def fstP : PV → PV
  | .tup (x :: _) => x
  | _ => .non
def selC (sel : Que → Nat) (qs : List Que) (k : Nat) : PV → Bool
  | .int j => match qs[j.toNat]? with | some q => decide (sel q = k) | none => false
  | _ => false
def selF (sel : Que → Nat) (qs : List Que) (k : Nat) : List PV := (rngP qs.length).filter (selC sel qs k)
theorem enum_fst : ∀ (xs : List PV) (n : Nat), (enumP n xs).map fstP = (List.range xs.length).map fun (k : Nat) => PV.int ((n + k : Nat) : Int)
  | [], n => by simp [enumP]
  | x :: r, n => by
    have ih := enum_fst r (n + 1)
    rw [enumP, List.map_cons, ih, List.length_cons, List.range_succ_eq_map, List.map_cons, List.map_map]
    congr 1
    refine List.map_congr_left fun k _ => ?_
    simp only [Function.comp_apply]
    congr 1
    omega
theorem enum_sel (sel : Que → Nat) (qs : List Que) (k : Nat) : ((enumP 0 (qs.map eQ)).filter (selC sel qs k ∘ fstP)).map fstP = selF sel qs k := by
  unfold selF
  have h := enum_fst (qs.map eQ) 0
  simp only [Nat.zero_add, List.length_map] at h
  have : rngP qs.length = (enumP 0 (qs.map eQ)).map fstP := by rw [h]; rfl
  rw [this, List.filter_map]
theorem selF_int {sel : Que → Nat} {qs : List Que} {k : Nat} : ∀ x ∈ selF sel qs k, ∃ i : Int, x = .int i := fun x hx => by
  have := (List.mem_filter.mp hx).1
  obtain ⟨i, _, rfl⟩ := List.mem_map.mp this
  exact ⟨i, rfl⟩
theorem selF_own (sel : Que → Nat) (qs : List Que) (k : Nat) : PV.owns (selF sel qs k) = false := owns_of fun x hx => by
  obtain ⟨i, rfl⟩ := selF_int x hx
  rfl
theorem selF_len (sel : Que → Nat) (qs : List Que) (k : Nat) : (selF sel qs k).length ≤ qs.length := by
  have := List.length_filter_le (selC sel qs k) (rngP qs.length)
  rw [rngP_len] at this
  exact this
theorem enum_mem {xs : List PV} {x : PV} (h : x ∈ enumP 0 xs) : ∃ (j : Nat) (y : PV), xs[j]? = some y ∧ x = .tup [.int j, y] := by
  obtain ⟨j, hj⟩ := List.getElem?_of_mem h
  rw [enumP_get] at hj
  cases e : xs[j]? with
  | none => rw [e] at hj; cases hj
  | some y =>
    rw [e] at hj
    refine ⟨j, y, e, ?_⟩
    have hj : PV.tup [.int ((0 + j : Nat)), y] = x := by simpa using hj
    rw [← hj, Nat.zero_add]
theorem enum_own {qs : List Que} : PV.owns (enumP 0 (qs.map eQ)) = false := owns_of fun x hx => by
  obtain ⟨j, y, h1, rfl⟩ := enum_mem hx
  rw [List.getElem?_map] at h1
  cases e : qs[j]? with
  | none => rw [e] at h1; cases h1
  | some q => rw [e] at h1; cases h1; simp
theorem into_ok {bs : List Blk} {qs : List Que} (k : Nat) (hq : qs.length ≤ 160) : C_into [eG bs qs, .int k] = .ok (.tup (selF (·.t) qs k)) [eG bs qs, .int k] := by
  have og := eG_own bs qs
  have hc : compL (tN [2, 3]) (mT (mOp (pEq false) (oCons (oE (mOp pIx (oCons (oN 3) (oCons (oE (mC (.int 2))) oNil)))) (oCons (oN 1) oNil)))) (mFzN 2) [2, 3] (enumP 0 (qs.map eQ)) [some (eG bs qs), some (.int k), none, none] [] = .ok ([] ++ ((enumP 0 (qs.map eQ)).filter (selC (·.t) qs k ∘ fstP)).map fstP) [some (eG bs qs), some (.int k), none, none] := by
    refine compL_filter (fun x hx => ?_) []
    obtain ⟨j, y, h1, rfl⟩ := enum_mem hx
    rw [List.getElem?_map] at h1
    cases e : qs[j]? with
    | none => rw [e] at h1; cases h1
    | some q =>
      rw [e] at h1
      cases h1
      have c : (selC (·.t) qs k ∘ fstP) (.tup [.int j, eQ q]) = decide (q.t = k) := by
        simp [fstP, selC, e]
      rw [c]
      have d : decide ((q.t : Int) = k) = decide (q.t = k) := decide_eq_decide.mpr (by omega)
      refine ⟨[some (eG bs qs), some (.int k), some (.int j), some (eQ q)], [some (eG bs qs), some (.int k), some (.int j), some (eQ q)], [some (eG bs qs), some (.int k), some (.int j), some (eQ q)], by simp [tN], ?_, fun h => ⟨by simp [fstP], by simp⟩, fun _ => by simp⟩
      have ix : pIx [eQ q, .int 2] = some (.int q.t) := by simp [eQ]
      simp [ix]
      omega
  rw [enum_sel, List.nil_append] at hc
  have ix : pIx [eG bs qs, .int 1] = some (.tup (qs.map eQ)) := by simp [eG]
  have l1 : (enumP 0 (qs.map eQ)).length ≤ LIM := lim_le (by rw [enumP_len, List.length_map]; omega)
  have so := selF_own (·.t) qs k
  have sl : (selF (·.t) qs k).length ≤ LIM := lim_le (by have := selF_len (·.t) qs k; omega)
  generalize selF (·.t) qs k = F at *
  simp [C_into, runB, m_into, og, ix, l1, hc, so, sl, enum_own]
theorem out_of_ok {bs : List Blk} {qs : List Que} (k : Nat) (hq : qs.length ≤ 160) : C_out_of [eG bs qs, .int k] = .ok (.tup (selF (·.s) qs k)) [eG bs qs, .int k] := by
  have og := eG_own bs qs
  have hc : compL (tN [2, 3]) (mT (mOp (pEq false) (oCons (oE (mOp pIx (oCons (oN 3) (oCons (oE (mC (.int 0))) oNil)))) (oCons (oN 1) oNil)))) (mFzN 2) [2, 3] (enumP 0 (qs.map eQ)) [some (eG bs qs), some (.int k), none, none] [] = .ok ([] ++ ((enumP 0 (qs.map eQ)).filter (selC (·.s) qs k ∘ fstP)).map fstP) [some (eG bs qs), some (.int k), none, none] := by
    refine compL_filter (fun x hx => ?_) []
    obtain ⟨j, y, h1, rfl⟩ := enum_mem hx
    rw [List.getElem?_map] at h1
    cases e : qs[j]? with
    | none => rw [e] at h1; cases h1
    | some q =>
      rw [e] at h1
      cases h1
      have c : (selC (·.s) qs k ∘ fstP) (.tup [.int j, eQ q]) = decide (q.s = k) := by
        simp [fstP, selC, e]
      rw [c]
      have d : decide ((q.s : Int) = k) = decide (q.s = k) := decide_eq_decide.mpr (by omega)
      refine ⟨[some (eG bs qs), some (.int k), some (.int j), some (eQ q)], [some (eG bs qs), some (.int k), some (.int j), some (eQ q)], [some (eG bs qs), some (.int k), some (.int j), some (eQ q)], by simp [tN], ?_, fun h => ⟨by simp [fstP], by simp⟩, fun _ => by simp⟩
      have ix : pIx [eQ q, .int 0] = some (.int q.s) := by simp [eQ]
      simp [ix]
      omega
  rw [enum_sel, List.nil_append] at hc
  have ix : pIx [eG bs qs, .int 1] = some (.tup (qs.map eQ)) := by simp [eG]
  have l1 : (enumP 0 (qs.map eQ)).length ≤ LIM := lim_le (by rw [enumP_len, List.length_map]; omega)
  have so := selF_own (·.s) qs k
  have sl : (selF (·.s) qs k).length ≤ LIM := lim_le (by have := selF_len (·.s) qs k; omega)
  generalize selF (·.s) qs k = F at *
  simp [C_out_of, runB, m_out_of, og, ix, l1, hc, so, sl, enum_own]
theorem wholeV_nat {n k : Nat} (h : k < n) : wholeV 0 ((n : Int) - 1) (.int k) = true := by
  simp [wholeV]
  omega
theorem incoming_ok {bs : List Blk} {qs : List Que} (h : GrOK bs qs) {k : Nat} (hk : k < bs.length) : C_incoming [eG bs qs, .int k] = .ok (.tup (selF (·.t) qs k)) [eG bs qs, .int k] := by
  have og := eG_own bs qs
  have e1 := check_good h
  have e2 := check_block_dat (bs := bs) (qs := qs) (x := .int k) rfl
  rw [if_pos (wholeV_nat hk)] at e2
  have e3 := into_ok (bs := bs) (qs := qs) k h.q2
  have so := selF_own (·.t) qs k
  generalize selF (·.t) qs k = F at *
  generalize eG bs qs = G at *
  simp [C_incoming, runB, m_incoming, og, e1, e2, e3]
theorem outgoing_ok {bs : List Blk} {qs : List Que} (h : GrOK bs qs) {k : Nat} (hk : k < bs.length) : C_outgoing [eG bs qs, .int k] = .ok (.tup (selF (·.s) qs k)) [eG bs qs, .int k] := by
  have og := eG_own bs qs
  have e1 := check_good h
  have e2 := check_block_dat (bs := bs) (qs := qs) (x := .int k) rfl
  rw [if_pos (wholeV_nat hk)] at e2
  have e3 := out_of_ok (bs := bs) (qs := qs) k h.q2
  have so := selF_own (·.s) qs k
  generalize selF (·.s) qs k = F at *
  generalize eG bs qs = G at *
  simp [C_outgoing, runB, m_outgoing, og, e1, e2, e3]
theorem blk_at {bs : List Blk} {k : Nat} {b : Blk} (h : bs[k]? = some b) : atI (bs.map eB) (k : Int) = some (eB b) := atI_of (by omega) (by rw [List.getElem?_map, Int.toNat_natCast, h]; rfl)
theorem que_at {qs : List Que} {k : Nat} {q : Que} (h : qs[k]? = some q) : atI (qs.map eQ) (k : Int) = some (eQ q) := atI_of (by omega) (by rw [List.getElem?_map, Int.toNat_natCast, h]; rfl)
theorem phases_ok {bs : List Blk} {qs : List Que} (h : GrOK bs qs) {k : Nat} {b : Blk} (hk : bs[k]? = some b) : C_phases [eG bs qs, .int k] = .ok (.int b.times.length) [eG bs qs, .int k] := by
  have og := eG_own bs qs
  have e1 := check_good h
  have e2 := check_block_dat (bs := bs) (qs := qs) (x := .int k) rfl
  rw [if_pos (wholeV_nat (List.getElem?_eq_some_iff.mp hk).1)] at e2
  have a := blk_at hk
  have ix : pIx [eG bs qs, .int 0] = some (.tup (bs.map eB)) := by simp [eG]
  have ix2 : pIx [eB b, .int 1] = some (.tup (b.times.map PV.int)) := by simp [eB]
  generalize eG bs qs = G at *
  simp [C_phases, runB, m_phases, og, e1, e2, ix, a, ix2]
theorem is_ints_ok {F : List PV} (h : ∀ x ∈ F, ∃ i : Int, x = .int i) (hl : F.length ≤ 1000) : C_L_is_ints [.tup F] = .ok (.bl true) [.tup F] := by
  have so : PV.owns F = false := owns_of fun x hx => by
    obtain ⟨i, rfl⟩ := h x hx
    rfl
  have hc : compL (t1 1) mYes (mFz (mCallN 1 C_L_is_int (oCons (oN 1) (oNil)))) [1] F [some (.tup F), none] [] = .ok ([] ++ F.map fun _ => PV.bl true) [some (.tup F), none] := by
    refine compL_map (fun x hx => ?_) []
    obtain ⟨i, rfl⟩ := h x hx
    have e := L_is_int_dat (x := .int i) rfl
    simp at e
    exact ⟨[some (.tup F), some (.int i)], [some (.tup F), some (.int i)], by simp, by simp [e], by simp⟩
  rw [List.nil_append] at hc
  have ha := all_map true F fun _ => true
  have ht : (F.all fun _ => true) = true := by simp
  rw [ht] at ha
  have hl2 : F.length ≤ LIM := lim_le (by omega)
  generalize F.map (fun _ => PV.bl true) = B at *
  simp [C_L_is_ints, runB, m_L_is_ints, so, hc, ha, hl2]
theorem eq_ints (n : Bool) {F : List PV} (h : ∀ x ∈ F, ∃ i : Int, x = .int i) : pEq n [.tup F, .tup F] = some (.bl (!n)) := by
  have p : pus F = true := pus_of fun x hx => by
    obtain ⟨i, rfl⟩ := h x hx
    rfl
  have d : dpts F ≤ 0 := dpts_of fun x hx => by
    obtain ⟨i, rfl⟩ := h x hx
    simp
  rw [eq_pu n (x := .tup F) (y := .tup F) (by simpa using p) (by simpa using p) (by simp; omega) (by simp; omega)]
  cases n <;> simp
theorem comp_ends {bs : List Blk} {qs : List Que} (a3 a4 a5 : Option PV) (k : Nat) : compL (t1 1) (mT (mOp (pEq false) (oCons (oE (mOp pIx (oCons (oE (mOp pIx (oCons (oE (mOp pIx (oCons (oN 0) (oCons (oE (mC (.int 1))) oNil)))) (oCons (oN 1) oNil)))) (oCons (oE (mC (.int 2))) oNil)))) (oCons (oN 2) oNil)))) (mFzN 1) [1] (rngP qs.length) [some (eG bs qs), none, some (.int k), a3, a4, a5] [] = .ok (selF (·.t) qs k) [some (eG bs qs), none, some (.int k), a3, a4, a5] := by
  have og := eG_own bs qs
  have ix : pIx [eG bs qs, .int 1] = some (.tup (qs.map eQ)) := by simp [eG]
  have : compL (t1 1) (mT (mOp (pEq false) (oCons (oE (mOp pIx (oCons (oE (mOp pIx (oCons (oE (mOp pIx (oCons (oN 0) (oCons (oE (mC (.int 1))) oNil)))) (oCons (oN 1) oNil)))) (oCons (oE (mC (.int 2))) oNil)))) (oCons (oN 2) oNil)))) (mFzN 1) [1] (rngP qs.length) [some (eG bs qs), none, some (.int k), a3, a4, a5] [] = .ok ([] ++ ((rngP qs.length).filter (selC (·.t) qs k)).map id) [some (eG bs qs), none, some (.int k), a3, a4, a5] := by
    refine compL_filter (fun x hx => ?_) []
    obtain ⟨j, hj, rfl⟩ := List.mem_map.mp hx
    have hj : j < qs.length := List.mem_range.mp hj
    have e : qs[j]? = some qs[j] := List.getElem?_eq_getElem hj
    have a := que_at e
    have c : selC (·.t) qs k (.int j) = decide ((qs[j]).t = k) := by
      simp [selC, e]
    rw [c]
    have ix2 : pIx [eQ qs[j], .int 2] = some (.int (qs[j]).t) := by simp [eQ]
    have d : decide (((qs[j]).t : Int) = k) = decide ((qs[j]).t = k) := decide_eq_decide.mpr (by omega)
    generalize eG bs qs = G at *
    generalize qs[j] = q at *
    refine ⟨[some G, some (.int j), some (.int k), a3, a4, a5], [some G, some (.int j), some (.int k), a3, a4, a5], [some G, some (.int j), some (.int k), a3, a4, a5], by simp, ?_, fun h => ⟨by simp, by simp⟩, fun _ => by simp⟩
    simp [og, ix, a, ix2]
    omega
  rw [this, List.nil_append, List.map_id]
  rfl
theorem comp_ends0 {bs : List Blk} {qs : List Que} (a3 a4 a5 : Option PV) (k : Nat) : compL (t1 1) (mT (mOp (pEq false) (oCons (oE (mOp pIx (oCons (oE (mOp pIx (oCons (oE (mOp pIx (oCons (oN 0) (oCons (oE (mC (.int 1))) oNil)))) (oCons (oN 1) oNil)))) (oCons (oE (mC (.int 0))) oNil)))) (oCons (oN 2) oNil)))) (mFzN 1) [1] (rngP qs.length) [some (eG bs qs), none, some (.int k), a3, a4, a5] [] = .ok (selF (·.s) qs k) [some (eG bs qs), none, some (.int k), a3, a4, a5] := by
  have og := eG_own bs qs
  have ix : pIx [eG bs qs, .int 1] = some (.tup (qs.map eQ)) := by simp [eG]
  have : compL (t1 1) (mT (mOp (pEq false) (oCons (oE (mOp pIx (oCons (oE (mOp pIx (oCons (oE (mOp pIx (oCons (oN 0) (oCons (oE (mC (.int 1))) oNil)))) (oCons (oN 1) oNil)))) (oCons (oE (mC (.int 0))) oNil)))) (oCons (oN 2) oNil)))) (mFzN 1) [1] (rngP qs.length) [some (eG bs qs), none, some (.int k), a3, a4, a5] [] = .ok ([] ++ ((rngP qs.length).filter (selC (·.s) qs k)).map id) [some (eG bs qs), none, some (.int k), a3, a4, a5] := by
    refine compL_filter (fun x hx => ?_) []
    obtain ⟨j, hj, rfl⟩ := List.mem_map.mp hx
    have hj : j < qs.length := List.mem_range.mp hj
    have e : qs[j]? = some qs[j] := List.getElem?_eq_getElem hj
    have a := que_at e
    have c : selC (·.s) qs k (.int j) = decide ((qs[j]).s = k) := by
      simp [selC, e]
    rw [c]
    have ix2 : pIx [eQ qs[j], .int 0] = some (.int (qs[j]).s) := by simp [eQ]
    have d : decide (((qs[j]).s : Int) = k) = decide ((qs[j]).s = k) := decide_eq_decide.mpr (by omega)
    generalize eG bs qs = G at *
    generalize qs[j] = q at *
    refine ⟨[some G, some (.int j), some (.int k), a3, a4, a5], [some G, some (.int j), some (.int k), a3, a4, a5], [some G, some (.int j), some (.int k), a3, a4, a5], by simp, ?_, fun h => ⟨by simp, by simp⟩, fun _ => by simp⟩
    simp [og, ix, a, ix2]
    omega
  rw [this, List.nil_append, List.map_id]
  rfl
noncomputable def bodyEn : MS := mSeq (mAsg (mOp pTuple (oCons (oE (mComp (oCons (oE (mOp pLen (oCons (oE (mOp pIx (oCons (oN 0) (oCons (oE (mC (.int 1))) oNil)))) (oNil)))) oNil) itRng1 (t1 1) (mT (mOp (pEq false) (oCons (oE (mOp pIx (oCons (oE (mOp pIx (oCons (oE (mOp pIx (oCons (oN 0) (oCons (oE (mC (.int 1))) oNil)))) (oCons (oN 1) oNil)))) (oCons (oE (mC (.int 2))) oNil)))) (oCons (oN 2) oNil)))) (mFzN 1) [1])) (oNil))) (t1 3))
  (mSeq (mAsg (mOp pTuple (oCons (oE (mComp (oCons (oE (mOp pLen (oCons (oE (mOp pIx (oCons (oN 0) (oCons (oE (mC (.int 1))) oNil)))) (oNil)))) oNil) itRng1 (t1 1) (mT (mOp (pEq false) (oCons (oE (mOp pIx (oCons (oE (mOp pIx (oCons (oE (mOp pIx (oCons (oN 0) (oCons (oE (mC (.int 1))) oNil)))) (oCons (oN 1) oNil)))) (oCons (oE (mC (.int 0))) oNil)))) (oCons (oN 2) oNil)))) (mFzN 1) [1])) (oNil))) (t1 4))
  (mSeq (mAsg (mCallN 2 C_incoming (oCons (oN 0) (oCons (oN 2) (oNil)))) (t1 5))
  (mSeq (mIf (mOr (mNot (mT (mCallN 1 C_L_is_ints (oCons (oN 5) (oNil))))) (mT (mOp (pEq true) (oCons (oN 5) (oCons (oN 3) oNil))))) (mRet (mC (.bl false))) (mNx))
  (mSeq (mAsg (mCallN 2 C_outgoing (oCons (oN 0) (oCons (oN 2) (oNil)))) (t1 5))
  (mSeq (mIf (mOr (mNot (mT (mCallN 1 C_L_is_ints (oCons (oN 5) (oNil))))) (mT (mOp (pEq true) (oCons (oN 5) (oCons (oN 4) oNil))))) (mRet (mC (.bl false))) (mNx))
  (mSeq (mAsg (mCallN 2 C_phases (oCons (oN 0) (oCons (oN 2) (oNil)))) (t1 5))
  (mIf (mOr (mNot (mT (mCallN 1 C_L_is_int (oCons (oN 5) (oNil))))) (mT (mOp (pEq true) (oCons (oN 5) (oCons (oE (mOp pLen (oCons (oE (mOp pIx (oCons (oE (mOp pIx (oCons (oE (mOp pIx (oCons (oN 0) (oCons (oE (mC (.int 0))) oNil)))) (oCons (oN 2) oNil)))) (oCons (oE (mC (.int 1))) oNil)))) (oNil)))) oNil))))) (mRet (mC (.bl false))) (mNx))))))))
theorem bodyEn_ok {bs : List Blk} {qs : List Que} (h : GrOK bs qs) {k : Nat} (hk : k < bs.length) (a3 a4 a5 : Option PV) :
    ∃ b3 b4 b5, bodyEn [some (eG bs qs), none, some (.int k), a3, a4, a5] = .nx [some (eG bs qs), none, some (.int k), b3, b4, b5] := by
  have hb : bs[k]? = some bs[k] := List.getElem?_eq_getElem hk
  have e1 := incoming_ok h hk
  have e2 := outgoing_ok h hk
  have e3 := phases_ok h hb
  have og := eG_own bs qs
  have c1 := fun a3 a4 a5 => comp_ends (bs := bs) (qs := qs) a3 a4 a5 k
  have c2 := fun a3 a4 a5 => comp_ends0 (bs := bs) (qs := qs) a3 a4 a5 k
  have i1 := is_ints_ok (selF_int (sel := (·.t)) (qs := qs) (k := k)) (by have := selF_len (·.t) qs k; have := h.q2; omega)
  have i2 := is_ints_ok (selF_int (sel := (·.s)) (qs := qs) (k := k)) (by have := selF_len (·.s) qs k; have := h.q2; omega)
  have q1 := eq_ints true (selF_int (sel := (·.t)) (qs := qs) (k := k))
  have q2 := eq_ints true (selF_int (sel := (·.s)) (qs := qs) (k := k))
  have o1 := selF_own (·.t) qs k
  have o2 := selF_own (·.s) qs k
  have l1 : (selF (·.t) qs k).length ≤ LIM := lim_le (by have := selF_len (·.t) qs k; have := h.q2; omega)
  have l2 : (selF (·.s) qs k).length ≤ LIM := lim_le (by have := selF_len (·.s) qs k; have := h.q2; omega)
  have lq : qs.length ≤ LIM := lim_le (by have := h.q2; omega)
  have ix0 : pIx [eG bs qs, .int 0] = some (.tup (bs.map eB)) := by simp [eG]
  have ix1 : pIx [eG bs qs, .int 1] = some (.tup (qs.map eQ)) := by simp [eG]
  have ab := blk_at hb
  have it : itRng1 [.int qs.length] = some (rngP qs.length) := it_nat (by omega) (by have := h.q2; omega)
  have ii := L_is_int_dat (x := .int (bs[k]).times.length) rfl
  have ix2 : pIx [eB bs[k], .int 1] = some (.tup ((bs[k]).times.map PV.int)) := by simp [eB]
  simp at ii q1 q2
  generalize selF (·.t) qs k = F1 at *
  generalize selF (·.s) qs k = F2 at *
  generalize eG bs qs = G at *
  generalize bs[k] = b at *
  refine ⟨some (.tup F1), some (.tup F2), some (.int b.times.length), ?_⟩
  simp [bodyEn, og, ix1, it, lq, c1, c2, o1, o2, l1, l2, e1, e2, e3, i1, i2, q1, q2, ii, ix0, ab, ix2]
theorem loopEn {bs : List Blk} {qs : List Que} (h : GrOK bs qs) : ∀ (ks : List Nat) (a2 a3 a4 a5 : Option PV), (∀ k ∈ ks, k < bs.length) →
    ∃ b2 b3 b4 b5, forL (t1 2) bodyEn (ks.map fun (k : Nat) => PV.int (k : Int)) [some (eG bs qs), none, a2, a3, a4, a5] = .nx [some (eG bs qs), none, b2, b3, b4, b5]
  | [], a2, a3, a4, a5, _ => ⟨a2, a3, a4, a5, rfl⟩
  | k :: r, a2, a3, a4, a5, hk => by
    obtain ⟨b3, b4, b5, e1⟩ := bodyEn_ok h (hk k List.mem_cons_self) a3 a4 a5
    obtain ⟨c2, c3, c4, c5, e2⟩ := loopEn h r (some (.int k)) b3 b4 b5 fun z hz => hk z (List.mem_cons_of_mem _ hz)
    refine ⟨c2, c3, c4, c5, ?_⟩
    simp only [List.map_cons, forL, ap_t1, List.set_cons_succ, List.set_cons_zero, e1, e2]
theorem m_L_ends_f : m_L_ends = mSeq (mFor [0] (oCons (oE (mOp pLen (oCons (oE (mOp pIx (oCons (oN 0) (oCons (oE (mC (.int 0))) oNil)))) (oNil)))) oNil) itRng1 (t1 2) bodyEn) (mRet (mC (.bl true))) := rfl
theorem ends_ok {bs : List Blk} {qs : List Que} (h : GrOK bs qs) : C_L_ends [eG bs qs] = .ok (.bl true) [eG bs qs] := by
  have og := eG_own bs qs
  obtain ⟨b2, b3, b4, b5, e⟩ := loopEn h (List.range bs.length) none none none none fun k hk => List.mem_range.mp hk
  have it : itRng1 [.int bs.length] = some ((List.range bs.length).map fun (k : Nat) => PV.int (k : Int)) := it_nat (by omega) (by have := h.b2; omega)
  have ix0 : pIx [eG bs qs, .int 0] = some (.tup (bs.map eB)) := by simp [eG]
  generalize eG bs qs = G at *
  generalize (List.range bs.length).map (fun (k : Nat) => PV.int (k : Int)) = K at *
  simp [C_L_ends, runB, m_L_ends_f, og, ix0, it, e]
/-! ### sums ahead of a firing -/
def T0 (l : List Int) (r : Nat) : Int := (l.take r).sum
def S0 (l : List Int) (i : Int) : Int := i / (l.length : Int) * l.sum + T0 l (i % (l.length : Int)).toNat
def at0 (l : List Int) (i : Int) : Int := l.getD (i % (l.length : Int)).toNat 0
theorem T0_succ {l : List Int} {r : Nat} (h : r < l.length) : T0 l (r + 1) = T0 l r + l.getD r 0 := by
  unfold T0
  rw [← List.take_append_getElem h, List.sum_append]
  simp [h]
theorem T0_all (l : List Int) : T0 l l.length = l.sum := by
  unfold T0
  rw [List.take_length]
theorem S0_zero {l : List Int} : S0 l 0 = 0 := by
  unfold S0
  simp [T0]
theorem S0_of {l : List Int} {q : Int} {r : Nat} (hr : r < l.length) {i : Int} (hi : i = q * (l.length : Int) + r) : i / (l.length : Int) = q ∧ i % (l.length : Int) = r := by
  have := (Int.ediv_emod_unique (a := i) (b := (l.length : Int)) (r := (r : Int)) (q := q) (by omega)).mpr ⟨by rw [hi, Int.mul_comm]; omega, by omega, by omega⟩
  exact this
theorem S0_qr {l : List Int} (q : Int) (r : Nat) (hr : r < l.length) : S0 l (q * (l.length : Int) + r) = q * l.sum + T0 l r := by
  obtain ⟨h1, h2⟩ := S0_of (i := q * (l.length : Int) + r) hr rfl
  unfold S0
  rw [h1, h2, Int.toNat_natCast]
theorem qr_of {l : List Int} (h : 0 < l.length) (i : Int) : ∃ (q : Int) (r : Nat), r < l.length ∧ i = q * (l.length : Int) + r ∧ i / (l.length : Int) = q ∧ i % (l.length : Int) = r := by
  have h0 : (0 : Int) < (l.length : Nat) := by omega
  have h1 := Int.emod_nonneg i (show (l.length : Int) ≠ 0 by omega)
  have h2 := Int.emod_lt_of_pos i h0
  have h3 := Int.mul_ediv_add_emod i (l.length : Int)
  refine ⟨i / (l.length : Int), (i % (l.length : Int)).toNat, by omega, ?_, rfl, by omega⟩
  rw [Int.mul_comm] at h3
  have h4 : (((i % (l.length : Int)).toNat : Nat) : Int) = i % (l.length : Int) := by omega
  rw [h4]
  exact h3.symm
theorem S0_succ {l : List Int} (h : 0 < l.length) (i : Int) : S0 l (i + 1) = S0 l i + at0 l i := by
  obtain ⟨q, r, hr, hi, h1, h2⟩ := qr_of h i
  have ha : at0 l i = l.getD r 0 := by unfold at0; rw [h2, Int.toNat_natCast]
  rw [ha]
  have e1 : S0 l i = q * l.sum + T0 l r := by rw [hi]; exact S0_qr q r hr
  by_cases c : r + 1 < l.length
  · have e2 : i + 1 = q * (l.length : Int) + ((r + 1 : Nat) : Int) := by omega
    rw [e1, e2, S0_qr q (r + 1) c, T0_succ hr]
    omega
  · have hn : r + 1 = l.length := by omega
    have e2 : i + 1 = (q + 1) * (l.length : Int) + ((0 : Nat) : Int) := by
      rw [Int.add_mul, Int.one_mul]
      omega
    have e3 : T0 l (r + 1) = l.sum := by rw [hn]; exact T0_all l
    rw [T0_succ hr] at e3
    rw [e1, e2, S0_qr (q + 1) 0 h, Int.add_mul, Int.one_mul]
    have : T0 l 0 = 0 := rfl
    omega
theorem at0_ix {l : List Int} (h : 0 < l.length) (i : Int) : atI (l.map PV.int) (i % (l.length : Int)) = some (.int (at0 l i)) := by
  have h1 := Int.emod_nonneg i (show (l.length : Int) ≠ 0 by omega)
  have h2 := Int.emod_lt_of_pos i (show (0 : Int) < (l.length : Nat) by omega)
  refine atI_of h1 ?_
  have hr : (i % (l.length : Int)).toNat < l.length := by omega
  unfold at0
  rw [List.getElem?_map, List.getElem?_eq_getElem hr]
  simp [List.getD, hr]
theorem take_int (l : List Int) (r : Nat) : (l.map PV.int).take r = (l.take r).map PV.int := by rw [List.map_take]
theorem sum_before_val {l : List Int} (h : 0 < l.length) (hl : l.length ≤ 1000) {i : Int} (hi : -100000000 ≤ i ∧ i ≤ 100000000) : C_sum_before [.tup (l.map PV.int), .int i] = .ok (.int (S0 l i)) [.tup (l.map PV.int), .int i] := by
  have o := owns_ints l
  have hs := sum_ofT l
  have h0 : (0 : Int) < (l.length : Nat) := by omega
  have h1 := Int.emod_nonneg i (show (l.length : Int) ≠ 0 by omega)
  obtain ⟨q, r, hr, hqr, e1, e2⟩ := qr_of h i
  have s1 := slHi_tup (l.map PV.int) (r : Int) r rfl o
  rw [take_int] at s1
  have hs2 := sum_ofT (l.take r)
  have hq : -100000000 ≤ q ∧ q ≤ 100000000 := by
    rw [← e1]
    constructor
    · have := Int.le_ediv_iff_mul_le (a := -100000000) (b := i) h0
      rw [this]
      have : (-100000000 : Int) * (l.length : Nat) ≤ -100000000 * 1 := Int.mul_le_mul_of_nonpos_left (by omega) (by omega)
      omega
    · have : i / (l.length : Int) < 100000001 := by
        rw [Int.ediv_lt_iff_lt_mul h0]
        have : (100000001 : Int) * 1 ≤ 100000001 * (l.length : Nat) := Int.mul_le_mul_of_nonneg_left (by omega) (by omega)
        omega
      omega
  have sm : Bv.small64 q = true := sm_of (by omega) (by omega)
  have hlt : (l.length : Int) < 1073741824 := by omega
  have e : S0 l i = q * l.sum + (l.take r).sum := by rw [hqr]; exact S0_qr q r hr
  rw [e]
  generalize l.take r = tk at *
  simp [C_sum_before, runB, m_sum_before, o, hs, hs2, h0, h, hlt, e1, e2, s1, sm]
noncomputable def bodyBp : MS := mAsg (mOp pAdd (oCons (oN 2) (oCons (oE (mOp pIx (oCons (oN 0) (oCons (oE (mOp pMod (oCons (oE (mOp pInt1 (oCons (oN 3) (oNil)))) (oCons (oE (mOp pLen (oCons (oN 0) (oNil)))) oNil)))) oNil)))) oNil))) (t1 2)
noncomputable def bodyBm : MS := mAsg (mOp pSub (oCons (oN 2) (oCons (oE (mOp pIx (oCons (oN 0) (oCons (oE (mOp pMod (oCons (oE (mOp pInt1 (oCons (oE (mOp pSub (oCons (oE (mOp pNeg (oCons (oE (mC (.int 1))) oNil))) (oCons (oN 3) oNil)))) (oNil)))) (oCons (oE (mOp pLen (oCons (oN 0) (oNil)))) oNil)))) oNil)))) oNil))) (t1 2)
theorem rngP_at {n i : Nat} {x : PV} (h : (rngP n)[i]? = some x) : x = .int i ∧ i < n := by
  have hi : i < n := by have := (List.getElem?_eq_some_iff.mp h).1; simpa using this
  unfold rngP at h
  rw [List.getElem?_map, List.getElem?_range hi] at h
  exact ⟨(Option.some.inj h).symm, hi⟩
theorem loopBp {l : List Int} (h : 0 < l.length) (a1 : Option PV) (n : Nat) : ∃ a3, forL (t1 3) bodyBp (rngP n) [some (.tup (l.map PV.int)), a1, some (.int 0), none] = .nx [some (.tup (l.map PV.int)), a1, some (.int (S0 l n)), a3] := by
  have o := owns_ints l
  have key := forL_inv (t := t1 3) (b := bodyBp) (xs := rngP n) (Inv := fun k s => ∃ a3, s = [some (.tup (l.map PV.int)), a1, some (.int (S0 l k)), a3]) 0 (fun i x hx s hs => by
    obtain ⟨a3, rfl⟩ := hs
    obtain ⟨rfl, hi⟩ := rngP_at hx
    have ix := at0_ix h (i : Int)
    have h0 : (0 : Int) < (l.length : Nat) := by omega
    have e := S0_succ h (i : Int)
    refine ⟨_, [some (.tup (l.map PV.int)), a1, some (.int (S0 l (i + 1))), some (.int i)], rfl, .inl ?_, some (.int i), by simp⟩
    rw [e]
    simp [bodyBp, o, h0, h, ix]) [some (.tup (l.map PV.int)), a1, some (.int 0), none] ⟨none, by simp [S0_zero]⟩
  obtain ⟨s', e, a3, rfl⟩ := key
  rw [Nat.zero_add, rngP_len] at e
  exact ⟨a3, e⟩
theorem loopBm {l : List Int} (h : 0 < l.length) (a1 : Option PV) (n : Nat) : ∃ a3, forL (t1 3) bodyBm (rngP n) [some (.tup (l.map PV.int)), a1, some (.int 0), none] = .nx [some (.tup (l.map PV.int)), a1, some (.int (S0 l (-(n : Int)))), a3] := by
  have o := owns_ints l
  have key := forL_inv (t := t1 3) (b := bodyBm) (xs := rngP n) (Inv := fun k s => ∃ a3, s = [some (.tup (l.map PV.int)), a1, some (.int (S0 l (-(k : Int)))), a3]) 0 (fun i x hx s hs => by
    obtain ⟨a3, rfl⟩ := hs
    obtain ⟨rfl, hi⟩ := rngP_at hx
    have ix := at0_ix h (-1 - (i : Int))
    have h0 : (0 : Int) < (l.length : Nat) := by omega
    have e := S0_succ h (-1 - (i : Int))
    rw [show (-1 - (i : Int)) + 1 = -(i : Int) by omega] at e
    have e2 : S0 l (-((0 + i + 1 : Nat) : Int)) = S0 l (-(i : Int)) - at0 l (-1 - (i : Int)) := by
      rw [show (-((0 + i + 1 : Nat) : Int)) = -1 - (i : Int) by omega]
      omega
    refine ⟨_, [some (.tup (l.map PV.int)), a1, some (.int (S0 l (-((0 + i + 1 : Nat) : Int)))), some (.int i)], rfl, .inl ?_, some (.int i), rfl⟩
    rw [e2, Nat.zero_add]
    simp [bodyBm, o, h0, h, ix]) [some (.tup (l.map PV.int)), a1, some (.int 0), none] ⟨none, by simp [S0_zero]⟩
  obtain ⟨s', e, a3, rfl⟩ := key
  rw [Nat.zero_add, rngP_len] at e
  exact ⟨a3, e⟩
theorem before_val {l : List Int} (h : 0 < l.length) {i : Int} (hi : -1000000 ≤ i ∧ i ≤ 1000000) : C_L_before [.tup (l.map PV.int), .int i] = .ok (.int (S0 l i)) [.tup (l.map PV.int), .int i] := by
  have o := owns_ints l
  by_cases c : 0 ≤ i
  · obtain ⟨n, rfl⟩ : ∃ n : Nat, i = n := ⟨i.toNat, by omega⟩
    obtain ⟨a3, e⟩ := loopBp h (some (.int n)) n
    have it : itRng1 [.int n] = some (rngP n) := it_nat (by omega) (by omega)
    unfold bodyBp at e
    simp [C_L_before, runB, m_L_before, o, pGe, it, e]
  · obtain ⟨n, rfl⟩ : ∃ n : Nat, i = -(n : Int) := ⟨(-i).toNat, by omega⟩
    obtain ⟨a3, e⟩ := loopBm h (some (.int (-(n : Int)))) n
    have it : itRng1 [.int n] = some (rngP n) := it_nat (by omega) (by omega)
    have c2 : ¬ n = 0 := by omega
    have c3 : ¬ (n : Int) ≤ 0 := by omega
    unfold bodyBm at e
    simp [C_L_before, runB, m_L_before, o, pGe, c2, c3, it, e]
theorem L_sum_val {l : List Int} (h : 0 < l.length) (hl : l.length ≤ 1000) {i : Int} (hi : -100000000 ≤ i ∧ i ≤ 100000000) : C_L_sum [.tup (l.map PV.int), .int i] = .ok (.int (S0 l i)) [.tup (l.map PV.int), .int i] := by
  have o := owns_ints l
  have hs := sum_ofT l
  have h0 : (0 : Int) < (l.length : Nat) := by omega
  have hlt : (l.length : Int) < 1073741824 := by omega
  have far : ¬ (-60 ≤ i ∧ i ≤ 60) → C_L_sum [.tup (l.map PV.int), .int i] = .ok (.int (S0 l i)) [.tup (l.map PV.int), .int i] := fun c => by
    obtain ⟨q, r, hr, hqr, e1, e2⟩ := qr_of h i
    have hq : -100000000 ≤ q ∧ q ≤ 100000000 := by
      rw [← e1]
      constructor
      · rw [Int.le_ediv_iff_mul_le h0]
        have : (-100000000 : Int) * (l.length : Nat) ≤ -100000000 * 1 := Int.mul_le_mul_of_nonpos_left (by omega) (by omega)
        omega
      · have : i / (l.length : Int) < 100000001 := by
          rw [Int.ediv_lt_iff_lt_mul h0]
          have : (100000001 : Int) * 1 ≤ 100000001 * (l.length : Nat) := Int.mul_le_mul_of_nonneg_left (by omega) (by omega)
          omega
        omega
    have sm : Bv.small64 q = true := sm_of (by omega) (by omega)
    have eb := before_val h (i := (r : Int)) (by omega)
    have er : i - q * (l.length : Int) = r := by omega
    have es : S0 l (r : Int) = T0 l r := by
      have := S0_qr (l := l) 0 r hr
      rw [Int.zero_mul, Int.zero_mul, Int.zero_add, Int.zero_add] at this
      exact this
    rw [es] at eb
    have e : S0 l i = q * l.sum + T0 l r := by rw [hqr]; exact S0_qr q r hr
    rw [e]
    by_cases c1 : -60 ≤ i
    · have c2 : ¬ i ≤ 60 := fun z => c ⟨c1, z⟩
      simp [C_L_sum, runB, m_L_sum, o, pLe, c1, c2, hs, h0, h, hlt, e1, er, sm, eb]
    · simp [C_L_sum, runB, m_L_sum, o, pLe, c1, hs, h0, h, hlt, e1, er, sm, eb]
  by_cases c : -60 ≤ i ∧ i ≤ 60
  · have e := before_val h (i := i) (by omega)
    simp [C_L_sum, runB, m_L_sum, o, pLe, c.1, c.2, e]
  · exact far c
/-! ### the firing in whose share a token lies -/
noncomputable def condW : M Bool := mT (mOp (pCmp pGe) (oCons (oN 4) (oCons (oE (mOp pIx (oCons (oN 0) (oCons (oN 5) oNil)))) oNil)))
noncomputable def bodyW : MS := mSeq (mAsg (mOp pSub (oCons (oN 4) (oCons (oE (mOp pIx (oCons (oN 0) (oCons (oN 5) oNil)))) oNil))) (t1 4))
  (mAsg (mOp pAdd (oCons (oN 5) (oCons (oE (mC (.int 1))) oNil))) (t1 5))
theorem whileW {l : List Int} {x : Int} (hx : x < l.sum) (a1 a2 a3 : Option PV) : ∀ (f : Nat) (p : Nat), p + f = l.length → 0 < f → T0 l p ≤ x →
    ∃ (p' : Nat) (n : Nat), p' < l.length ∧ T0 l p' ≤ x ∧ x < T0 l (p' + 1) ∧ whileL condW bodyW n [some (.tup (l.map PV.int)), a1, a2, a3, some (.int (x - T0 l p)), some (.int p)] = .nx [some (.tup (l.map PV.int)), a1, a2, a3, some (.int (x - T0 l p')), some (.int p')]
  | 0, p, _, h, _ => absurd h (by omega)
  | f + 1, p, hp, _, hT => by
    have o := owns_ints l
    have hpl : p < l.length := by omega
    have ix : atI (l.map PV.int) (p : Int) = some (.int (l.getD p 0)) := atI_of (by omega) (by
      rw [List.getElem?_map, Int.toNat_natCast, List.getElem?_eq_getElem hpl]
      simp [List.getD, hpl])
    have e := T0_succ hpl
    by_cases c : l.getD p 0 ≤ x - T0 l p
    · have h0 : 0 < f := by
        rcases Nat.eq_zero_or_pos f with z | z
        · subst z
          have : p + 1 = l.length := by omega
          rw [this, T0_all] at e
          omega
        · exact z
      obtain ⟨p', n, h1, h2, h3, h4⟩ := whileW hx a1 a2 a3 f (p + 1) (by omega) h0 (by omega)
      refine ⟨p', n + 1, h1, h2, h3, ?_⟩
      have eb : bodyW [some (.tup (l.map PV.int)), a1, a2, a3, some (.int (x - T0 l p)), some (.int p)] = .nx [some (.tup (l.map PV.int)), a1, a2, a3, some (.int (x - T0 l (p + 1))), some (.int ((p + 1 : Nat) : Int))] := by
        rw [e]
        simp only [bodyW]
        generalize l.getD p 0 = y at *
        simp [o, ix]
        omega
      have ec : condW [some (.tup (l.map PV.int)), a1, a2, a3, some (.int (x - T0 l p)), some (.int p)] = .ok true [some (.tup (l.map PV.int)), a1, a2, a3, some (.int (x - T0 l p)), some (.int p)] := by
        simp only [condW]
        generalize l.getD p 0 = y at *
        simp [o, ix, pGe, c]
      unfold whileL
      rw [ec]
      simp only [R.out_ok, if_true, eb, h4]
    · refine ⟨p, 1, hpl, hT, by omega, ?_⟩
      have ec : condW [some (.tup (l.map PV.int)), a1, a2, a3, some (.int (x - T0 l p)), some (.int p)] = .ok false [some (.tup (l.map PV.int)), a1, a2, a3, some (.int (x - T0 l p)), some (.int p)] := by
        simp only [condW]
        generalize l.getD p 0 = y at *
        simp [o, ix, pGe]
        omega
      unfold whileL
      rw [ec]
      simp only [R.out_ok, Bool.false_eq_true, if_false]
theorem firing_with_val {l : List Int} (h : 0 < l.length) (hl : l.length ≤ 6) (hs0 : 0 < l.sum) (hs1 : l.sum ≤ 1000) {i : Int} (hi : -1000000 ≤ i ∧ i ≤ 1000000) :
    ∃ f, C_firing_with [.tup (l.map PV.int), .int i] = .ok (.int f) [.tup (l.map PV.int), .int i] ∧ S0 l f ≤ i ∧ i < S0 l (f + 1) ∧ -10000000 ≤ f ∧ f ≤ 10000000 := by
  have o := owns_ints l
  have hs := sum_ofT l
  have m0 := Int.emod_nonneg i (show l.sum ≠ 0 by omega)
  have m1 := Int.emod_lt_of_pos i hs0
  have m2 := Int.mul_ediv_add_emod i l.sum
  obtain ⟨p, n, h1, h2, h3, h4⟩ := whileW (x := i % l.sum) m1 (some (.int i)) (some (.int l.sum)) (some (.int (i / l.sum))) l.length 0 (by omega) h (by simpa [T0] using m0)
  have ew : mWhile condW bodyW [some (.tup (l.map PV.int)), some (.int i), some (.int l.sum), some (.int (i / l.sum)), some (.int (i % l.sum)), some (.int 0)] = .nx [some (.tup (l.map PV.int)), some (.int i), some (.int l.sum), some (.int (i / l.sum)), some (.int (i % l.sum - T0 l p)), some (.int p)] := by
    have t : T0 l 0 = 0 := rfl
    rw [t, Int.sub_zero] at h4
    rw [← h4]
    refine mWhile_eq ?_
    intro z
    have z2 := h4
    simp only [Int.natCast_zero] at z2 z
    rw [z2] at z
    cases z
  have hq : -1000000 ≤ i / l.sum ∧ i / l.sum ≤ 1000000 := by
    constructor
    · rw [Int.le_ediv_iff_mul_le hs0]
      have : (-1000000 : Int) * l.sum ≤ -1000000 * 1 := Int.mul_le_mul_of_nonpos_left (by omega) (by omega)
      omega
    · have : i / l.sum < 1000001 := by
        rw [Int.ediv_lt_iff_lt_mul hs0]
        have : (1000001 : Int) * 1 ≤ 1000001 * l.sum := Int.mul_le_mul_of_nonneg_left (by omega) (by omega)
        omega
      omega
  have sm : Bv.small64 (i / l.sum) = true := sm_of (by omega) (by omega)
  have hlt : l.sum < 1073741824 := by omega
  have em : m_firing_with = mSeq (mAsg (mOp pSum (oCons (oN 0) (oNil))) (t1 2))
    (mSeq (mAsg (mOp pFdiv (oCons (oN 1) (oCons (oN 2) oNil))) (t1 3))
    (mSeq (mAsg (mOp pMod (oCons (oN 1) (oCons (oN 2) oNil))) (t1 4))
    (mSeq (mAsg (mC (.int 0)) (t1 5))
    (mSeq (mWhile condW bodyW)
    (mRet (mOp pAdd (oCons (oE (mOp pMul2 (oCons (oN 3) (oCons (oE (mOp pLen (oCons (oN 0) (oNil)))) oNil)))) (oCons (oN 5) oNil)))))))) := rfl
  have e1 := S0_qr (l := l) (i / l.sum) p h1
  have e2 := S0_succ h (i / l.sum * (l.length : Int) + p)
  have e3 : at0 l (i / l.sum * (l.length : Int) + p) = l.getD p 0 := by
    unfold at0
    rw [(S0_of (i := i / l.sum * (l.length : Int) + p) h1 rfl).2, Int.toNat_natCast]
  have e4 := T0_succ h1
  have hm : i / l.sum * l.sum = l.sum * (i / l.sum) := Int.mul_comm _ _
  have bl : -6000000 ≤ i / l.sum * (l.length : Int) ∧ i / l.sum * (l.length : Int) ≤ 6000000 := by
    have hl' : (l.length : Int) ≤ 6 := by omega
    constructor
    · have a1 : (-1000000 : Int) * (l.length : Int) ≤ i / l.sum * (l.length : Int) := Int.mul_le_mul_of_nonneg_right hq.1 (by omega)
      omega
    · have a1 : i / l.sum * (l.length : Int) ≤ 1000000 * (l.length : Int) := Int.mul_le_mul_of_nonneg_right hq.2 (by omega)
      omega
  refine ⟨i / l.sum * (l.length : Int) + p, ?_, by omega, by omega, by omega, by omega⟩
  simp [C_firing_with, runB, em, o, hs, hs0, hlt, ew, sm]
/-! ### what the three functions tell, for any plain arguments -/
theorem dat_ints {l : List Int} (h : l.length ≤ 100000) : dat (.tup (l.map PV.int)) = true := by
  show (dats (l.map PV.int) && decide ((l.map PV.int).length ≤ 100000)) = true
  rw [dats_of fun x hx => by
    obtain ⟨i, _, rfl⟩ := List.mem_map.mp hx
    rfl]
  simpa using h
theorem dat_name {y : Str} (h : NameOK y) : dat (.str y) = true := by
  show (PyData.strOk y && decide (y.length ≤ 1000)) = true
  rw [h.strOk]
  have := h.val.2
  have e : y.length ≤ 16 := by
    have h2 : y.cps.toList.length = y.length := by simp [Str.length]
    omega
  simp
  omega
theorem dat_blk {b : Blk} (h : BlkOK b) : dat (eB b) = true := by
  obtain ⟨h1, h2, h3, h4, h5, h6⟩ := h
  show (dats [.str b.name, .tup (b.times.map PV.int), .tup (b.deed.map PV.int)] && true) = true
  rw [dats_of fun x hx => by
    simp only [List.mem_cons, List.not_mem_nil, or_false] at hx
    rcases hx with rfl | rfl | rfl
    · exact dat_name h1
    · exact dat_ints (by omega)
    · exact dat_ints (by omega)]
  rfl
theorem dat_que {bs : List Blk} {q : Que} (hb : ∀ b ∈ bs, BlkOK b) (h : QueOK bs q) : dat (eQ q) = true := by
  obtain ⟨b1, b2, e1, e2, h1, h2, h3, h4⟩ := h
  have a1 := (hb b1 (List.mem_of_getElem? e1)).2.2.1
  have a2 := (hb b2 (List.mem_of_getElem? e2)).2.2.1
  have := h1.1
  have := h2.1
  show (dats [.int q.s, .tup (q.gives.map PV.int), .int q.t, .tup (q.takes.map PV.int), .tup (q.start.map PV.int)] && true) = true
  rw [dats_of fun x hx => by
    simp only [List.mem_cons, List.not_mem_nil, or_false] at hx
    rcases hx with rfl | rfl | rfl | rfl | rfl
    · rfl
    · exact dat_ints (by omega)
    · rfl
    · exact dat_ints (by omega)
    · exact dat_ints (by omega)]
  rfl
theorem dats_blks {bs : List Blk} (h : ∀ b ∈ bs, BlkOK b) : dats (bs.map eB) = true := dats_of fun x hx => by
  obtain ⟨b, hb, rfl⟩ := List.mem_map.mp hx
  exact dat_blk (h b hb)
theorem dats_ques {bs : List Blk} {qs : List Que} (hb : ∀ b ∈ bs, BlkOK b) (h : ∀ q ∈ qs, QueOK bs q) : dats (qs.map eQ) = true := dats_of fun x hx => by
  obtain ⟨q, hq, rfl⟩ := List.mem_map.mp hx
  exact dat_que hb (h q hq)
theorem dat_tupI {xs : List PV} (h : dats xs = true) (hl : xs.length ≤ 100000) : dat (.tup xs) = true := by
  show (dats xs && decide (xs.length ≤ 100000)) = true
  rw [h]
  simpa using hl
theorem dat_lstI {xs : List PV} (h : dats xs = true) (hl : xs.length ≤ 100000) : dat (.lst false xs) = true := dat_tupI h hl
theorem dat_graph {bs : List Blk} {qs : List Que} (h : GrOK bs qs) : dat (eG bs qs) = true := by
  have := h.b2
  have := h.q2
  refine dat_tupI (dats_of fun x hx => ?_) (by simp)
  simp only [List.mem_cons, List.not_mem_nil, or_false] at hx
  rcases hx with rfl | rfl
  · exact dat_tupI (dats_blks h.bo) (by rw [List.length_map]; omega)
  · exact dat_tupI (dats_ques h.bo h.qo) (by rw [List.length_map]; omega)
theorem check_bad {x : PV} (h : dat x = true) (e : C_is_graph [x] = .ok (.bl false) [x]) : C_check_graph [x] = .exc (xB "graph") [x] := by
  have o := dat_own h
  simp [C_check_graph, runB, m_check_graph, o, e, xB]
def numR (n : PV) : Bool := wholeV (-1000000) 1000000 n
def ratesOf (w : Nat) (q : Que) : List Int := if w = 1 then q.takes else q.gives
def isTold (w : Nat) (q : Que) (n v : Int) : Prop := if w = 2 then S0 q.gives v ≤ n ∧ n < S0 q.gives (v + 1) ∧ -10000000 ≤ v ∧ v ≤ 10000000 else v = S0 (ratesOf w q) n
def partN (w : Nat) : Str := if w = 2 then "token" else "firing"
/-- the function that is asked -/
noncomputable def C_fn (w : Nat) : List PV → CR := if w = 0 then C_given_before else if w = 1 then C_taken_before else C_producer
theorem fn_graph {w : Nat} {x q n : PV} (hx : dat x = true) (hq : dat q = true) (hn : dat n = true) (e : C_is_graph [x] = .ok (.bl false) [x]) : C_fn w [x, q, n] = .exc (xB "graph") [x, q, n] := by
  have ox := dat_own hx
  have oq := dat_own hq
  have on := dat_own hn
  have c := check_bad hx e
  unfold C_fn
  by_cases w0 : w = 0
  · simp [w0, C_given_before, runB, m_given_before, ox, oq, on, c]
  · by_cases w1 : w = 1
    · simp [w1, C_taken_before, runB, m_taken_before, ox, oq, on, c]
    · simp [w0, w1, C_producer, runB, m_producer, ox, oq, on, c]
theorem fn_queue {w : Nat} {bs : List Blk} {qs : List Que} {q n : PV} (h : GrOK bs qs) (hq : dat q = true) (hn : dat n = true) (e : wholeV 0 ((qs.length : Int) - 1) q = false) : C_fn w [eG bs qs, q, n] = .exc (xB "queue") [eG bs qs, q, n] := by
  have ox := eG_own bs qs
  have oq := dat_own hq
  have on := dat_own hn
  have c := check_good h
  have c2 := check_queue_dat (bs := bs) (qs := qs) hq
  rw [e] at c2
  simp at c2
  generalize eG bs qs = G at *
  unfold C_fn
  by_cases w0 : w = 0
  · simp [w0, C_given_before, runB, m_given_before, ox, oq, on, c, c2]
  · by_cases w1 : w = 1
    · simp [w1, C_taken_before, runB, m_taken_before, ox, oq, on, c, c2]
    · simp [w0, w1, C_producer, runB, m_producer, ox, oq, on, c, c2]
theorem fn_number {w : Nat} (hw : w < 3) {bs : List Blk} {qs : List Que} {q n : PV} (h : GrOK bs qs) (hq : dat q = true) (hn : dat n = true) (e : wholeV 0 ((qs.length : Int) - 1) q = true) (e2 : numR n = false) : C_fn w [eG bs qs, q, n] = .exc (xB (partN w)) [eG bs qs, q, n] := by
  have ox := eG_own bs qs
  have oq := dat_own hq
  have on := dat_own hn
  have c := check_good h
  have c2 := check_queue_dat (bs := bs) (qs := qs) hq
  rw [e] at c2
  simp at c2
  have c3 := whole_dat (lo := -1000000) (hi := 1000000) hn
  unfold numR at e2
  rw [e2] at c3
  generalize eG bs qs = G at *
  unfold C_fn partN
  by_cases w0 : w = 0
  · simp [w0, C_given_before, runB, m_given_before, ox, oq, on, c, c2, c3, xB]
  · by_cases w1 : w = 1
    · simp [w1, C_taken_before, runB, m_taken_before, ox, oq, on, c, c2, c3, xB]
    · by_cases w2 : w = 2
      · simp [w2, C_producer, runB, m_producer, ox, oq, on, c, c2, c3, xB]
      · omega
theorem fn_told {w : Nat} {bs : List Blk} {qs : List Que} {k : Nat} {n : Int} (hw : w < 3) (h : GrOK bs qs) (hk : k < qs.length) (hn : -1000000 ≤ n ∧ n ≤ 1000000) : ∃ v, C_fn w [eG bs qs, .int k, .int n] = .ok (.int v) [eG bs qs, .int k, .int n] ∧ isTold w qs[k] n v := by
  have ox := eG_own bs qs
  have c := check_good h
  have c2 := check_queue_dat (bs := bs) (qs := qs) (x := .int k) rfl
  rw [if_pos (wholeV_nat hk)] at c2
  have c3 := whole_dat (x := .int n) (lo := -1000000) (hi := 1000000) rfl
  rw [show wholeV (-1000000) 1000000 (.int n) = true by simp [wholeV]; omega] at c3
  have hq := h.qo _ (List.getElem_mem hk)
  have qa := que_at (List.getElem?_eq_getElem hk)
  obtain ⟨b1, b2, e1, e2, h1, h2, h3, h4⟩ := hq
  have a1 := h.bo b1 (List.mem_of_getElem? e1)
  have a2 := h.bo b2 (List.mem_of_getElem? e2)
  generalize qs[k] = q at *
  have ix : pIx [eG bs qs, .int 1] = some (.tup (qs.map eQ)) := by simp [eG]
  have i1 : pIx [eQ q, .int 1] = some (.tup (q.gives.map PV.int)) := by simp [eQ]
  have i3 : pIx [eQ q, .int 3] = some (.tup (q.takes.map PV.int)) := by simp [eQ]
  have og := owns_ints q.gives
  have ot := owns_ints q.takes
  have l1 : 0 < q.gives.length ∧ q.gives.length ≤ 6 := by have := h1.1; have := a1.2.1; have := a1.2.2.1; omega
  have l2 : 0 < q.takes.length ∧ q.takes.length ≤ 6 := by have := h2.1; have := a2.2.1; have := a2.2.2.1; omega
  have v1 := sum_before_val (l := q.gives) l1.1 (by omega) (i := n) (by omega)
  have v2 := sum_before_val (l := q.takes) l2.1 (by omega) (i := n) (by omega)
  have sb : ∀ {l : List Int}, NumsP 12 l → l.sum ≤ 12 * (l.length : Int) := by
    intro l hl
    induction l with
    | nil => simp
    | cons x r ih =>
      have := ih fun i hi => hl i (List.mem_cons_of_mem _ hi)
      have := (hl x List.mem_cons_self).2
      rw [List.sum_cons, List.length_cons]
      omega
  obtain ⟨f, v3, f1, f2, f3⟩ := firing_with_val (l := q.gives) l1.1 l1.2 h1.2.2 (by have := sb h1.2.1; omega) (i := n) (by omega)
  rcases (by omega : w = 0 ∨ w = 1 ∨ w = 2) with rfl | rfl | rfl
  · refine ⟨S0 q.gives n, ?_, by simp [isTold, ratesOf]⟩
    generalize eG bs qs = G at *
    simp [C_fn, C_given_before, runB, m_given_before, ox, c, c2, c3, ix, qa, i1, v1]
  · refine ⟨S0 q.takes n, ?_, by simp [isTold, ratesOf]⟩
    generalize eG bs qs = G at *
    simp [C_fn, C_taken_before, runB, m_taken_before, ox, c, c2, c3, ix, qa, i3, v2]
  · refine ⟨f, ?_, by simp [isTold]; exact ⟨f1, f2, f3⟩⟩
    generalize eG bs qs = G at *
    simp [C_fn, C_producer, runB, m_producer, ox, c, c2, c3, ix, qa, i1, v3]
/-! ### _law_told -/
theorem kB (p : Str) : catOf [("BadThing", true)] (xB p) = some true := by
  unfold catOf xB
  show List.lookup ("BadThing" : Str) [("BadThing", true)] = _
  decide +kernel
theorem bB (p : Str) (f : XV → Sl → UO) : byCls [("BadThing", f)] (xB p) = f (xB p) := by
  unfold byCls xB
  simp [List.lookup]
theorem pB (p : Str) : (xB p).fs.lookup ("part" : Str) = some (.str p) := by
  unfold xB
  simp [List.lookup]
theorem if_w (a b : MS) (w c : Int) (r : Sl) : mIf (mT (mOp (pEq false) (oCons (oN 0) (oCons (oE (mC (.int c))) oNil)))) a b (some (.int w) :: r) = if w = c then a (some (.int w) :: r) else b (some (.int w) :: r) := by
  by_cases h : w = c <;> simp [h]
noncomputable def bodyTd : MS := mIf (mT (mOp (pEq false) (oCons (oN 0) (oCons (oE (mC (.int 0))) oNil)))) (mAsg (mCallN 3 C_given_before (oCons (oN 1) (oCons (oN 2) (oCons (oN 3) (oNil))))) (t1 5)) (mIf (mT (mOp (pEq false) (oCons (oN 0) (oCons (oE (mC (.int 1))) oNil)))) (mAsg (mCallN 3 C_taken_before (oCons (oN 1) (oCons (oN 2) (oCons (oN 3) (oNil))))) (t1 5)) (mAsg (mCallN 3 C_producer (oCons (oN 1) (oCons (oN 2) (oCons (oN 3) (oNil))))) (t1 5)))
theorem m_told_f : m_L_told = mSeq (mTry (catOf [("BadThing", true)]) 4 bodyTd (byCls [("BadThing", fun y => uSeq (uIf (utOr (utNot (uT (uC (.bl true)))) (utNot (uT (uC (.bl true))))) (uRet (uTup (uCons (uC (.str "odd")) (uCons (uC (.int 0)) (uNil))))) (uNx)) (uRet (uTup (uCons (uC (.str "refused")) (uCons ((fun _ => y.fs.lookup ("part" : Str))) (uNil))))))])) (mRet (mTup (vCons (mC (.str "told")) (vCons (mFzN 5) (vNil))))) := rfl
theorem bodyTd_exc {w : Nat} {x q n : PV} {y : XV} (ox : x.own = false) (oq : q.own = false) (on : n.own = false) (e : C_fn w [x, q, n] = .exc y [x, q, n]) (a4 a5 : Option PV) : bodyTd [some (.int w), some x, some q, some n, a4, a5] = .exc y [some (.int w), some x, some q, some n, a4, a5] := by
  unfold bodyTd
  by_cases w0 : w = 0
  · have e0 : C_given_before [x, q, n] = .exc y [x, q, n] := by rw [C_fn, if_pos w0] at e; exact e
    rw [if_w, if_pos (by omega)]
    simp [ox, oq, on, e0]
  · rw [if_w, if_neg (by omega)]
    by_cases w1 : w = 1
    · have e0 : C_taken_before [x, q, n] = .exc y [x, q, n] := by rw [C_fn, if_neg w0, if_pos w1] at e; exact e
      rw [if_w, if_pos (by omega)]
      simp [ox, oq, on, e0]
    · have e0 : C_producer [x, q, n] = .exc y [x, q, n] := by rw [C_fn, if_neg w0, if_neg w1] at e; exact e
      rw [if_w, if_neg (by omega)]
      simp [ox, oq, on, e0]
theorem bodyTd_ok {w : Nat} {x q n : PV} {v : Int} (ox : x.own = false) (oq : q.own = false) (on : n.own = false) (e : C_fn w [x, q, n] = .ok (.int v) [x, q, n]) (a4 a5 : Option PV) : bodyTd [some (.int w), some x, some q, some n, a4, a5] = .nx [some (.int w), some x, some q, some n, a4, some (.int v)] := by
  unfold bodyTd
  by_cases w0 : w = 0
  · have e0 : C_given_before [x, q, n] = .ok (.int v) [x, q, n] := by rw [C_fn, if_pos w0] at e; exact e
    rw [if_w, if_pos (by omega)]
    simp [ox, oq, on, e0]
  · rw [if_w, if_neg (by omega)]
    by_cases w1 : w = 1
    · have e0 : C_taken_before [x, q, n] = .ok (.int v) [x, q, n] := by rw [C_fn, if_neg w0, if_pos w1] at e; exact e
      rw [if_w, if_pos (by omega)]
      simp [ox, oq, on, e0]
    · have e0 : C_producer [x, q, n] = .ok (.int v) [x, q, n] := by rw [C_fn, if_neg w0, if_neg w1] at e; exact e
      rw [if_w, if_neg (by omega)]
      simp [ox, oq, on, e0]
theorem told_exc {w : Nat} {x q n : PV} {p : Str} (hw : w < 3) (hx : dat x = true) (hq : dat q = true) (hn : dat n = true) (e : C_fn w [x, q, n] = .exc (xB p) [x, q, n]) : C_L_told [.int w, x, q, n] = .ok (.tup [.str "refused", .str p]) [.int w, x, q, n] := by
  have ox := dat_own hx
  have oq := dat_own hq
  have on := dat_own hn
  have k1 := kB p
  have k2 := bB p
  have k3 := pB p
  have fb := bodyTd_exc ox oq on e none none
  simp [C_L_told, runB, m_told_f, ox, oq, on, fb, k1, k2, k3, uSeq, uIf, utOr, utNot, uT, uC, uNx, uRet, uTup, uCons, uNil, u1, u2]
theorem told_ok {w : Nat} {x q n : PV} {v : Int} (hw : w < 3) (hx : dat x = true) (hq : dat q = true) (hn : dat n = true) (e : C_fn w [x, q, n] = .ok (.int v) [x, q, n]) : C_L_told [.int w, x, q, n] = .ok (.tup [.str "told", .int v]) [.int w, x, q, n] := by
  have ox := dat_own hx
  have oq := dat_own hq
  have on := dat_own hn
  have fb := bodyTd_ok ox oq on e none none
  simp [C_L_told, runB, m_told_f, ox, oq, on, fb]
theorem right_ok {w : Nat} {bs : List Blk} {q : Que} {n v : Int} (hw : w < 3) (hb : ∀ b ∈ bs, BlkOK b) (h : QueOK bs q) (hn : -1000000 ≤ n ∧ n ≤ 1000000) (ht : isTold w q n v) : C_L_right [.int w, eQ q, .int n, .int v] = .ok (.bl true) [.int w, eQ q, .int n, .int v] := by
  obtain ⟨b1, b2, e1, e2, h1, h2, h3, h4⟩ := h
  have a1 := hb b1 (List.mem_of_getElem? e1)
  have a2 := hb b2 (List.mem_of_getElem? e2)
  have i1 : pIx [eQ q, .int 1] = some (.tup (q.gives.map PV.int)) := by simp [eQ]
  have i3 : pIx [eQ q, .int 3] = some (.tup (q.takes.map PV.int)) := by simp [eQ]
  have og := owns_ints q.gives
  have ot := owns_ints q.takes
  have oq := eQ_own q
  have l1 : 0 < q.gives.length ∧ q.gives.length ≤ 6 := by have := h1.1; have := a1.2.1; have := a1.2.2.1; omega
  have l2 : 0 < q.takes.length ∧ q.takes.length ≤ 6 := by have := h2.1; have := a2.2.1; have := a2.2.2.1; omega
  have ii := L_is_int_dat (x := .int v) rfl
  simp at ii
  rcases (by omega : w = 0 ∨ w = 1 ∨ w = 2) with rfl | rfl | rfl
  · have hv : v = S0 q.gives n := by simpa [isTold, ratesOf] using ht
    have v1 := L_sum_val (l := q.gives) l1.1 (by omega) (i := n) (by omega)
    rw [← hv] at v1
    generalize eQ q = Q at *
    simp [C_L_right, runB, m_L_right, oq, ii, i1, og, v1]
  · have hv : v = S0 q.takes n := by simpa [isTold, ratesOf] using ht
    have v1 := L_sum_val (l := q.takes) l2.1 (by omega) (i := n) (by omega)
    rw [← hv] at v1
    generalize eQ q = Q at *
    simp [C_L_right, runB, m_L_right, oq, ii, i3, ot, v1]
  · have hv : S0 q.gives v ≤ n ∧ n < S0 q.gives (v + 1) ∧ -10000000 ≤ v ∧ v ≤ 10000000 := by simpa [isTold] using ht
    have v1 := L_sum_val (l := q.gives) l1.1 (by omega) (i := v) (by omega)
    have v2 := L_sum_val (l := q.gives) l1.1 (by omega) (i := v + 1) (by omega)
    generalize eQ q = Q at *
    simp [C_L_right, runB, m_L_right, oq, ii, i1, og, v1, v2, pLe, pLt, hv.1, hv.2.1]
theorem number_ok {d : PV} (hd : DOK d) : ∃ i d', C_L_number [d] = .ok (.int i) [d'] ∧ -1000000 ≤ i ∧ i ≤ 1000000 ∧ DOK d' := by
  obtain ⟨k, d1, e1, k0, k1, hd1⟩ := draw_ok (many := 6) hd (by omega) (by omega)
  have z0 := hd.own
  have z1 := hd1.own
  rcases (by omega : k = 0 ∨ k = 1 ∨ k = 2 ∨ (¬ k = 0 ∧ ¬ k = 1 ∧ ¬ k = 2)) with rfl | rfl | rfl | ⟨c0, c1, c2⟩
  · obtain ⟨r, d2, e2, r0, r1, hd2⟩ := draw_ok (many := 3) hd1 (by omega) (by omega)
    have z2 := hd2.own
    exact ⟨1000000 - r, d2, by simp [C_L_number, runB, m_L_number, z0, z1, z2, e1, e2], by omega, by omega, hd2⟩
  · obtain ⟨r, d2, e2, r0, r1, hd2⟩ := draw_ok (many := 3) hd1 (by omega) (by omega)
    have z2 := hd2.own
    exact ⟨r - 1000000, d2, by simp [C_L_number, runB, m_L_number, z0, z1, z2, e1, e2], by omega, by omega, hd2⟩
  · obtain ⟨r, d2, e2, r0, r1, hd2⟩ := draw_ok (many := 2000001) hd1 (by omega) (by omega)
    have z2 := hd2.own
    exact ⟨r - 1000000, d2, by simp [C_L_number, runB, m_L_number, z0, z1, z2, e1, e2], by omega, by omega, hd2⟩
  · obtain ⟨r, d2, e2, r0, r1, hd2⟩ := draw_ok (many := 81) hd1 (by omega) (by omega)
    have z2 := hd2.own
    exact ⟨r - 40, d2, by simp [C_L_number, runB, m_L_number, z0, z1, z2, e1, e2, c0, c1, c2], by omega, by omega, hd2⟩
theorem eqs (n : Bool) {a b : Str} (ha : PyData.strOk a = true) (hb : PyData.strOk b = true) : pEq n [.str a, .str b] = some (.bl (if n then !decide (a = b) else decide (a = b))) := Bv.eq_str n ha hb
theorem q_told : pEq true [.str "told", .str "told"] = some (.bl false) := by rw [eqs true (by decide +kernel) (by decide +kernel)]; simp
theorem q_told2 : pEq false [.str "told", .str "told"] = some (.bl true) := by rw [eqs false (by decide +kernel) (by decide +kernel)]; simp
noncomputable def bodyTi : MS := mSeq (mAsg (mCallN 4 C_L_told (oCons (oN 6) (oCons (oN 1) (oCons (oN 2) (oCons (oN 5) (oNil)))))) (t1 7))
  (mIf (mOr (mT (mOp (pEq true) (oCons (oE (mOp pIx (oCons (oN 7) (oCons (oE (mC (.int 0))) oNil)))) (oCons (oE (mC (.str "told"))) oNil)))) (mNot (mT (mCallN 4 C_L_right (oCons (oN 6) (oCons (oE (mOp pIx (oCons (oE (mOp pIx (oCons (oN 1) (oCons (oE (mC (.int 1))) oNil)))) (oCons (oN 2) oNil)))) (oCons (oN 5) (oCons (oE (mOp pIx (oCons (oN 7) (oCons (oE (mC (.int 1))) oNil)))) (oNil))))))))) (mRet (mC (.bl false))) (mNx))
noncomputable def bodyTo : MS := mFor [0, 1] (oCons (oE (mC (.int 3))) oNil) itRng1 (t1 6) bodyTi
theorem bodyTi_ok {bs : List Blk} {qs : List Que} (h : GrOK bs qs) {k w : Nat} (hk : k < qs.length) (hw : w < 3) {n : Int} (hn : -1000000 ≤ n ∧ n ≤ 1000000) (a0 a3 a4 a7 : Option PV) :
    ∃ b7, bodyTi [a0, some (eG bs qs), some (.int k), a3, a4, some (.int n), some (.int w), a7] = .nx [a0, some (eG bs qs), some (.int k), a3, a4, some (.int n), some (.int w), b7] := by
  obtain ⟨v, e1, hv⟩ := fn_told hw h hk hn
  have e2 := told_ok hw (dat_graph h) (q := .int k) rfl (n := .int n) rfl e1
  have e3 := right_ok hw h.bo (h.qo _ (List.getElem_mem hk)) hn hv
  have og := eG_own bs qs
  have ix : pIx [eG bs qs, .int 1] = some (.tup (qs.map eQ)) := by simp [eG]
  have qa := que_at (List.getElem?_eq_getElem hk)
  have oq := eQ_own qs[k]
  have qt := q_told
  generalize eG bs qs = G at *
  generalize qs[k] = q at *
  refine ⟨some (.tup [.str "told", .int v]), ?_⟩
  simp [bodyTi, og, e2, ix, qa, qt, e3]
theorem bodyTo_ok {bs : List Blk} {qs : List Que} (h : GrOK bs qs) {k : Nat} (hk : k < qs.length) {n : Int} (hn : -1000000 ≤ n ∧ n ≤ 1000000) (a0 a3 a4 a6 a7 : Option PV) :
    ∃ b6 b7, bodyTo [a0, some (eG bs qs), some (.int k), a3, a4, some (.int n), a6, a7] = .nx [a0, some (eG bs qs), some (.int k), a3, a4, some (.int n), b6, b7] := by
  obtain ⟨b0, f0⟩ := bodyTi_ok h hk (w := 0) (by omega) hn a0 a3 a4 a7
  obtain ⟨b1, f1⟩ := bodyTi_ok h hk (w := 1) (by omega) hn a0 a3 a4 b0
  obtain ⟨b2, f2⟩ := bodyTi_ok h hk (w := 2) (by omega) hn a0 a3 a4 b1
  refine ⟨some (.int 2), b2, ?_⟩
  have it : itRng1 [.int 3] = some (rngP 3) := it_nat (by omega) (by omega)
  have er : rngP 3 = [.int ((0 : Nat) : Int), .int ((1 : Nat) : Int), .int ((2 : Nat) : Int)] := rfl
  have e : forL (t1 6) bodyTi (rngP 3) [a0, some (eG bs qs), some (.int k), a3, a4, some (.int n), a6, a7] = .nx [a0, some (eG bs qs), some (.int k), a3, a4, some (.int n), some (.int ((2 : Nat) : Int)), b2] := by
    rw [er]
    simp only [forL, ap_t1, List.set_cons_succ, List.set_cons_zero, f0, f1, f2]
  generalize eG bs qs = G at *
  simp [bodyTo, it, e]
theorem m_L_turn_f : m_L_turn = mSeq (mAsg (mCallN 2 C_L_draw (oCons (oN 0) (oCons (oE (mOp pLen (oCons (oE (mOp pIx (oCons (oN 1) (oCons (oE (mC (.int 1))) oNil)))) (oNil)))) (oNil)))) (t1 2)) (mSeq (mAsg (mCallN 1 C_L_number (oCons (oN 0) (oNil))) (t1 3)) (mSeq (mAsg (mOp pAdd (oCons (oN 3) (oCons (oE (mC (.int 1))) oNil))) (t1 4)) (mSeq (mIf (mT (mOp (pEq false) (oCons (oN 3) (oCons (oE (mC (.int 1000000))) oNil)))) (mAsg (mOp pSub (oCons (oN 3) (oCons (oE (mC (.int 1))) oNil))) (t1 4)) (mNx)) (mSeq (mFor [0, 1] (oCons (oE (mTup (vCons (mFzN 3) (vCons (mFzN 4) (vCons (mFz (mOp pSub (oCons (oE (mCallN 2 C_L_draw (oCons (oN 0) (oCons (oE (mC (.int 81))) (oNil))))) (oCons (oE (mC (.int 40))) oNil)))) (vNil)))))) oNil) itSeq (t1 5) bodyTo) (mRet (mC (.bl true))))))) := rfl
theorem turn_ok {bs : List Blk} {qs : List Que} {d : PV} (h : GrOK bs qs) (hq : 1 ≤ qs.length) (hd : DOK d) : ∃ d', C_L_turn [d, eG bs qs] = .ok (.bl true) [d', eG bs qs] ∧ DOK d' := by
  have hq2 := h.q2
  obtain ⟨r, d1, e1, r0, r1, hd1⟩ := draw_ok (many := qs.length) hd (by omega) (by omega)
  obtain ⟨k, rfl⟩ : ∃ k : Nat, r = k := ⟨r.toNat, by omega⟩
  obtain ⟨n, d2, e2, n0, n1, hd2⟩ := number_ok hd1
  obtain ⟨c, d3, e3, c0, c1, hd3⟩ := draw_ok (many := 81) hd2 (by omega) (by omega)
  obtain ⟨m, hm, m0, m1⟩ : ∃ m : Int, m = (if n = 1000000 then n - 1 else n + 1) ∧ -1000000 ≤ m ∧ m ≤ 1000000 := ⟨_, rfl, by split <;> omega, by split <;> omega⟩
  have hk : k < qs.length := by omega
  have og := eG_own bs qs
  have z0 := hd.own
  have z1 := hd1.own
  have z2 := hd2.own
  have z3 := hd3.own
  obtain ⟨b6, b7, f1⟩ := bodyTo_ok h hk (n := n) (by omega) (some d3) (some (.int n)) (some (.int m)) none none
  obtain ⟨c6, c7, f2⟩ := bodyTo_ok h hk (n := m) (by omega) (some d3) (some (.int n)) (some (.int m)) b6 b7
  obtain ⟨g6, g7, f3⟩ := bodyTo_ok h hk (n := c - 40) (by omega) (some d3) (some (.int n)) (some (.int m)) c6 c7
  have e : forL (t1 5) bodyTo [.int n, .int m, .int (c - 40)] [some d3, some (eG bs qs), some (.int k), some (.int n), some (.int m), none, none, none] = .nx [some d3, some (eG bs qs), some (.int k), some (.int n), some (.int m), some (.int (c - 40)), g6, g7] := by
    simp only [forL, ap_t1, List.set_cons_succ, List.set_cons_zero, f1, f2, f3]
  have ix : pIx [eG bs qs, .int 1] = some (.tup (qs.map eQ)) := by simp [eG]
  refine ⟨d3, ?_, hd3⟩
  generalize eG bs qs = G at *
  by_cases cn : n = 1000000
  · rw [if_pos cn] at hm
    subst cn
    subst hm
    simp at e
    simp [C_L_turn, runB, m_L_turn_f, z0, z1, z2, z3, og, ix, e1, e2, e3, e]
  · rw [if_neg cn] at hm
    subst hm
    simp [C_L_turn, runB, m_L_turn_f, z0, z1, z2, z3, og, ix, e1, e2, e3, cn, e]
/-! ### _law_refused -/
noncomputable def stA : MS := mIf (mT (mOp (pEq false) (oCons (oE (mCallN 2 C_L_draw (oCons (oN 0) (oCons (oE (mC (.int 2))) (oNil))))) (oCons (oE (mC (.int 0))) oNil)))) (mSeq (mAsg (mCallN 2 C_L_pick (oCons (oN 0) (oCons (oE (mLst (vCons (mC (.int 1000001)) (vCons (mOp pNeg (oCons (oE (mC (.int 1000001))) oNil)) (vCons (mC (.bl true)) (vCons (mC (.bl false)) (vCons (mC (.str "7")) (vCons (mC .non) (vCons (mTup (vCons (mC (.int 3)) (vNil))) (vNil)))))))))) (oNil)))) (t1 5)) (mSeq (mAsg (mC (.str "firing")) (t1 6)) (mIf (mT (mOp (pEq false) (oCons (oN 2) (oCons (oE (mC (.int 2))) oNil)))) (mAsg (mC (.str "token")) (t1 6)) (mNx)))) (mNx)
noncomputable def stB : MS := mIf (mT (mOp (pEq false) (oCons (oE (mCallN 2 C_L_draw (oCons (oN 0) (oCons (oE (mC (.int 3))) (oNil))))) (oCons (oE (mC (.int 0))) oNil)))) (mSeq (mAsg (mCallN 2 C_L_pick (oCons (oN 0) (oCons (oE (mLst (vCons (mOp pNeg (oCons (oE (mC (.int 1))) oNil)) (vCons (mOp pLen (oCons (oE (mOp pIx (oCons (oN 1) (oCons (oE (mC (.int 1))) oNil)))) (oNil))) (vCons (mC (.bl true)) (vCons (mC (.bl false)) (vCons (mC (.str "0")) (vCons (mC .non) (vCons (mTup (vCons (mC (.int 0)) (vNil))) (vNil)))))))))) (oNil)))) (t1 4)) (mAsg (mC (.str "queue")) (t1 6))) (mNx)
noncomputable def stC : MS := mIf (mT (mOp (pEq false) (oCons (oE (mCallN 2 C_L_draw (oCons (oN 0) (oCons (oE (mC (.int 4))) (oNil))))) (oCons (oE (mC (.int 0))) oNil)))) (mSeq (mAsg (mCallN 2 C_L_pick (oCons (oN 0) (oCons (oE (mLst (vCons (mFz (mOp pList (oCons (oN 1) (oNil)))) (vCons (mTup (vCons (mFz (mOp pIx (oCons (oN 1) (oCons (oE (mC (.int 0))) oNil)))) (vCons (mFz (mOp pList (oCons (oE (mOp pIx (oCons (oN 1) (oCons (oE (mC (.int 1))) oNil)))) (oNil)))) (vNil)))) (vCons (mTup (vCons (mFz (mOp pIx (oCons (oN 1) (oCons (oE (mC (.int 0))) oNil)))) (vNil))) (vCons (mTup (vCons (mTup (vNil)) (vCons (mFz (mOp pIx (oCons (oN 1) (oCons (oE (mC (.int 1))) oNil)))) (vNil)))) (vCons (mC .non) (vNil)))))))) (oNil)))) (t1 3)) (mAsg (mC (.str "graph")) (t1 6))) (mNx)
noncomputable def stT : MS := mSeq (mAsg (mCallN 4 C_L_told (oCons (oN 2) (oCons (oN 3) (oCons (oN 4) (oCons (oN 5) (oNil)))))) (t1 7)) (mSeq (mIf (mT (mOp (pEq true) (oCons (oN 6) (oCons (oE (mC (.str ""))) oNil)))) (mRet (mOp (pEq false) (oCons (oN 7) (oCons (oE (mTup (vCons (mC (.str "refused")) (vCons (mFzN 6) (vNil))))) oNil)))) (mNx)) (mRet (mAndV (mOp (pEq false) (oCons (oE (mOp pIx (oCons (oN 7) (oCons (oE (mC (.int 0))) oNil)))) (oCons (oE (mC (.str "told"))) oNil))) (mCallN 4 C_L_right (oCons (oN 2) (oCons (oE (mOp pIx (oCons (oE (mOp pIx (oCons (oN 1) (oCons (oE (mC (.int 1))) oNil)))) (oCons (oN 4) oNil)))) (oCons (oN 5) (oCons (oE (mOp pIx (oCons (oN 7) (oCons (oE (mC (.int 1))) oNil)))) (oNil)))))))))
theorem m_refused_f : m_L_refused = mSeq (mAsg (mCallN 2 C_L_draw (oCons (oN 0) (oCons (oE (mC (.int 3))) (oNil)))) (t1 2)) (mSeq (mAsg (mFzN 1) (t1 3)) (mSeq (mAsg (mCallN 2 C_L_draw (oCons (oN 0) (oCons (oE (mOp pLen (oCons (oE (mOp pIx (oCons (oN 1) (oCons (oE (mC (.int 1))) oNil)))) (oNil)))) (oNil)))) (t1 4)) (mSeq (mAsg (mCallN 1 C_L_number (oCons (oN 0) (oNil))) (t1 5)) (mSeq (mAsg (mC (.str "")) (t1 6)) (mSeq stA (mSeq stB (mSeq stC stT))))))) := rfl
theorem lit_ok : PyData.strOk "7" = true ∧ PyData.strOk "0" = true ∧ PyData.strOk "2" = true ∧ PyData.strOk "1" = true := by decide +kernel
theorem dat_s {y : Str} (h : PyData.strOk y = true) (hl : y.length ≤ 1000) : dat (.str y) = true := by
  show (PyData.strOk y && decide (y.length ≤ 1000)) = true
  rw [h]
  simpa using hl
theorem dat_7 : dat (.str "7") = true := dat_s lit_ok.1 (by decide +kernel)
theorem dat_0 : dat (.str "0") = true := dat_s lit_ok.2.1 (by decide +kernel)
theorem dat_2 : dat (.str "2") = true := dat_s lit_ok.2.2.1 (by decide +kernel)
theorem dat_1 : dat (.str "1") = true := dat_s lit_ok.2.2.2 (by decide +kernel)
theorem stA_ok {d : PV} {w : Nat} {n : Int} (hw : w < 3) (hd : DOK d) (a1 a3 a4 a7 : Option PV) :
    ∃ d' n' p', stA [some d, a1, some (.int w), a3, a4, some (.int n), some (.str ""), a7] = .nx [some d', a1, some (.int w), a3, a4, some n', some (.str p'), a7] ∧ DOK d' ∧ ((n' = .int n ∧ p' = "") ∨ (dat n' = true ∧ numR n' = false ∧ p' = partN w)) := by
  obtain ⟨r, d1, e1, r0, r1, hd1⟩ := draw_ok (many := 2) hd (by omega) (by omega)
  have z0 := hd.own
  have z1 := hd1.own
  by_cases c : r = 0
  · subst c
    obtain ⟨x, d2, e2, hx, hd2⟩ := pickL_ok (o := true) (xs := [PV.int 1000001, .int (-1000001), .bl true, .bl false, .str "7", .non, .tup [.int 3]]) hd1 (by simp) (by simp) (by simp)
    have z2 := hd2.own
    have l7 : 7 ≤ LIM := by decide
    have hxx : dat x = true ∧ numR x = false := by
      simp only [List.mem_cons, List.not_mem_nil, or_false] at hx
      rcases hx with rfl | rfl | rfl | rfl | rfl | rfl | rfl
      · exact ⟨rfl, by simp [numR, wholeV]⟩
      · exact ⟨rfl, by simp [numR, wholeV]⟩
      · exact ⟨rfl, rfl⟩
      · exact ⟨rfl, rfl⟩
      · exact ⟨dat_7, rfl⟩
      · exact ⟨rfl, rfl⟩
      · exact ⟨by simp [dat, dats], rfl⟩
    have ox := dat_own hxx.1
    refine ⟨d2, x, partN w, ?_, hd2, .inr ⟨hxx.1, hxx.2, rfl⟩⟩
    unfold partN
    rcases (by omega : w = 0 ∨ w = 1 ∨ w = 2) with rfl | rfl | rfl <;> simp [stA, z0, z1, z2, e1, e2, l7, ox]
  · refine ⟨d1, .int n, "", ?_, hd1, .inl ⟨rfl, rfl⟩⟩
    simp [stA, z0, z1, e1, c]
theorem stB_ok {bs : List Blk} {qs : List Que} {d : PV} {k : Nat} {p : Str} (h : GrOK bs qs) (hd : DOK d) (a2 a3 a5 a7 : Option PV) :
    ∃ d' q' p', stB [some d, some (eG bs qs), a2, a3, some (.int k), a5, some (.str p), a7] = .nx [some d', some (eG bs qs), a2, a3, some q', a5, some (.str p'), a7] ∧ DOK d' ∧ ((q' = .int k ∧ p' = p) ∨ (dat q' = true ∧ wholeV 0 ((qs.length : Int) - 1) q' = false ∧ p' = "queue")) := by
  obtain ⟨r, d1, e1, r0, r1, hd1⟩ := draw_ok (many := 3) hd (by omega) (by omega)
  have z0 := hd.own
  have z1 := hd1.own
  have og := eG_own bs qs
  have ix : pIx [eG bs qs, .int 1] = some (.tup (qs.map eQ)) := by simp [eG]
  by_cases c : r = 0
  · subst c
    obtain ⟨x, d2, e2, hx, hd2⟩ := pickL_ok (o := true) (xs := [PV.int (-1), .int qs.length, .bl true, .bl false, .str "0", .non, .tup [.int 0]]) hd1 (by simp) (by simp) (by simp)
    have z2 := hd2.own
    have l7 : 7 ≤ LIM := by decide
    have hxx : dat x = true ∧ wholeV 0 ((qs.length : Int) - 1) x = false := by
      simp only [List.mem_cons, List.not_mem_nil, or_false] at hx
      rcases hx with rfl | rfl | rfl | rfl | rfl | rfl | rfl
      · exact ⟨rfl, by simp [wholeV]⟩
      · exact ⟨rfl, by simp [wholeV]; omega⟩
      · exact ⟨rfl, rfl⟩
      · exact ⟨rfl, rfl⟩
      · exact ⟨dat_0, rfl⟩
      · exact ⟨rfl, rfl⟩
      · exact ⟨by simp [dat, dats], rfl⟩
    have ox := dat_own hxx.1
    refine ⟨d2, x, "queue", ?_, hd2, .inr ⟨hxx.1, hxx.2, rfl⟩⟩
    generalize eG bs qs = G at *
    simp [stB, z0, z1, z2, og, ix, e1, e2, l7, ox]
  · refine ⟨d1, .int k, p, ?_, hd1, .inl ⟨rfl, rfl⟩⟩
    generalize eG bs qs = G at *
    simp [stB, z0, z1, e1, c]
theorem no_graph {x : PV} (h : dat x = true) (hn : ∀ bs qs, GrOK bs qs → x ≠ eG bs qs) : C_is_graph [x] = .ok (.bl false) [x] := by
  obtain ⟨b, e1, _, e3⟩ := graph_dat h
  cases b with
  | false => exact e1
  | true =>
    obtain ⟨bs, qs, hg, rfl⟩ := e3 rfl
    exact absurd rfl (hn bs qs hg)
theorem stC_ok {bs : List Blk} {qs : List Que} {d : PV} {p : Str} (h : GrOK bs qs) (hd : DOK d) (a2 a4 a5 a7 : Option PV) :
    ∃ d' t' p', stC [some d, some (eG bs qs), a2, some (eG bs qs), a4, a5, some (.str p), a7] = .nx [some d', some (eG bs qs), a2, some t', a4, a5, some (.str p'), a7] ∧ DOK d' ∧ ((t' = eG bs qs ∧ p' = p) ∨ (dat t' = true ∧ C_is_graph [t'] = .ok (.bl false) [t'] ∧ p' = "graph")) := by
  obtain ⟨r, d1, e1, r0, r1, hd1⟩ := draw_ok (many := 4) hd (by omega) (by omega)
  have z0 := hd.own
  have z1 := hd1.own
  have og := eG_own bs qs
  have h2 := h.b2
  have h3 := h.q2
  have ob := eBs_own bs
  have oq := eQs_own qs
  have ix0 : pIx [eG bs qs, .int 0] = some (.tup (bs.map eB)) := by simp [eG]
  have ix : pIx [eG bs qs, .int 1] = some (.tup (qs.map eQ)) := by simp [eG]
  have pl : pList [eG bs qs] = some (.lst true [.tup (bs.map eB), .tup (qs.map eQ)]) := by simp [eG]
  have db := dats_blks h.bo
  have dq := dats_ques h.bo h.qo
  have dtb : dat (.tup (bs.map eB)) = true := dat_tupI db (by rw [List.length_map]; omega)
  have dtq : dat (.tup (qs.map eQ)) = true := dat_tupI dq (by rw [List.length_map]; omega)
  have dlq : dat (.lst false (qs.map eQ)) = true := dat_lstI dq (by rw [List.length_map]; omega)
  by_cases c : r = 0
  · subst c
    obtain ⟨x, d2, e2, hx, hd2⟩ := pickL_ok (o := true) (xs := [PV.lst false [.tup (bs.map eB), .tup (qs.map eQ)], .tup [.tup (bs.map eB), .lst false (qs.map eQ)], .tup [.tup (bs.map eB)], .tup [.tup [], .tup (qs.map eQ)], .non]) hd1 (by simp) (by simp) (by simp [ob, oq])
    have z2 := hd2.own
    have l5 : 5 ≤ LIM := by decide
    have hxx : dat x = true ∧ C_is_graph [x] = .ok (.bl false) [x] := by
      simp only [List.mem_cons, List.not_mem_nil, or_false] at hx
      rcases hx with rfl | rfl | rfl | rfl | rfl
      · have d : dat (.lst false [.tup (bs.map eB), .tup (qs.map eQ)]) = true := dat_lstI (by simp [dats_cons, dtb, dtq, dats]) (by simp)
        exact ⟨d, no_graph d fun b q _ e => by simp [eG] at e⟩
      · have d : dat (.tup [.tup (bs.map eB), .lst false (qs.map eQ)]) = true := dat_tupI (by simp [dats_cons, dtb, dlq, dats]) (by simp)
        exact ⟨d, no_graph d fun b q _ e => by simp [eG] at e⟩
      · have d : dat (.tup [.tup (bs.map eB)]) = true := dat_tupI (by simp [dats_cons, dtb, dats]) (by simp)
        exact ⟨d, no_graph d fun b q _ e => by simp [eG] at e⟩
      · have d : dat (.tup [.tup [], .tup (qs.map eQ)]) = true := dat_tupI (by simp [dats_cons, dtq, dats, (show dat (.tup []) = true by simp [dat, dats])]) (by simp)
        refine ⟨d, no_graph d fun b q hg e => ?_⟩
        have := hg.b1
        simp [eG] at e
        rw [e.1] at this
        simp at this
      · exact ⟨rfl, no_graph rfl fun b q _ e => by simp [eG] at e⟩
    have ox := dat_own hxx.1
    refine ⟨d2, x, "graph", ?_, hd2, .inr ⟨hxx.1, hxx.2, rfl⟩⟩
    generalize eG bs qs = G at *
    generalize qs.map eQ = QS at *
    generalize bs.map eB = BS at *
    simp [stC, z0, z1, z2, og, ix, ix0, pl, ob, oq, e1, e2, l5, ox]
  · refine ⟨d1, eG bs qs, p, ?_, hd1, .inl ⟨rfl, rfl⟩⟩
    generalize eG bs qs = G at *
    simp [stC, z0, z1, e1, c]
theorem duo {p : Str} (hp : PyData.strOk p = true) : pEq false [.tup [.str "refused", .str p], .tup [.str "refused", .str p]] = some (.bl true) := by
  have s : PyData.strOk "refused" = true := by decide +kernel
  rw [eq_pu false (x := .tup [.str "refused", .str p]) (y := .tup [.str "refused", .str p]) (by simp [hp, s]) (by simp [hp, s]) (by simp) (by simp)]
  simp
theorem stT_bad {d t q n : PV} {bs : List Blk} {qs : List Que} {w : Nat} {p : Str} (hp : PyData.strOk p = true) (hp0 : ¬ p = "") (hd : DOK d) (ht : dat t = true) (hq : dat q = true) (hn : dat n = true) (e : C_L_told [.int w, t, q, n] = .ok (.tup [.str "refused", .str p]) [.int w, t, q, n]) :
    stT [some d, some (eG bs qs), some (.int w), some t, some q, some n, some (.str p), none] = .rt (.bl true) [some d, some (eG bs qs), some (.int w), some t, some q, some n, some (.str p), some (.tup [.str "refused", .str p])] := by
  have og := eG_own bs qs
  have o1 := dat_own ht
  have o2 := dat_own hq
  have o3 := dat_own hn
  have q1 := eqs true hp (b := "") (by decide +kernel)
  have q2 := duo hp
  simp only [hp0, decide_false, Bool.not_false, if_true] at q1
  generalize eG bs qs = G at *
  simp [stT, og, o1, o2, o3, e, q1, q2]
theorem stT_good {d : PV} {bs : List Blk} {qs : List Que} {w k : Nat} {n v : Int} (hw : w < 3) (h : GrOK bs qs) (hk : k < qs.length) (hn : -1000000 ≤ n ∧ n ≤ 1000000) (hd : DOK d) (e : C_L_told [.int w, eG bs qs, .int k, .int n] = .ok (.tup [.str "told", .int v]) [.int w, eG bs qs, .int k, .int n]) (hv : isTold w qs[k] n v) :
    stT [some d, some (eG bs qs), some (.int w), some (eG bs qs), some (.int k), some (.int n), some (.str ""), none] = .rt (.bl true) [some d, some (eG bs qs), some (.int w), some (eG bs qs), some (.int k), some (.int n), some (.str ""), some (.tup [.str "told", .int v])] := by
  have og := eG_own bs qs
  have q1 := eqs true (a := "") (b := "") (by decide +kernel) (by decide +kernel)
  have qt := q_told2
  have e3 := right_ok hw h.bo (h.qo _ (List.getElem_mem hk)) hn hv
  have ix : pIx [eG bs qs, .int 1] = some (.tup (qs.map eQ)) := by simp [eG]
  have qa := que_at (List.getElem?_eq_getElem hk)
  have oq := eQ_own qs[k]
  simp at q1
  generalize eG bs qs = G at *
  generalize qs[k] = q at *
  simp [stT, og, e, q1, qt, ix, qa, e3]
theorem refused_ok {bs : List Blk} {qs : List Que} {d : PV} (h : GrOK bs qs) (hq : 1 ≤ qs.length) (hd : DOK d) : ∃ d', C_L_refused [d, eG bs qs] = .ok (.bl true) [d', eG bs qs] ∧ DOK d' := by
  have hq2 := h.q2
  obtain ⟨w', d0, e0, w0, w1, hd0⟩ := draw_ok (many := 3) hd (by omega) (by omega)
  obtain ⟨w, rfl⟩ : ∃ k : Nat, w' = k := ⟨w'.toNat, by omega⟩
  have hw : w < 3 := by omega
  obtain ⟨r, d1, e1, r0, r1, hd1⟩ := draw_ok (many := qs.length) hd0 (by omega) (by omega)
  obtain ⟨k, rfl⟩ : ∃ k : Nat, r = k := ⟨r.toNat, by omega⟩
  have hk : k < qs.length := by omega
  obtain ⟨n, d2, e2, n0, n1, hd2⟩ := number_ok hd1
  obtain ⟨d3, n', p3, e3, hd3, hA⟩ := stA_ok (n := n) hw hd2 (some (eG bs qs)) (some (eG bs qs)) (some (.int k)) none
  obtain ⟨d4, q', p4, e4, hd4, hB⟩ := stB_ok (k := k) (p := p3) h hd3 (some (.int w)) (some (eG bs qs)) (some n') none
  obtain ⟨d5, t', p5, e5, hd5, hC⟩ := stC_ok (p := p4) h hd4 (some (.int w)) (some q') (some n') none
  have dn : dat n' = true := by
    rcases hA with ⟨rfl, _⟩ | ⟨hx, _⟩
    · rfl
    · exact hx
  have dq : dat q' = true := by
    rcases hB with ⟨rfl, _⟩ | ⟨hx, _⟩
    · rfl
    · exact hx
  have fin : ∃ s, stT [some d5, some (eG bs qs), some (.int w), some t', some q', some n', some (.str p5), none] = .rt (.bl true) [some d5, some (eG bs qs), some (.int w), some t', some q', some n', some (.str p5), s] := by
    rcases hC with ⟨rfl, rfl⟩ | ⟨ht, hg, rfl⟩
    · rcases hB with ⟨rfl, rfl⟩ | ⟨hq', hw', rfl⟩
      · rcases hA with ⟨rfl, rfl⟩ | ⟨hn', hr, rfl⟩
        · obtain ⟨v, f1, hv⟩ := fn_told hw h hk (n := n) (by omega)
          exact ⟨_, stT_good hw h hk (by omega) hd5 (told_ok hw (dat_graph h) rfl rfl f1) hv⟩
        · have f1 := fn_number hw h (q := .int k) (n := n') rfl hn' (wholeV_nat hk) hr
          have f2 := told_exc hw (dat_graph h) (q := .int k) rfl hn' f1
          refine ⟨_, stT_bad ?_ ?_ hd5 (dat_graph h) rfl hn' f2⟩
          · unfold partN; split <;> decide +kernel
          · unfold partN; split <;> decide +kernel
      · have f1 := fn_queue (w := w) h hq' dn hw'
        have f2 := told_exc hw (dat_graph h) hq' dn f1
        exact ⟨_, stT_bad (by decide +kernel) (by decide +kernel) hd5 (dat_graph h) hq' dn f2⟩
    · have f1 := fn_graph (w := w) ht dq dn hg
      have f2 := told_exc hw ht dq dn f1
      exact ⟨_, stT_bad (by decide +kernel) (by decide +kernel) hd5 ht dq dn f2⟩
  obtain ⟨s, fin⟩ := fin
  have og := eG_own bs qs
  have fg : frzP (eG bs qs) = some (eG bs qs) := frz_id og
  have ix : pIx [eG bs qs, .int 1] = some (.tup (qs.map eQ)) := by simp [eG]
  have z := hd.own
  have z0 := hd0.own
  have z1 := hd1.own
  have z2 := hd2.own
  have z5 := hd5.own
  refine ⟨d5, ?_, hd5⟩
  generalize eG bs qs = G at *
  simp [C_L_refused, runB, m_refused_f, z, z0, z1, z2, z5, og, fg, ix, e0, e1, e2, e3, e4, e5, fin]
/-! ### blocks that are none; the doors -/
theorem q_block : pEq false [.str "block", .str "block"] = some (.bl true) := by rw [eqs false (by decide +kernel) (by decide +kernel)]; simp
noncomputable def C_bl (w : Nat) : List PV → CR := if w = 0 then C_incoming else if w = 1 then C_outgoing else C_phases
theorem bl_bad {w : Nat} {bs : List Blk} {qs : List Que} {x : PV} (h : GrOK bs qs) (hx : dat x = true) (e : wholeV 0 ((bs.length : Int) - 1) x = false) : C_bl w [eG bs qs, x] = .exc (xB "block") [eG bs qs, x] := by
  have og := eG_own bs qs
  have ox := dat_own hx
  have c := check_good h
  have c2 := check_block_dat (bs := bs) (qs := qs) hx
  rw [e] at c2
  simp at c2
  generalize eG bs qs = G at *
  unfold C_bl
  by_cases w0 : w = 0
  · simp [w0, C_incoming, runB, m_incoming, og, ox, c, c2]
  · by_cases w1 : w = 1
    · simp [w1, C_outgoing, runB, m_outgoing, og, ox, c, c2]
    · simp [w0, w1, C_phases, runB, m_phases, og, ox, c, c2]
theorem if_w2 (a b : MS) (w c : Int) (x y : Option PV) (r : Sl) : mIf (mT (mOp (pEq false) (oCons (oN 2) (oCons (oE (mC (.int c))) oNil)))) a b (x :: y :: some (.int w) :: r) = if w = c then a (x :: y :: some (.int w) :: r) else b (x :: y :: some (.int w) :: r) := by
  by_cases h : w = c <;> simp [h]
noncomputable def bodyBr : MS := mIf (mT (mOp (pEq false) (oCons (oN 2) (oCons (oE (mC (.int 0))) oNil)))) (mDrop (mCallN 2 C_incoming (oCons (oN 1) (oCons (oN 3) (oNil))))) (mIf (mT (mOp (pEq false) (oCons (oN 2) (oCons (oE (mC (.int 1))) oNil)))) (mDrop (mCallN 2 C_outgoing (oCons (oN 1) (oCons (oN 3) (oNil))))) (mDrop (mCallN 2 C_phases (oCons (oN 1) (oCons (oN 3) (oNil))))))
theorem m_block_refused_f : m_L_block_refused = mSeq (mAsg (mCallN 2 C_L_draw (oCons (oN 0) (oCons (oE (mC (.int 3))) (oNil)))) (t1 2)) (mSeq (mAsg (mCallN 2 C_L_pick (oCons (oN 0) (oCons (oE (mLst (vCons (mOp pNeg (oCons (oE (mC (.int 1))) oNil)) (vCons (mOp pLen (oCons (oE (mOp pIx (oCons (oN 1) (oCons (oE (mC (.int 0))) oNil)))) (oNil))) (vCons (mC (.bl true)) (vCons (mC (.bl false)) (vCons (mC (.str "0")) (vCons (mC .non) (vCons (mTup (vCons (mC (.int 0)) (vNil))) (vNil)))))))))) (oNil)))) (t1 3)) (mSeq (mTry (catOf [("BadThing", true)]) 4 bodyBr (byCls [("BadThing", fun y => uRet (u2 (pEq false) ((fun _ => y.fs.lookup ("part" : Str))) (uC (.str "block"))))])) (mRet (mC (.bl false))))) := rfl
theorem bodyBr_ok {w : Nat} {G x : PV} {y : XV} (hw : w < 3) (og : G.own = false) (ox : x.own = false) (e : C_bl w [G, x] = .exc y [G, x]) (a0 a4 : Option PV) : bodyBr [a0, some G, some (.int w), some x, a4] = .exc y [a0, some G, some (.int w), some x, a4] := by
  unfold bodyBr
  by_cases w0 : w = 0
  · have e0 : C_incoming [G, x] = .exc y [G, x] := by rw [C_bl, if_pos w0] at e; exact e
    rw [if_w2, if_pos (by omega)]
    simp [og, ox, e0]
  · rw [if_w2, if_neg (by omega)]
    by_cases w1 : w = 1
    · have e0 : C_outgoing [G, x] = .exc y [G, x] := by rw [C_bl, if_neg w0, if_pos w1] at e; exact e
      rw [if_w2, if_pos (by omega)]
      simp [og, ox, e0]
    · have e0 : C_phases [G, x] = .exc y [G, x] := by rw [C_bl, if_neg w0, if_neg w1] at e; exact e
      rw [if_w2, if_neg (by omega)]
      simp [og, ox, e0]
theorem block_refused_ok {bs : List Blk} {qs : List Que} {d : PV} (h : GrOK bs qs) (hd : DOK d) : ∃ d', C_L_block_refused [d, eG bs qs] = .ok (.bl true) [d', eG bs qs] ∧ DOK d' := by
  obtain ⟨w', d1, e1, w0, w1, hd1⟩ := draw_ok (many := 3) hd (by omega) (by omega)
  obtain ⟨w, rfl⟩ : ∃ k : Nat, w' = k := ⟨w'.toNat, by omega⟩
  obtain ⟨x, d2, e2, hx, hd2⟩ := pickL_ok (o := true) (xs := [PV.int (-1), .int bs.length, .bl true, .bl false, .str "0", .non, .tup [.int 0]]) hd1 (by simp) (by simp) (by simp)
  have hxx : dat x = true ∧ wholeV 0 ((bs.length : Int) - 1) x = false := by
    simp only [List.mem_cons, List.not_mem_nil, or_false] at hx
    rcases hx with rfl | rfl | rfl | rfl | rfl | rfl | rfl
    · exact ⟨rfl, by simp [wholeV]⟩
    · exact ⟨rfl, by simp [wholeV]; omega⟩
    · exact ⟨rfl, rfl⟩
    · exact ⟨rfl, rfl⟩
    · exact ⟨dat_0, rfl⟩
    · exact ⟨rfl, rfl⟩
    · exact ⟨by simp [dat, dats], rfl⟩
  have ox := dat_own hxx.1
  have z0 := hd.own
  have z1 := hd1.own
  have z2 := hd2.own
  have l7 : 7 ≤ LIM := by decide
  have og := eG_own bs qs
  have ix0 : pIx [eG bs qs, .int 0] = some (.tup (bs.map eB)) := by simp [eG]
  have k1 := kB "block"
  have k2 := bB "block"
  have k3 := pB "block"
  have qb := q_block
  have f := bl_bad (w := w) h hxx.1 hxx.2
  refine ⟨d2, ?_, hd2⟩
  generalize eG bs qs = G at *
  have fb := bodyBr_ok (w := w) (by omega) og ox f (some d2) none
  simp [C_L_block_refused, runB, m_block_refused_f, z0, z1, z2, og, ox, ix0, l7, e1, e2, fb, k1, k2, k3, qb, uSeq, uIf, uT, uC, uNx, uRet, u1, u2]
noncomputable def bodyDr : MS := mIf (mT (mOp (pEq false) (oCons (oN 0) (oCons (oE (mC (.int 0))) oNil)))) (mAsg (mCallN 1 C_check_graph (oCons (oN 1) (oNil))) (t1 3)) (mIf (mT (mOp (pEq false) (oCons (oN 0) (oCons (oE (mC (.int 1))) oNil)))) (mAsg (mCallN 2 C_incoming (oCons (oN 1) (oCons (oE (mC (.int 0))) (oNil)))) (t1 3)) (mIf (mT (mOp (pEq false) (oCons (oN 0) (oCons (oE (mC (.int 2))) oNil)))) (mAsg (mCallN 2 C_outgoing (oCons (oN 1) (oCons (oE (mC (.int 0))) (oNil)))) (t1 3)) (mIf (mT (mOp (pEq false) (oCons (oN 0) (oCons (oE (mC (.int 3))) oNil)))) (mAsg (mCallN 2 C_phases (oCons (oN 1) (oCons (oE (mC (.int 0))) (oNil)))) (t1 3)) (mAsg (mCallN 3 C_taken_before (oCons (oN 1) (oCons (oE (mC (.int 0))) (oCons (oE (mC (.int 0))) (oNil))))) (t1 3)))))
theorem m_door_f : m_L_door = mSeq (mTry (catOf [("BadThing", true)]) 2 bodyDr (byCls [("BadThing", fun y => uRet (uTup (uCons (uC (.str "refused")) (uCons ((fun _ => y.fs.lookup ("part" : Str))) (uNil)))))])) (mRet (mTup (vCons (mC (.str "told")) (vCons (mFzN 3) (vNil))))) := rfl
theorem bodyDr_bad {w : Nat} {x : PV} {y : XV} (hw : w < 5) (ox : x.own = false) (c : C_check_graph [x] = .exc y [x]) (f1 : C_incoming [x, .int 0] = .exc y [x, .int 0]) (f2 : C_outgoing [x, .int 0] = .exc y [x, .int 0]) (f3 : C_phases [x, .int 0] = .exc y [x, .int 0]) (f4 : C_taken_before [x, .int 0, .int 0] = .exc y [x, .int 0, .int 0]) (a2 a3 : Option PV) :
    bodyDr [some (.int w), some x, a2, a3] = .exc y [some (.int w), some x, a2, a3] := by
  unfold bodyDr
  by_cases w0 : w = 0
  · rw [if_w, if_pos (by omega)]
    simp [ox, c]
  · rw [if_w, if_neg (by omega)]
    by_cases w1 : w = 1
    · rw [if_w, if_pos (by omega)]
      simp [ox, f1]
    · rw [if_w, if_neg (by omega)]
      by_cases w2 : w = 2
      · rw [if_w, if_pos (by omega)]
        simp [ox, f2]
      · rw [if_w, if_neg (by omega)]
        by_cases w3 : w = 3
        · rw [if_w, if_pos (by omega)]
          simp [ox, f3]
        · rw [if_w, if_neg (by omega)]
          simp [ox, f4]
theorem door_bad {w : Nat} {x : PV} (hw : w < 5) (hx : dat x = true) (e : C_is_graph [x] = .ok (.bl false) [x]) : C_L_door [.int w, x] = .ok (.tup [.str "refused", .str "graph"]) [.int w, x] := by
  have ox := dat_own hx
  have c := check_bad hx e
  have k1 := kB "graph"
  have k2 := bB "graph"
  have k3 := pB "graph"
  have f1 : C_incoming [x, .int 0] = .exc (xB "graph") [x, .int 0] := by simp [C_incoming, runB, m_incoming, ox, c]
  have f2 : C_outgoing [x, .int 0] = .exc (xB "graph") [x, .int 0] := by simp [C_outgoing, runB, m_outgoing, ox, c]
  have f3 : C_phases [x, .int 0] = .exc (xB "graph") [x, .int 0] := by simp [C_phases, runB, m_phases, ox, c]
  have f4 : C_taken_before [x, .int 0, .int 0] = .exc (xB "graph") [x, .int 0, .int 0] := by simp [C_taken_before, runB, m_taken_before, ox, c]
  have fb := bodyDr_bad hw ox c f1 f2 f3 f4 none none
  simp [C_L_door, runB, m_door_f, ox, fb, k1, k2, k3, uRet, uTup, uCons, uNil, uC]
theorem bodyDr_good {w : Nat} {x y1 y2 y3 y4 : PV} (hw : w < 5) (ox : x.own = false) (o1 : y1.own = false) (o2 : y2.own = false) (o3 : y3.own = false) (o4 : y4.own = false) (c : C_check_graph [x] = .ok .non [x]) (f1 : C_incoming [x, .int 0] = .ok y1 [x, .int 0]) (f2 : C_outgoing [x, .int 0] = .ok y2 [x, .int 0]) (f3 : C_phases [x, .int 0] = .ok y3 [x, .int 0]) (f4 : C_taken_before [x, .int 0, .int 0] = .ok y4 [x, .int 0, .int 0]) (a2 a3 : Option PV) :
    ∃ y, bodyDr [some (.int w), some x, a2, a3] = .nx [some (.int w), some x, a2, some y] ∧ y.own = false ∧ (w = 0 → y = .non) := by
  unfold bodyDr
  by_cases w0 : w = 0
  · refine ⟨.non, ?_, rfl, fun _ => rfl⟩
    rw [if_w, if_pos (by omega)]
    simp [ox, c]
  · rw [if_w, if_neg (by omega)]
    by_cases w1 : w = 1
    · refine ⟨y1, ?_, o1, fun z => absurd z w0⟩
      rw [if_w, if_pos (by omega)]
      simp [ox, f1]
    · rw [if_w, if_neg (by omega)]
      by_cases w2 : w = 2
      · refine ⟨y2, ?_, o2, fun z => absurd z w0⟩
        rw [if_w, if_pos (by omega)]
        simp [ox, f2]
      · rw [if_w, if_neg (by omega)]
        by_cases w3 : w = 3
        · refine ⟨y3, ?_, o3, fun z => absurd z w0⟩
          rw [if_w, if_pos (by omega)]
          simp [ox, f3]
        · refine ⟨y4, ?_, o4, fun z => absurd z w0⟩
          rw [if_w, if_neg (by omega)]
          simp [ox, f4]
theorem door_good {w : Nat} {bs : List Blk} {qs : List Que} (hw : w < 5) (h : GrOK bs qs) (hq : 1 ≤ qs.length) : ∃ y, C_L_door [.int w, eG bs qs] = .ok (.tup [.str "told", y]) [.int w, eG bs qs] ∧ y.own = false ∧ (w = 0 → y = .non) := by
  have og := eG_own bs qs
  have c := check_good h
  have hb0 : 0 < bs.length := by have := h.b1; omega
  have hb : bs[0]? = some bs[0] := List.getElem?_eq_getElem hb0
  have f1 := incoming_ok h (k := 0) hb0
  have f2 := outgoing_ok h (k := 0) hb0
  have f3 := phases_ok h hb
  obtain ⟨v, f4, _⟩ := fn_told (w := 1) (by omega) h (k := 0) (n := 0) (by omega) (by omega)
  have o1 := selF_own (·.t) qs 0
  have o2 := selF_own (·.s) qs 0
  have f4' : C_taken_before [eG bs qs, .int 0, .int 0] = .ok (.int v) [eG bs qs, .int 0, .int 0] := f4
  obtain ⟨y, e, oy, hy⟩ := bodyDr_good hw og (y1 := .tup (selF (·.t) qs 0)) (y2 := .tup (selF (·.s) qs 0)) (y3 := .int (bs[0]).times.length) (y4 := .int v) o1 o2 rfl rfl c f1 f2 f3 f4' none none
  refine ⟨y, ?_, oy, hy⟩
  have fy := frz_id oy
  generalize eG bs qs = G at *
  simp [C_L_door, runB, m_door_f, og, e, fy, oy]
/-! ### rows spoilt -/
def RS (n : Nat) (y : PV) : Prop := (dat y = true ∧ lenV y ≤ n) ∨ ∃ xs, y = .lst true xs ∧ dats xs = true ∧ xs.length ≤ n
theorem RS.frz {n : Nat} {y : PV} (h : RS n y) (hn : n ≤ 100000) : ∃ y', frzP y = some y' ∧ dat y' = true := by
  rcases h with ⟨h, _⟩ | ⟨xs, rfl, h1, h2⟩
  · exact ⟨y, frz_id (dat_own h), h⟩
  · refine ⟨.lst false xs, ?_, dat_lstI h1 (by omega)⟩
    have o := dats_own h1
    show (if PV.owns xs = false then some (PV.lst false xs) else none) = _
    rw [if_pos o]
theorem dats_app {a b : List PV} (ha : dats a = true) (hb : dats b = true) : dats (a ++ b) = true := dats_of fun x hx => (List.mem_append.mp hx).elim (dats_mem ha x) (dats_mem hb x)
theorem dats_drop {a : List PV} (k : Nat) (ha : dats a = true) : dats (a.drop k) = true := dats_of fun x hx => dats_mem ha x (List.mem_of_mem_drop hx)
theorem dats_take {a : List PV} (k : Nat) (ha : dats a = true) : dats (a.take k) = true := dats_of fun x hx => dats_mem ha x (List.mem_of_mem_take hx)
theorem dats_set {a : List PV} (k : Nat) {x : PV} (ha : dats a = true) (hx : dat x = true) : dats (a.set k x) = true := dats_of fun y hy => by
  rcases List.mem_or_eq_of_mem_set hy with h | rfl
  · exact dats_mem ha y h
  · exact hx
theorem row_spoilt_ok {xs : List PV} {d : PV} {hi : Int} (h : dats xs = true) (hl : xs.length ≤ 1000) (hd : DOK d) :
    ∃ y d', C_L_row_spoilt [d, .tup xs, .int hi] = .ok y [d', .tup xs, .int hi] ∧ RS (xs.length + 1) y ∧ DOK d' := by
  obtain ⟨k, d1, e1, k0, k1, hd1⟩ := draw_ok (many := 6) hd (by omega) (by omega)
  have z0 := hd.own
  have z1 := hd1.own
  have o := dats_own h
  have ll : xs.length ≤ LIM := lim_le (by omega)
  by_cases c0 : k = 0
  · subst c0
    exact ⟨.lst true xs, d1, by simp [C_L_row_spoilt, runB, m_L_row_spoilt, z0, z1, o, e1], .inr ⟨xs, rfl, h, by omega⟩, hd1⟩
  by_cases c1 : k = 1 ∨ xs.length = 0
  · have a := addL true true xs [.int 0] o (by simp) (by simp; omega)
    have dd : dats (xs ++ [PV.int 0]) = true := dats_app h rfl
    have lz : (xs ++ [PV.int 0]).length = xs.length + 1 := by simp
    have od := dats_own dd
    have l2 : (xs ++ [PV.int 0]).length ≤ LIM := lim_le (by omega)
    generalize xs ++ [PV.int 0] = ys at *
    refine ⟨.tup ys, d1, ?_, .inl ⟨dat_tupI dd (by omega), by simp [lenV]; omega⟩, hd1⟩
    by_cases k1' : k = 1
    · subst k1'
      simp [C_L_row_spoilt, runB, m_L_row_spoilt, z0, z1, o, e1, a, od, l2]
    · have x0 : xs.length = 0 := by omega
      simp [C_L_row_spoilt, runB, m_L_row_spoilt, z0, z1, o, e1, a, od, l2, c0, k1', x0]
  have n1 : ¬ k = 1 := fun z => c1 (.inl z)
  have n2 : ¬ xs.length = 0 := fun z => c1 (.inr z)
  have n3 : ¬ ((xs.length : Int) = 0) := by omega
  by_cases c2 : k = 2
  · subst c2
    have s := slLoL true xs 1 1 rfl o
    have dd := dats_drop 1 h
    have od := dats_own dd
    have lz : (xs.drop 1).length ≤ xs.length := by simp
    generalize xs.drop 1 = ys at *
    have l2 : ys.length ≤ LIM := lim_le (by omega)
    refine ⟨.tup ys, d1, ?_, .inl ⟨dat_tupI dd (by omega), by simp [lenV]; omega⟩, hd1⟩
    simp [C_L_row_spoilt, runB, m_L_row_spoilt, z0, z1, o, e1, s, od, l2, n2, n3]
  by_cases c3 : k = 3
  · subst c3
    have hc : compL (t1 3) mYes (mC (.int 0)) [3] xs [some d1, some (.tup xs), some (.int hi), none, none, some (.int 3), none] [] = .ok ([] ++ xs.map fun _ => PV.int 0) [some d1, some (.tup xs), some (.int hi), none, none, some (.int 3), none] :=
      compL_map (fun x _ => ⟨[some d1, some (.tup xs), some (.int hi), some x, none, some (.int 3), none], [some d1, some (.tup xs), some (.int hi), some x, none, some (.int 3), none], by simp, by simp, by simp⟩) []
    rw [List.nil_append] at hc
    have dd : dats (xs.map fun _ => PV.int 0) = true := dats_of fun x hx => by
      obtain ⟨_, _, rfl⟩ := List.mem_map.mp hx
      rfl
    have od := dats_own dd
    have lz : (xs.map fun _ => PV.int 0).length = xs.length := by simp
    generalize xs.map (fun _ => PV.int 0) = ys at *
    have l2 : ys.length ≤ LIM := lim_le (by omega)
    refine ⟨.tup ys, d1, ?_, .inl ⟨dat_tupI dd (by omega), by simp [lenV]; omega⟩, hd1⟩
    simp [C_L_row_spoilt, runB, m_L_row_spoilt, z0, z1, o, e1, hc, od, l2, ll, n2, n3]
  obtain ⟨r, d2, e2, r0, r1, hd2⟩ := draw_ok (many := xs.length) hd1 (by omega) (by omega)
  obtain ⟨x, d3, e3, hx, hd3⟩ := pickL_ok (o := true) (xs := [PV.int hi, .int (hi + 1), .int (-1), .bl true, .non, .str "1"]) hd2 (by simp) (by simp) (by simp)
  have z2 := hd2.own
  have z3 := hd3.own
  have l6 : 6 ≤ LIM := by decide
  have dx : dat x = true := by
    simp only [List.mem_cons, List.not_mem_nil, or_false] at hx
    rcases hx with rfl | rfl | rfl | rfl | rfl | rfl <;> first | rfl | exact dat_1
  have fx := frz_id (dat_own dx)
  have zi : ixN xs.length r = some r.toNat := ixN_of r0 (by omega)
  have dd := dats_set r.toNat h dx
  have od := dats_own dd
  have lz : (xs.set r.toNat x).length = xs.length := by simp
  generalize hys : xs.set r.toNat x = ys at *
  have l2 : ys.length ≤ LIM := lim_le (by omega)
  refine ⟨.tup ys, d3, ?_, .inl ⟨dat_tupI dd (by omega), by simp [lenV]; omega⟩, hd3⟩
  simp [C_L_row_spoilt, runB, m_L_row_spoilt, z0, z1, z2, z3, o, e1, e2, e3, od, l2, l6, c0, n1, n2, n3, c2, c3, fx, zi, hys]
/-! ### names spoilt -/
theorem rep_a16 : pMul2 [.str "a", .int 16] = some (.str (Sg (List.replicate 16 97))) := by
  show @ite _ (("a" : Str).length ≤ 10 ∧ (-1000000 : Int) ≤ 16 ∧ (16 : Int) ≤ 1000000) (Classical.propDecidable _) (some (PV.str (repS "a" 16))) none = _
  rw [if_pos ⟨by decide +kernel, by decide, by decide⟩]
  congr 2
theorem rep_a17 : pMul2 [.str "a", .int 17] = some (.str (Sg (List.replicate 17 97))) := by
  show @ite _ (("a" : Str).length ≤ 10 ∧ (-1000000 : Int) ≤ 17 ∧ (17 : Int) ≤ 1000000) (Classical.propDecidable _) (some (PV.str (repS "a" 17))) none = _
  rw [if_pos ⟨by decide +kernel, by decide, by decide⟩]
  congr 2
def oddN : List PV := [.str (Sg (List.replicate 16 97)), .str (Sg (List.replicate 17 97)), .str "", .str "1a", .str "_a", .str ".a", .str "A", .str "a b", .str "a-b", .str "aB", .str "a.b_1", .int 7, .non, .tup [.str "a"]]
theorem oddN_s : PyData.strOk (Sg (List.replicate 16 97)) = true ∧ PyData.strOk (Sg (List.replicate 17 97)) = true ∧ PyData.strOk "" = true ∧ PyData.strOk "1a" = true ∧ PyData.strOk "_a" = true ∧ PyData.strOk ".a" = true ∧ PyData.strOk "A" = true ∧ PyData.strOk "a b" = true ∧ PyData.strOk "a-b" = true ∧ PyData.strOk "aB" = true ∧ PyData.strOk "a.b_1" = true ∧ PyData.strOk "a" = true := by decide +kernel
theorem oddN_l : (Sg (List.replicate 16 97)).length ≤ 1000 ∧ (Sg (List.replicate 17 97)).length ≤ 1000 ∧ ("" : Str).length ≤ 1000 ∧ ("1a" : Str).length ≤ 1000 ∧ ("_a" : Str).length ≤ 1000 ∧ (".a" : Str).length ≤ 1000 ∧ ("A" : Str).length ≤ 1000 ∧ ("a b" : Str).length ≤ 1000 ∧ ("a-b" : Str).length ≤ 1000 ∧ ("aB" : Str).length ≤ 1000 ∧ ("a.b_1" : Str).length ≤ 1000 ∧ ("a" : Str).length ≤ 1000 := by decide +kernel
theorem dats_oddN : dats oddN = true := by
  obtain ⟨a1, a2, a3, a4, a5, a6, a7, a8, a9, a10, a11, a12⟩ := oddN_s
  obtain ⟨b1, b2, b3, b4, b5, b6, b7, b8, b9, b10, b11, b12⟩ := oddN_l
  refine dats_of fun x hx => ?_
  unfold oddN at hx
  simp only [List.mem_cons, List.not_mem_nil, or_false] at hx
  rcases hx with rfl | rfl | rfl | rfl | rfl | rfl | rfl | rfl | rfl | rfl | rfl | rfl | rfl | rfl
  · exact dat_s a1 b1
  · exact dat_s a2 b2
  · exact dat_s a3 b3
  · exact dat_s a4 b4
  · exact dat_s a5 b5
  · exact dat_s a6 b6
  · exact dat_s a7 b7
  · exact dat_s a8 b8
  · exact dat_s a9 b9
  · exact dat_s a10 b10
  · exact dat_s a11 b11
  · rfl
  · rfl
  · exact dat_tupI (by rw [dats_cons, dat_s a12 b12]; rfl) (by simp)
theorem name_spoilt_ok {ys : List PV} {d : PV} {o : Bool} (h : dats ys = true) (hl : ys.length ≤ 1000) (hd : DOK d) :
    ∃ y d', C_L_name_spoilt [d, .lst o ys] = .ok y [d', .lst o ys] ∧ dat y = true ∧ DOK d' := by
  have oy := dats_own h
  have oo := dats_own dats_oddN
  have a1 := addL true o oddN ys oo oy (by simp [oddN]; omega)
  have a2 := addL true o (oddN ++ ys) ys (dats_own (dats_app dats_oddN h)) oy (by simp [oddN]; omega)
  have dd := dats_app (dats_app dats_oddN h) h
  have hn : oddN ++ ys ++ ys ≠ [] := by simp [oddN]
  have hlen : (oddN ++ ys ++ ys).length < 1073741824 := by simp [oddN]; omega
  obtain ⟨x, d1, e1, hx, hd1⟩ := pickL_ok (o := true) (xs := oddN ++ ys ++ ys) hd hn hlen (dats_own dd)
  have z0 := hd.own
  have z1 := hd1.own
  have r1 := rep_a16
  have r2 := rep_a17
  have l14 : 14 ≤ LIM := by decide
  have dx := dats_mem dd x hx
  have ox := dat_own dx
  refine ⟨x, d1, ?_, dx, hd1⟩
  generalize hA : oddN ++ ys = A at *
  generalize A ++ ys = B at *
  have eo : oddN = [.str (Sg (List.replicate 16 97)), .str (Sg (List.replicate 17 97)), .str "", .str "1a", .str "_a", .str ".a", .str "A", .str "a b", .str "a-b", .str "aB", .str "a.b_1", .int 7, .non, .tup [.str "a"]] := rfl
  rw [eo] at a1
  generalize (Sg (List.replicate 16 97)) = S16 at *
  generalize (Sg (List.replicate 17 97)) = S17 at *
  cases o <;> simp [C_L_name_spoilt, runB, m_L_name_spoilt, z0, z1, oy, r1, r2, l14, a1, a2, e1, ox]
/-! ### blocks and queues spoilt -/
theorem dat3 {a b c : PV} (ha : dat a = true) (hb : dat b = true) (hc : dat c = true) : dat (.tup [a, b, c]) = true := dat_tupI (by simp [dats_cons, ha, hb, hc, dats]) (by simp)
theorem dat5 {a b c d e : PV} (ha : dat a = true) (hb : dat b = true) (hc : dat c = true) (hd : dat d = true) (he : dat e = true) : dat (.tup [a, b, c, d, e]) = true := dat_tupI (by simp [dats_cons, ha, hb, hc, hd, he, dats]) (by simp)
theorem block_spoilt_ok {ys : List PV} {d : PV} {o : Bool} {b : Blk} (hb : BlkOK b) (h : dats ys = true) (hl : ys.length ≤ 1000) (hd : DOK d) :
    ∃ y d', C_L_block_spoilt [d, eB b, .lst o ys] = .ok y [d', eB b, .lst o ys] ∧ dat y = true ∧ DOK d' := by
  obtain ⟨k, d1, e1, k0, k1, hd1⟩ := draw_ok (many := 4) hd (by omega) (by omega)
  have z0 := hd.own
  have z1 := hd1.own
  have oy := dats_own h
  have ob := eB_own b
  obtain ⟨h1, h2, h3, h4, h5, h6⟩ := hb
  have dn := dat_name h1
  have dt : dat (.tup (b.times.map PV.int)) = true := dat_ints (by omega)
  have du : dat (.tup (b.deed.map PV.int)) = true := dat_ints (by omega)
  have pl : pList [eB b] = some (.lst true [.str b.name, .tup (b.times.map PV.int), .tup (b.deed.map PV.int)]) := by simp [eB]
  have i1 : pIx [eB b, .int 1] = some (.tup (b.times.map PV.int)) := by simp [eB]
  have i2 : pIx [eB b, .int 2] = some (.tup (b.deed.map PV.int)) := by simp [eB]
  have dts := (dat_tup dt).1
  have dus := (dat_tup du).1
  have lt : (b.times.map PV.int).length ≤ 1000 := by rw [List.length_map]; omega
  have lu : (b.deed.map PV.int).length ≤ 1000 := by rw [List.length_map]; omega
  have l3 : 3 ≤ LIM := by decide
  have l2 : 2 ≤ LIM := by decide
  have l4 : 4 ≤ LIM := by decide
  have ot := dats_own dts
  have ou := dats_own dus
  generalize eB b = B at *
  generalize b.times.map PV.int = T at *
  generalize b.deed.map PV.int = U at *
  generalize b.name = N at *
  rcases (by omega : k = 0 ∨ k = 1 ∨ k = 2 ∨ k = 3) with rfl | rfl | rfl | rfl
  · obtain ⟨x, d2, e2, hx, hd2⟩ := name_spoilt_ok (o := o) h hl hd1
    have z2 := hd2.own
    have ox := dat_own hx
    have fx := frz_id ox
    refine ⟨.tup [x, .tup T, .tup U], d2, ?_, dat3 hx dt du, hd2⟩
    cases o <;> simp [C_L_block_spoilt, runB, m_L_block_spoilt, z0, z1, z2, oy, ob, pl, e1, e2, fx, ox, ot, ou, l3, ixN]
  · obtain ⟨y, d2, e2, hy, hd2⟩ := row_spoilt_ok (hi := 60) dts lt hd1
    obtain ⟨y', fy, dy⟩ := hy.frz (by omega)
    have z2 := hd2.own
    have oy' := dat_own dy
    refine ⟨.tup [.str N, y', .tup U], d2, ?_, dat3 dn dy du, hd2⟩
    cases o <;> simp [C_L_block_spoilt, runB, m_L_block_spoilt, z0, z1, z2, oy, ob, pl, i1, e1, e2, fy, oy', ot, ou, l3, ixN]
  · obtain ⟨y, d2, e2, hy, hd2⟩ := row_spoilt_ok (hi := 9972) dus lu hd1
    obtain ⟨y', fy, dy⟩ := hy.frz (by omega)
    have z2 := hd2.own
    have oy' := dat_own dy
    refine ⟨.tup [.str N, .tup T, y'], d2, ?_, dat3 dn dt dy, hd2⟩
    cases o <;> simp [C_L_block_spoilt, runB, m_L_block_spoilt, z0, z1, z2, oy, ob, pl, i2, e1, e2, fy, oy', ot, ou, l3, ixN]
  · obtain ⟨x, d2, e2, hx, hd2⟩ := pickL_ok (o := true) (xs := [PV.lst false [.str N, .tup T, .tup U], .tup [.str N, .tup T], .tup [.str N, .tup T, .tup U, .int 0], .non]) hd1 (by simp) (by simp) (by simp [ot, ou])
    have z2 := hd2.own
    have s1 := slHiL false [.str N, .tup T, .tup U] 2 2 rfl (by simp [ot, ou])
    have a1 := addL false true [.str N, .tup T, .tup U] [.int 0] (by simp [ot, ou]) (by simp) (by simp)
    simp at s1 a1
    have dx : dat x = true := by
      simp only [List.mem_cons, List.not_mem_nil, or_false] at hx
      rcases hx with rfl | rfl | rfl | rfl
      · exact dat3 dn dt du
      · exact dat_tupI (by simp [dats_cons, dn, dt, dats]) (by simp)
      · exact dat_tupI (by simp [dats_cons, dn, dt, du, dats, (show dat (.int 0) = true from rfl)]) (by simp)
      · rfl
    have ox := dat_own dx
    refine ⟨x, d2, ?_, dx, hd2⟩
    cases o <;> simp [C_L_block_spoilt, runB, m_L_block_spoilt, z0, z1, z2, oy, ob, pl, e1, e2, ox, ot, ou, l2, l3, l4, s1, a1]
theorem compDraw3 {many : Int} (h0 : 0 < many) (h1 : many < 1073741824) (a1 a2 a4 a5 : Option PV) : ∀ (xs : List PV) (d : PV) (acc : List PV), DOK d → ∃ l d', compL (t1 3) mYes (mFz (mCallN 2 C_L_draw (oCons (oN 0) (oCons (oE (mC (.int many))) (oNil))))) [3] xs [some d, a1, a2, none, a4, a5] acc = .ok (acc ++ l.map PV.int) [some d', a1, a2, none, a4, a5] ∧ l.length = xs.length ∧ NumsP (many - 1) l ∧ DOK d' := by
  intro xs
  induction xs with
  | nil => intro d acc hd; exact ⟨[], d, by simp [compL], rfl, fun i hi => by simp at hi, hd⟩
  | cons x xs ih =>
    intro d acc hd
    obtain ⟨i, d1, e, i0, i1, hd1⟩ := draw_ok (many := many) hd h0 h1
    obtain ⟨l, d', e2, hl, hn, hd'⟩ := ih d1 (acc ++ [.int i]) hd1
    have z1 := hd.own
    have z2 := hd1.own
    refine ⟨i :: l, d', ?_, by simp [hl], fun j hj => ?_, hd'⟩
    · simp [compL, z1, z2, e, e2]
    · rcases List.mem_cons.mp hj with rfl | hj
      · exact ⟨i0, by omega⟩
      · exact hn j hj
theorem queue_spoilt_ok {bs : List Blk} {d : PV} {q : Que} {many : Nat} (hb : ∀ b ∈ bs, BlkOK b) (hq : QueOK bs q) (hd : DOK d) :
    ∃ y d', C_L_queue_spoilt [d, eQ q, .int many] = .ok y [d', eQ q, .int many] ∧ dat y = true ∧ DOK d' := by
  obtain ⟨k, d1, e1, k0, k1, hd1⟩ := draw_ok (many := 7) hd (by omega) (by omega)
  have z0 := hd.own
  have z1 := hd1.own
  have ob := eQ_own q
  obtain ⟨b1, b2, f1, f2, h1, h2, h3, h4⟩ := hq
  have a1 := (hb b1 (List.mem_of_getElem? f1)).2.2.1
  have a2 := (hb b2 (List.mem_of_getElem? f2)).2.2.1
  have g1 := h1.1
  have g2 := h2.1
  have dg : dat (.tup (q.gives.map PV.int)) = true := dat_ints (by omega)
  have dk : dat (.tup (q.takes.map PV.int)) = true := dat_ints (by omega)
  have ds : dat (.tup (q.start.map PV.int)) = true := dat_ints (by omega)
  have pl : pList [eQ q] = some (.lst true [.int q.s, .tup (q.gives.map PV.int), .int q.t, .tup (q.takes.map PV.int), .tup (q.start.map PV.int)]) := by simp [eQ]
  have i1 : pIx [eQ q, .int 1] = some (.tup (q.gives.map PV.int)) := by simp [eQ]
  have i3 : pIx [eQ q, .int 3] = some (.tup (q.takes.map PV.int)) := by simp [eQ]
  have i4 : pIx [eQ q, .int 4] = some (.tup (q.start.map PV.int)) := by simp [eQ]
  have dgs := (dat_tup dg).1
  have dks := (dat_tup dk).1
  have dss := (dat_tup ds).1
  have lg : (q.gives.map PV.int).length ≤ 1000 := by rw [List.length_map]; omega
  have lk : (q.takes.map PV.int).length ≤ 1000 := by rw [List.length_map]; omega
  have ls : (q.start.map PV.int).length ≤ 1000 := by rw [List.length_map]; omega
  have l5 : 5 ≤ LIM := by decide
  have l4 : 4 ≤ LIM := by decide
  have l6 : 6 ≤ LIM := by decide
  have og := dats_own dgs
  have ok := dats_own dks
  have os := dats_own dss
  generalize eQ q = B at *
  generalize q.gives.map PV.int = G at *
  generalize q.takes.map PV.int = K at *
  generalize q.start.map PV.int = S at *
  generalize ((q.s : Nat) : Int) = si at *
  generalize ((q.t : Nat) : Int) = ti at *
  have di : ∀ i : Int, dat (.int i) = true := fun i => rfl
  rcases (by omega : k = 0 ∨ k = 1 ∨ k = 2 ∨ k = 3 ∨ k = 4 ∨ k = 5 ∨ k = 6) with rfl | rfl | rfl | rfl | rfl | rfl | rfl
  · obtain ⟨x, d2, e2, hx, hd2⟩ := pickL_ok (o := true) (xs := [PV.int (-1), .int many, .int ((many : Int) - 1), .bl true, .non]) hd1 (by simp) (by simp) (by simp)
    have z2 := hd2.own
    have dx : dat x = true := by
      simp only [List.mem_cons, List.not_mem_nil, or_false] at hx
      rcases hx with rfl | rfl | rfl | rfl | rfl <;> rfl
    have ox := dat_own dx
    have fx := frz_id ox
    refine ⟨.tup [x, .tup G, .int ti, .tup K, .tup S], d2, ?_, dat5 dx dg (di _) dk ds, hd2⟩
    simp [C_L_queue_spoilt, runB, m_L_queue_spoilt, z0, z1, z2, ob, pl, e1, e2, fx, ox, og, ok, os, l5, ixN]
  · obtain ⟨y, d2, e2, hy, hd2⟩ := row_spoilt_ok (hi := 12) dgs lg hd1
    obtain ⟨y', fy, dy⟩ := hy.frz (by omega)
    have z2 := hd2.own
    have oy' := dat_own dy
    refine ⟨.tup [.int si, y', .int ti, .tup K, .tup S], d2, ?_, dat5 (di _) dy (di _) dk ds, hd2⟩
    simp [C_L_queue_spoilt, runB, m_L_queue_spoilt, z0, z1, z2, ob, pl, i1, e1, e2, fy, oy', og, ok, os, l5, ixN]
  · obtain ⟨x, d2, e2, hx, hd2⟩ := pickL_ok (o := true) (xs := [PV.int (-1), .int many, .int ((many : Int) - 1), .bl true, .non]) hd1 (by simp) (by simp) (by simp)
    have z2 := hd2.own
    have dx : dat x = true := by
      simp only [List.mem_cons, List.not_mem_nil, or_false] at hx
      rcases hx with rfl | rfl | rfl | rfl | rfl <;> rfl
    have ox := dat_own dx
    have fx := frz_id ox
    refine ⟨.tup [.int si, .tup G, x, .tup K, .tup S], d2, ?_, dat5 (di _) dg dx dk ds, hd2⟩
    simp [C_L_queue_spoilt, runB, m_L_queue_spoilt, z0, z1, z2, ob, pl, e1, e2, fx, ox, og, ok, os, l5, ixN]
  · obtain ⟨y, d2, e2, hy, hd2⟩ := row_spoilt_ok (hi := 12) dks lk hd1
    obtain ⟨y', fy, dy⟩ := hy.frz (by omega)
    have z2 := hd2.own
    have oy' := dat_own dy
    refine ⟨.tup [.int si, .tup G, .int ti, y', .tup S], d2, ?_, dat5 (di _) dg (di _) dy ds, hd2⟩
    simp [C_L_queue_spoilt, runB, m_L_queue_spoilt, z0, z1, z2, ob, pl, i3, e1, e2, fy, oy', og, ok, os, l5, ixN]
  · obtain ⟨y, d2, e2, hy, hd2⟩ := row_spoilt_ok (hi := 9972) dss ls hd1
    obtain ⟨y', fy, dy⟩ := hy.frz (by omega)
    have z2 := hd2.own
    have oy' := dat_own dy
    refine ⟨.tup [.int si, .tup G, .int ti, .tup K, y'], d2, ?_, dat5 (di _) dg (di _) dk dy, hd2⟩
    simp [C_L_queue_spoilt, runB, m_L_queue_spoilt, z0, z1, z2, ob, pl, i4, e1, e2, fy, oy', og, ok, os, l5, ixN]
  · obtain ⟨r, d2, e2, r0, r1, hd2⟩ := draw_ok (many := 2) hd1 (by omega) (by omega)
    obtain ⟨l, d3, e3, hl, _, hd3⟩ := compDraw3 (many := 9973) (by omega) (by omega) (some B) (some (.int many)) (some (.lst true [.int si, .tup G, .int ti, .tup K, .tup S])) (some (.int 5)) (rngP (60 + r).toNat) d2 [] hd2
    rw [List.nil_append] at e3
    rw [rngP_len] at hl
    have it : itRng1 [.int (60 + r)] = some (rngP (60 + r).toNat) := it_nat (by omega) (by omega)
    have z2 := hd2.own
    have z3 := hd3.own
    have ll : l.length ≤ LIM := lim_le (by omega)
    have lr : (60 + r).toNat ≤ LIM := lim_le (by omega)
    have ol := owns_ints l
    have dl : dat (.tup (l.map PV.int)) = true := dat_ints (by omega)
    refine ⟨.tup [.int si, .tup G, .int ti, .tup K, .tup (l.map PV.int)], d3, ?_, dat5 (di _) dg (di _) dk dl, hd3⟩
    simp [C_L_queue_spoilt, runB, m_L_queue_spoilt, z0, z1, z2, z3, ob, pl, e1, e2, it, lr, e3, ll, ol, og, ok, os, l5, ixN]
  · obtain ⟨x, d2, e2, hx, hd2⟩ := pickL_ok (o := true) (xs := [PV.lst false [.int si, .tup G, .int ti, .tup K, .tup S], .tup [.int si, .tup G, .int ti, .tup K], .tup [.int si, .tup G, .int ti, .tup K, .tup S, .tup []], .non]) hd1 (by simp) (by simp) (by simp [og, ok, os])
    have z2 := hd2.own
    have s1 := slHiL false [.int si, .tup G, .int ti, .tup K, .tup S] 4 4 rfl (by simp [og, ok, os])
    have a1 := addL false true [.int si, .tup G, .int ti, .tup K, .tup S] [.tup []] (by simp [og, ok, os]) (by simp) (by simp)
    simp at s1 a1
    have dx : dat x = true := by
      simp only [List.mem_cons, List.not_mem_nil, or_false] at hx
      rcases hx with rfl | rfl | rfl | rfl
      · exact dat5 (di _) dg (di _) dk ds
      · exact dat_tupI (by simp [dats_cons, di, dg, dk, dats]) (by simp)
      · exact dat_tupI (by simp [dats_cons, di, dg, dk, ds, dats, (show dat (.tup []) = true by simp [dat, dats])]) (by simp)
      · rfl
    have ox := dat_own dx
    refine ⟨x, d2, ?_, dx, hd2⟩
    simp [C_L_queue_spoilt, runB, m_L_queue_spoilt, z0, z1, z2, ob, pl, e1, e2, ox, og, ok, os, l4, l5, l6, s1, a1]
/-! ### graphs spoilt -/
theorem strOk_of {l : List Nat} (h : Lo l) : PyData.strOk (Sg l) = true := by
  unfold PyData.strOk
  rw [Array.all_eq_true_iff_forall_mem]
  intro x hx
  exact decide_eq_true (h x (by simpa [_root_.SX.S] using hx))
noncomputable def gsA : MS := mSeq (mAsg (mCallN 2 C_L_draw (oCons (oN 0) (oCons (oE (mOp pLen (oCons (oN 4) (oNil)))) (oNil)))) (t1 7)) (mSetI 4 (mN 7) (mFz (mCallN 3 C_L_block_spoilt (oCons (oN 0) (oCons (oE (mOp pIx (oCons (oN 4) (oCons (oN 7) oNil)))) (oCons (oE (mComp (oCons (oN 4) oNil) itSeq (t1 2) (mYes) (mFz (mOp pIx (oCons (oN 2) (oCons (oE (mC (.int 0))) oNil)))) [2])) (oNil)))))))
noncomputable def gsB : MS := mSeq (mAsg (mCallN 2 C_L_draw (oCons (oN 0) (oCons (oE (mOp pLen (oCons (oN 5) (oNil)))) (oNil)))) (t1 7)) (mSetI 5 (mN 7) (mFz (mCallN 3 C_L_queue_spoilt (oCons (oN 0) (oCons (oE (mOp pIx (oCons (oN 5) (oCons (oN 7) oNil)))) (oCons (oE (mOp pLen (oCons (oN 4) (oNil)))) (oNil)))))))
noncomputable def gsC : MS := mSeq (mAsg (mLst (vCons (mFz (mOp pList (oCons (oN 1) (oNil)))) (vCons (mTup (vCons (mFz (mOp pIx (oCons (oN 1) (oCons (oE (mC (.int 0))) oNil)))) (vNil))) (vCons (mFz (mOp pAdd (oCons (oN 1) (oCons (oE (mTup (vCons (mTup (vNil)) (vNil)))) oNil)))) (vCons (mTup (vCons (mFz (mOp pIx (oCons (oN 1) (oCons (oE (mC (.int 0))) oNil)))) (vCons (mFzN 5) (vNil)))) (vCons (mTup (vCons (mFzN 4) (vCons (mFz (mOp pIx (oCons (oN 1) (oCons (oE (mC (.int 1))) oNil)))) (vNil)))) (vNil))))))) (t1 8)) (mRet (mCallN 2 C_L_pick (oCons (oN 0) (oCons (oE (mOp pAdd (oCons (oN 8) (oCons (oE (mLst (vCons (mTup (vCons (mTup (vNil)) (vCons (mTup (vNil)) (vNil)))) (vCons (mTup (vCons (mTup (vNil)) (vCons (mFz (mOp pIx (oCons (oN 1) (oCons (oE (mC (.int 1))) oNil)))) (vNil)))) (vCons (mC .non) (vCons (mC (.int 5)) (vCons (mTup (vCons (mC .non) (vCons (mC .non) (vNil)))) (vNil)))))))) oNil)))) (oNil)))))
noncomputable def gsD1 : MS := mAsg (mOp pSlHi (oCons (oE (mOp pMul3 (oCons (oN 5) (oCons (oE (mC (.int 161))) oNil)))) (oCons (oE (mOp pAdd (oCons (oE (mC (.int 160))) (oCons (oE (mCallN 2 C_L_draw (oCons (oN 0) (oCons (oE (mC (.int 2))) (oNil))))) oNil)))) oNil))) (t1 5)
noncomputable def gsD2 : MS := mSeq (mAsg (mComp (oCons (oE (mC (.int 60))) oNil) itRng1 (t1 3) (mYes) (mTup (vCons (mFz (mOp pAdd (oCons (oE (mOp pAdd (oCons (oE (mC (.str "n"))) (oCons (oE (mOp pStr (oCons (oN 3) (oNil)))) oNil)))) (oCons (oE (mC (.str "_x"))) oNil)))) (vCons (mTup (vCons (mC (.int 0)) (vNil))) (vCons (mTup (vCons (mC (.int 0)) (vCons (mC (.int 0)) (vNil)))) (vNil))))) [3]) (t1 9)) (mAsg (mOp pSlHi (oCons (oE (mOp pAdd (oCons (oN 4) (oCons (oN 9) oNil)))) (oCons (oE (mOp pAdd (oCons (oE (mC (.int 60))) (oCons (oE (mCallN 2 C_L_draw (oCons (oN 0) (oCons (oE (mC (.int 2))) (oNil))))) oNil)))) oNil))) (t1 4))
noncomputable def gsI : MS := mIf (mT (mOp (pCmp pLt) (oCons (oN 6) (oCons (oE (mC (.int 2))) oNil)))) gsA (mIf (mT (mOp (pCmp pLt) (oCons (oN 6) (oCons (oE (mC (.int 4))) oNil)))) gsB (mIf (mT (mOp (pEq false) (oCons (oN 6) (oCons (oE (mC (.int 4))) oNil)))) gsC (mIf (mT (mCallN 2 C_L_rare (oCons (oN 0) (oCons (oE (mC (.int 4))) (oNil))))) gsD1 (mIf (mT (mCallN 2 C_L_rare (oCons (oN 0) (oCons (oE (mC (.int 4))) (oNil))))) gsD2 mNx))))
theorem m_gs_f : m_L_graph_spoilt = mSeq (mPar 4 5 (vCons (mOp pList (oCons (oE (mOp pIx (oCons (oN 1) (oCons (oE (mC (.int 0))) oNil)))) (oNil))) (vCons (mOp pList (oCons (oE (mOp pIx (oCons (oN 1) (oCons (oE (mC (.int 1))) oNil)))) (oNil))) (vNil)))) (mSeq (mAsg (mCallN 2 C_L_draw (oCons (oN 0) (oCons (oE (mC (.int 6))) (oNil)))) (t1 6)) (mSeq gsI (mRet (mTup (vCons (mOp pTuple (oCons (oN 4) (oNil))) (vCons (mOp pTuple (oCons (oN 5) (oNil))) (vNil))))))) := rfl
theorem if_lt6 (a b : MS) (k c : Int) (x0 x1 x2 x3 x4 x5 : Option PV) (r : Sl) : mIf (mT (mOp (pCmp pLt) (oCons (oN 6) (oCons (oE (mC (.int c))) oNil)))) a b (x0 :: x1 :: x2 :: x3 :: x4 :: x5 :: some (.int k) :: r) = if k < c then a (x0 :: x1 :: x2 :: x3 :: x4 :: x5 :: some (.int k) :: r) else b (x0 :: x1 :: x2 :: x3 :: x4 :: x5 :: some (.int k) :: r) := by
  by_cases h : k < c <;> simp [h, pLt]
theorem if_eq6 (a b : MS) (k c : Int) (x0 x1 x2 x3 x4 x5 : Option PV) (r : Sl) : mIf (mT (mOp (pEq false) (oCons (oN 6) (oCons (oE (mC (.int c))) oNil)))) a b (x0 :: x1 :: x2 :: x3 :: x4 :: x5 :: some (.int k) :: r) = if k = c then a (x0 :: x1 :: x2 :: x3 :: x4 :: x5 :: some (.int k) :: r) else b (x0 :: x1 :: x2 :: x3 :: x4 :: x5 :: some (.int k) :: r) := by
  by_cases h : k = c <;> simp [h]
theorem if_rare {d d' : PV} {bo : Bool} (hd : d.own = true) (hd' : d'.own = true) (e : C_L_rare [d, .int 4] = .ok (.bl bo) [d', .int 4]) (a b : MS) (r : Sl) : mIf (mT (mCallN 2 C_L_rare (oCons (oN 0) (oCons (oE (mC (.int 4))) (oNil))))) a b (some d :: r) = if bo = true then a (some d' :: r) else b (some d' :: r) := by
  cases bo <;> simp [hd, hd', e]
theorem compNm (bs : List Blk) (a0 a1 a3 a4 a5 a6 a7 a8 a9 : Option PV) : compL (t1 2) mYes (mFz (mOp pIx (oCons (oN 2) (oCons (oE (mC (.int 0))) oNil)))) [2] (bs.map eB) [a0, a1, none, a3, a4, a5, a6, a7, a8, a9] [] = .ok ((nmL bs).map PV.str) [a0, a1, none, a3, a4, a5, a6, a7, a8, a9] := by
  have h := compE (l := bs) (enc := eB) (f := fun b => PV.str b.name) (t := t1 2) (own := [2]) (el := mFz (mOp pIx (oCons (oN 2) (oCons (oE (mC (.int 0))) oNil)))) (s := [a0, a1, none, a3, a4, a5, a6, a7, a8, a9]) (fun b hb => by
    refine ⟨[a0, a1, some (eB b), a3, a4, a5, a6, a7, a8, a9], [a0, a1, some (eB b), a3, a4, a5, a6, a7, a8, a9], rfl, ?_, by simp⟩
    simp) []
  rw [List.nil_append] at h
  rw [h]
  unfold nmL
  rw [List.map_map]
  rfl
theorem dats_names {bs : List Blk} (h : ∀ b ∈ bs, BlkOK b) : dats ((nmL bs).map PV.str) = true := dats_of fun x hx => by
  obtain ⟨y, hy, rfl⟩ := List.mem_map.mp hx
  obtain ⟨b, hb, rfl⟩ := List.mem_map.mp hy
  exact dat_name (h b hb).1
theorem gsA_ok {bs : List Blk} {qs : List Que} {d : PV} {kd : Int} (h : GrOK bs qs) (hd : DOK d) :
    ∃ (d' x : PV) (j : Nat) (a7 : Option PV), gsA [some d, some (eG bs qs), none, none, some (.lst true (bs.map eB)), some (.lst true (qs.map eQ)), some (.int kd), none, none, none] = .nx [some d', some (eG bs qs), none, none, some (.lst true ((bs.map eB).set j x)), some (.lst true (qs.map eQ)), some (.int kd), a7, none, none] ∧ dat x = true ∧ DOK d' := by
  have h1 := h.b1
  have h2 := h.b2
  obtain ⟨r, d1, e1, r0, r1, hd1⟩ := draw_ok (many := bs.length) hd (by omega) (by omega)
  obtain ⟨j, rfl⟩ : ∃ k : Nat, r = k := ⟨r.toNat, by omega⟩
  have hj : j < bs.length := by omega
  have bj := h.bo bs[j] (List.getElem_mem _)
  have aj := blk_at (List.getElem?_eq_getElem hj)
  obtain ⟨y, d2, e2, hy, hd2⟩ := block_spoilt_ok (o := true) bj (dats_names h.bo) (by simp [nmL]; omega) hd1
  have z0 := hd.own
  have z1 := hd1.own
  have z2 := hd2.own
  have oy := dat_own hy
  have fy := frz_id oy
  have ob := eB_own bs[j]
  have cn := fun a0 a1 a3 a4 a5 a6 a7 a8 a9 => compNm bs a0 a1 a3 a4 a5 a6 a7 a8 a9
  have on : PV.owns ((nmL bs).map PV.str) = false := owns_strs _
  have lb : bs.length ≤ LIM := lim_le (by omega)
  have ix : ixN bs.length (j : Int) = some j := by
    have := ixN_of (n := bs.length) (i := (j : Int)) (by omega) (by omega)
    rwa [Int.toNat_natCast] at this
  have ll : (bs.map eB).length = bs.length := by simp
  refine ⟨d2, y, j, some (.int j), ?_, hy, hd2⟩
  have obs := eBs_own bs
  generalize bs[j] = b at *
  generalize (nmL bs).map PV.str = NM at *
  generalize eG bs qs = G at *
  simp [gsA, z0, z1, z2, e1, aj, cn, lb, on, e2, fy, ix, obs, ob]
theorem gsB_ok {bs : List Blk} {qs : List Que} {d : PV} {kd : Int} (h : GrOK bs qs) (hq : 1 ≤ qs.length) (hd : DOK d) :
    ∃ (d' x : PV) (j : Nat) (a7 : Option PV), gsB [some d, some (eG bs qs), none, none, some (.lst true (bs.map eB)), some (.lst true (qs.map eQ)), some (.int kd), none, none, none] = .nx [some d', some (eG bs qs), none, none, some (.lst true (bs.map eB)), some (.lst true ((qs.map eQ).set j x)), some (.int kd), a7, none, none] ∧ dat x = true ∧ DOK d' := by
  have h2 := h.q2
  obtain ⟨r, d1, e1, r0, r1, hd1⟩ := draw_ok (many := qs.length) hd (by omega) (by omega)
  obtain ⟨j, rfl⟩ : ∃ k : Nat, r = k := ⟨r.toNat, by omega⟩
  have hj : j < qs.length := by omega
  have bj := h.qo qs[j] (List.getElem_mem _)
  have aj := que_at (List.getElem?_eq_getElem hj)
  obtain ⟨y, d2, e2, hy, hd2⟩ := queue_spoilt_ok (many := bs.length) h.bo bj hd1
  have z0 := hd.own
  have z1 := hd1.own
  have z2 := hd2.own
  have oy := dat_own hy
  have fy := frz_id oy
  have ob := eQ_own qs[j]
  have ix : ixN qs.length (j : Int) = some j := by
    have := ixN_of (n := qs.length) (i := (j : Int)) (by omega) (by omega)
    rwa [Int.toNat_natCast] at this
  refine ⟨d2, y, j, some (.int j), ?_, hy, hd2⟩
  have obs := eBs_own bs
  have oqs := eQs_own qs
  generalize qs[j] = b at *
  generalize eG bs qs = G at *
  simp [gsB, z0, z1, z2, e1, aj, e2, fy, ix, obs, oqs, ob]
theorem gsC_ok {bs : List Blk} {qs : List Que} {d : PV} {kd : Int} (h : GrOK bs qs) (hd : DOK d) :
    ∃ d' y s4 s5 s8, gsC [some d, some (eG bs qs), none, none, some (.lst true (bs.map eB)), some (.lst true (qs.map eQ)), some (.int kd), none, none, none] = .rt y [some d', some (eG bs qs), none, none, s4, s5, some (.int kd), none, s8, none] ∧ dat y = true ∧ (∀ bs' qs', GrOK bs' qs' → y ≠ eG bs' qs') ∧ DOK d' := by
  have h2 := h.b2
  have h3 := h.q2
  have ob := eBs_own bs
  have oq := eQs_own qs
  have z0 := hd.own
  have og := eG_own bs qs
  have ix0 : pIx [eG bs qs, .int 0] = some (.tup (bs.map eB)) := by simp [eG]
  have ix : pIx [eG bs qs, .int 1] = some (.tup (qs.map eQ)) := by simp [eG]
  have pl : pList [eG bs qs] = some (.lst true [.tup (bs.map eB), .tup (qs.map eQ)]) := by simp [eG]
  have pa : pAdd [eG bs qs, .tup [.tup []]] = some (.tup [.tup (bs.map eB), .tup (qs.map eQ), .tup []]) := by
    have := addT [.tup (bs.map eB), .tup (qs.map eQ)] [.tup []] (by simp) (by simp) (by simp)
    exact this
  have db := dats_blks h.bo
  have dq := dats_ques h.bo h.qo
  have lb : (bs.map eB).length ≤ 100000 := by rw [List.length_map]; omega
  have lq : (qs.map eQ).length ≤ 100000 := by rw [List.length_map]; omega
  have dtb : dat (.tup (bs.map eB)) = true := dat_tupI db lb
  have dtq : dat (.tup (qs.map eQ)) = true := dat_tupI dq lq
  have dlq : dat (.lst false (qs.map eQ)) = true := dat_lstI dq lq
  have dlb : dat (.lst false (bs.map eB)) = true := dat_lstI db lb
  have de : dat (.tup []) = true := by simp [dat, dats]
  generalize hBS : bs.map eB = BS at *
  generalize hQS : qs.map eQ = QS at *
  have aa := addL true true [.lst false [.tup BS, .tup QS], .tup [.tup BS], .tup [.tup BS, .tup QS, .tup []], .tup [.tup BS, .lst false QS], .tup [.lst false BS, .tup QS]] [.tup [.tup [], .tup []], .tup [.tup [], .tup QS], .non, .int 5, .tup [.non, .non]] (by simp [ob, oq]) (by simp [oq]) (by simp)
  obtain ⟨x, d1, e1, hx, hd1⟩ := pickL_ok (o := true) (xs := [.lst false [.tup BS, .tup QS], .tup [.tup BS], .tup [.tup BS, .tup QS, .tup []], .tup [.tup BS, .lst false QS], .tup [.lst false BS, .tup QS]] ++ [.tup [.tup [], .tup []], .tup [.tup [], .tup QS], .non, .int 5, .tup [.non, .non]]) hd (by simp) (by simp) (by simp [ob, oq])
  have z1 := hd1.own
  have l5 : 5 ≤ LIM := by decide
  have hxx : dat x = true ∧ ∀ bs' qs', GrOK bs' qs' → x ≠ eG bs' qs' := by
    simp only [List.cons_append, List.nil_append, List.mem_cons, List.not_mem_nil, or_false] at hx
    rcases hx with rfl | rfl | rfl | rfl | rfl | rfl | rfl | rfl | rfl | rfl
    · exact ⟨dat_lstI (by simp [dats_cons, dtb, dtq, dats]) (by simp), fun b q _ e => by simp [eG] at e⟩
    · exact ⟨dat_tupI (by simp [dats_cons, dtb, dats]) (by simp), fun b q _ e => by simp [eG] at e⟩
    · exact ⟨dat_tupI (by simp [dats_cons, dtb, dtq, de, dats]) (by simp), fun b q _ e => by simp [eG] at e⟩
    · exact ⟨dat_tupI (by simp [dats_cons, dtb, dlq, dats]) (by simp), fun b q _ e => by simp [eG] at e⟩
    · exact ⟨dat_tupI (by simp [dats_cons, dlb, dtq, dats]) (by simp), fun b q _ e => by simp [eG] at e⟩
    · refine ⟨dat_tupI (by simp [dats_cons, de, dats]) (by simp), fun b q hg e => ?_⟩
      have := hg.b1
      simp [eG] at e
      rw [e.1] at this
      simp at this
    · refine ⟨dat_tupI (by simp [dats_cons, de, dtq, dats]) (by simp), fun b q hg e => ?_⟩
      have := hg.b1
      simp [eG] at e
      rw [e.1] at this
      simp at this
    · exact ⟨rfl, fun b q _ e => by simp [eG] at e⟩
    · exact ⟨rfl, fun b q _ e => by simp [eG] at e⟩
    · exact ⟨dat_tupI (by simp [dats_cons, dats, (show dat .non = true from rfl)]) (by simp), fun b q _ e => by simp [eG] at e⟩
  have ox := dat_own hxx.1
  refine ⟨d1, x, some (.lst false BS), some (.lst false QS), some (.lst true [.lst false [.tup BS, .tup QS], .tup [.tup BS], .tup [.tup BS, .tup QS, .tup []], .tup [.tup BS, .lst false QS], .tup [.lst false BS, .tup QS]]), ?_, hxx.1, hxx.2, hd1⟩
  generalize eG bs qs = G at *
  simp only [List.cons_append, List.nil_append] at aa e1
  simp [gsC, z0, z1, og, ix0, ix, pl, pa, ob, oq, l5, aa, e1, ox]
theorem rep3 {xs : List PV} (ho : PV.owns xs = false) (hl : xs.length ≤ 1000) : pMul3 [.lst true xs, .int 161] = some (.lst true (List.replicate 161 xs).flatten) := by
  show @ite _ (PV.owns xs = false ∧ xs.length ≤ 1000 ∧ (0 : Int) ≤ 161 ∧ (161 : Int) ≤ 1000) (Classical.propDecidable _) (some (PV.lst true (List.replicate 161 xs).flatten)) none = _
  rw [if_pos ⟨ho, hl, by decide, by decide⟩]
theorem dats_rep {xs : List PV} (n : Nat) (h : dats xs = true) : dats (List.replicate n xs).flatten = true := dats_of fun x hx => by
  obtain ⟨l, hl, hx⟩ := List.mem_flatten.mp hx
  rw [List.eq_of_mem_replicate hl] at hx
  exact dats_mem h x hx
theorem gsD1_ok {bs : List Blk} {qs : List Que} {d : PV} {kd : Int} (h : GrOK bs qs) (hq : 1 ≤ qs.length) (hd : DOK d) :
    ∃ d' QS, gsD1 [some d, some (eG bs qs), none, none, some (.lst true (bs.map eB)), some (.lst true (qs.map eQ)), some (.int kd), none, none, none] = .nx [some d', some (eG bs qs), none, none, some (.lst true (bs.map eB)), some (.lst true QS), some (.int kd), none, none, none] ∧ dats QS = true ∧ 1 ≤ QS.length ∧ QS.length ≤ 1000 ∧ DOK d' := by
  have h2 := h.q2
  obtain ⟨r, d1, e1, r0, r1, hd1⟩ := draw_ok (many := 2) hd (by omega) (by omega)
  have z0 := hd.own
  have z1 := hd1.own
  have dq := dats_ques h.bo h.qo
  have rp := rep3 (eQs_own qs) (by rw [List.length_map]; omega)
  have dr := dats_rep 161 dq
  have lr := flat_len 161 (qs.map eQ)
  rw [List.length_map] at lr
  generalize (List.replicate 161 (qs.map eQ)).flatten = R at *
  have oR := dats_own dr
  have s1 := slHiL true R (160 + r).toNat (160 + r) (by omega) oR
  refine ⟨d1, R.take (160 + r).toNat, ?_, dats_take _ dr, by rw [List.length_take]; omega, by rw [List.length_take]; omega, hd1⟩
  generalize R.take (160 + r).toNat = R2 at *
  have oq := eQs_own qs
  generalize eG bs qs = G at *
  generalize qs.map eQ = QS at *
  simp [gsD1, z0, z1, oq, rp, e1, oR, s1]
theorem lit_n : ("n" : Str) = Sg [110] := by decide +kernel
theorem lit_x : ("_x" : Str) = Sg [95, 120] := by decide +kernel
def moreB (j : Nat) : PV := .tup [.str (Sg ([110] ++ numC j ++ [95, 120])), .tup [.int 0], .tup [.int 0, .int 0]]
theorem moreB_dat {j : Nat} (hj : j < 60) : dat (moreB j) = true := by
  have hl : Lo ([110] ++ numC j ++ [95, 120]) := ((show Lo [110] by unfold Lo; decide).app (lo_num j)).app (by unfold Lo; decide)
  have hn := numC_len (i := (j : Int)) (by omega) (by omega)
  refine dat3 (dat_s (strOk_of hl) ?_) (dat_ints (l := [0]) (by simp)) (dat_ints (l := [0, 0]) (by simp))
  rw [_root_.SX.S_len]
  simp
  omega
theorem compMore (a0 a1 a2 a4 a5 a6 a7 a8 a9 : Option PV) : compL (t1 3) mYes (mTup (vCons (mFz (mOp pAdd (oCons (oE (mOp pAdd (oCons (oE (mC (.str (Sg [110])))) (oCons (oE (mOp pStr (oCons (oN 3) (oNil)))) oNil)))) (oCons (oE (mC (.str (Sg [95, 120])))) oNil)))) (vCons (mTup (vCons (mC (.int 0)) (vNil))) (vCons (mTup (vCons (mC (.int 0)) (vCons (mC (.int 0)) (vNil)))) (vNil))))) [3] (rngP 60) [a0, a1, a2, none, a4, a5, a6, a7, a8, a9] [] = .ok ((List.range 60).map moreB) [a0, a1, a2, none, a4, a5, a6, a7, a8, a9] := by
  have h := compE (l := List.range 60) (enc := fun (k : Nat) => PV.int (k : Int)) (f := moreB) (t := t1 3) (own := [3]) (el := mTup (vCons (mFz (mOp pAdd (oCons (oE (mOp pAdd (oCons (oE (mC (.str (Sg [110])))) (oCons (oE (mOp pStr (oCons (oN 3) (oNil)))) oNil)))) (oCons (oE (mC (.str (Sg [95, 120])))) oNil)))) (vCons (mTup (vCons (mC (.int 0)) (vNil))) (vCons (mTup (vCons (mC (.int 0)) (vCons (mC (.int 0)) (vNil)))) (vNil))))) (s := [a0, a1, a2, none, a4, a5, a6, a7, a8, a9]) (fun j hj => by
    have hj := List.mem_range.mp hj
    have e1 := str_num (i := (j : Int)) (by omega) (by omega)
    have hn := numC_len (i := (j : Int)) (by omega) (by omega)
    have e2 := pp_addS [110] (numC j) (lim_le (by simp; omega))
    have e3 := pp_addS ([110] ++ numC j) [95, 120] (lim_le (by simp; omega))
    refine ⟨[a0, a1, a2, some (.int j), a4, a5, a6, a7, a8, a9], [a0, a1, a2, some (.int j), a4, a5, a6, a7, a8, a9], rfl, ?_, by simp⟩
    unfold moreB
    generalize [110] ++ numC j ++ [95, 120] = A at *
    generalize [110] ++ numC j = B at *
    simp [e1, e2, e3]) []
  rw [List.nil_append] at h
  exact h
theorem gsD2_ok {bs : List Blk} {qs : List Que} {d : PV} {kd : Int} (h : GrOK bs qs) (hd : DOK d) :
    ∃ d' BS a9, gsD2 [some d, some (eG bs qs), none, none, some (.lst true (bs.map eB)), some (.lst true (qs.map eQ)), some (.int kd), none, none, none] = .nx [some d', some (eG bs qs), none, none, some (.lst true BS), some (.lst true (qs.map eQ)), some (.int kd), none, none, a9] ∧ dats BS = true ∧ BS.length ≤ 1000 ∧ DOK d' := by
  have h2 := h.b2
  obtain ⟨r, d1, e1, r0, r1, hd1⟩ := draw_ok (many := 2) hd (by omega) (by omega)
  have z0 := hd.own
  have z1 := hd1.own
  have db := dats_blks h.bo
  have dm : dats ((List.range 60).map moreB) = true := dats_of fun x hx => by
    obtain ⟨j, hj, rfl⟩ := List.mem_map.mp hx
    exact moreB_dat (List.mem_range.mp hj)
  have it : itRng1 [.int 60] = some (rngP 60) := it_nat (by omega) (by omega)
  have cm := fun a0 a1 a2 a4 a5 a6 a7 a8 a9 => compMore a0 a1 a2 a4 a5 a6 a7 a8 a9
  have lm : ((List.range 60).map moreB).length = 60 := by simp
  generalize (List.range 60).map moreB = M at *
  have om := dats_own dm
  have ob := eBs_own bs
  have a1 := addL true true (bs.map eB) M ob om (by rw [List.length_map]; omega)
  have dr := dats_app db dm
  have lr : (bs.map eB ++ M).length ≤ 1000 := by simp; omega
  generalize bs.map eB ++ M = R at *
  have oR := dats_own dr
  have s1 := slHiL true R (60 + r).toNat (60 + r) (by omega) oR
  have l60 : 60 ≤ LIM := by decide
  refine ⟨d1, R.take (60 + r).toNat, some (.lst true M), ?_, dats_take _ dr, by rw [List.length_take]; omega, hd1⟩
  generalize R.take (60 + r).toNat = R2 at *
  generalize eG bs qs = G at *
  generalize bs.map eB = BS at *
  simp only [gsD2, lit_n, lit_x]
  simp [z0, z1, it, l60, cm, om, ob, a1, e1, oR, s1]
theorem gsI_ok {bs : List Blk} {qs : List Que} {d : PV} {kd : Int} (h : GrOK bs qs) (hq : 1 ≤ qs.length) (hd : DOK d) :
    (∃ d' BS QS a7 a9, gsI [some d, some (eG bs qs), none, none, some (.lst true (bs.map eB)), some (.lst true (qs.map eQ)), some (.int kd), none, none, none] = .nx [some d', some (eG bs qs), none, none, some (.lst true BS), some (.lst true QS), some (.int kd), a7, none, a9] ∧ dats BS = true ∧ BS.length ≤ 1000 ∧ dats QS = true ∧ 1 ≤ QS.length ∧ QS.length ≤ 1000 ∧ DOK d') ∨
    (∃ d' y s4 s5 s8, gsI [some d, some (eG bs qs), none, none, some (.lst true (bs.map eB)), some (.lst true (qs.map eQ)), some (.int kd), none, none, none] = .rt y [some d', some (eG bs qs), none, none, s4, s5, some (.int kd), none, s8, none] ∧ dat y = true ∧ (∀ bs' qs', GrOK bs' qs' → y ≠ eG bs' qs') ∧ DOK d') := by
  have h2 := h.b2
  have h3 := h.q2
  have db := dats_blks h.bo
  have dq := dats_ques h.bo h.qo
  unfold gsI
  rw [if_lt6]
  by_cases c1 : kd < 2
  · rw [if_pos c1]
    obtain ⟨d', x, j, a7, e, hx, hd'⟩ := gsA_ok (kd := kd) h hd
    exact .inl ⟨d', _, _, a7, none, e, dats_set j db hx, by simp; omega, dq, by simp; omega, by simp; omega, hd'⟩
  rw [if_neg c1, if_lt6]
  by_cases c2 : kd < 4
  · rw [if_pos c2]
    obtain ⟨d', x, j, a7, e, hx, hd'⟩ := gsB_ok (kd := kd) h hq hd
    exact .inl ⟨d', _, _, a7, none, e, db, by simp; omega, dats_set j dq hx, by simp; omega, by simp; omega, hd'⟩
  rw [if_neg c2, if_eq6]
  by_cases c3 : kd = 4
  · rw [if_pos c3]
    obtain ⟨d', y, s4, s5, s8, e, h1, h4, hd'⟩ := gsC_ok (kd := kd) h hd
    exact .inr ⟨d', y, s4, s5, s8, e, h1, h4, hd'⟩
  rw [if_neg c3]
  obtain ⟨b1, d1, e1, hd1⟩ := rare_ok (many := 4) hd (by omega) (by omega)
  rw [if_rare hd.own hd1.own e1]
  cases b1 with
  | true =>
    rw [if_pos rfl]
    obtain ⟨d', QS, e, q1, q2, q3, hd'⟩ := gsD1_ok (kd := kd) h hq hd1
    exact .inl ⟨d', _, _, none, none, e, db, by simp; omega, q1, q2, q3, hd'⟩
  | false =>
    rw [if_neg (by simp)]
    obtain ⟨b2, d2, e2, hd2⟩ := rare_ok (many := 4) hd1 (by omega) (by omega)
    rw [if_rare hd1.own hd2.own e2]
    cases b2 with
    | true =>
      rw [if_pos rfl]
      obtain ⟨d', BS, a9, e, q1, q2, hd'⟩ := gsD2_ok (kd := kd) h hd2
      exact .inl ⟨d', _, _, none, a9, e, q1, q2, dq, by simp; omega, by simp; omega, hd'⟩
    | false =>
      rw [if_neg (by simp)]
      exact .inl ⟨d2, _, _, none, none, rfl, db, by simp; omega, dq, by simp; omega, by simp; omega, hd2⟩
theorem graph_spoilt_ok {bs : List Blk} {qs : List Que} {d : PV} (h : GrOK bs qs) (hq : 1 ≤ qs.length) (hd : DOK d) :
    ∃ y d', C_L_graph_spoilt [d, eG bs qs] = .ok y [d', eG bs qs] ∧ dat y = true ∧ (∀ bs' qs', GrOK bs' qs' → y = eG bs' qs' → 1 ≤ qs'.length) ∧ DOK d' := by
  obtain ⟨k, d1, e1, k0, k1, hd1⟩ := draw_ok (many := 6) hd (by omega) (by omega)
  have z0 := hd.own
  have z1 := hd1.own
  have og := eG_own bs qs
  have ob := eBs_own bs
  have oq := eQs_own qs
  have ix0 : pIx [eG bs qs, .int 0] = some (.tup (bs.map eB)) := by simp [eG]
  have ix : pIx [eG bs qs, .int 1] = some (.tup (qs.map eQ)) := by simp [eG]
  rcases gsI_ok (kd := k) h hq hd1 with ⟨d', BS, QS, a7, a9, e, b1, b2, q1, q2, q3, hd'⟩ | ⟨d', y, s4, s5, s8, e, y1, y2, hd'⟩
  · have oB := dats_own b1
    have oQ := dats_own q1
    have lB : BS.length ≤ LIM := lim_le (by omega)
    have lQ : QS.length ≤ LIM := lim_le (by omega)
    have z2 := hd'.own
    refine ⟨.tup [.tup BS, .tup QS], d', ?_, dat_tupI (by rw [dats_cons, dat_tupI b1 (by omega), dats_cons, dat_tupI q1 (by omega)]; rfl) (by simp), fun b q _ e => ?_, hd'⟩
    · generalize eG bs qs = G at *
      generalize bs.map eB = B0 at *
      generalize qs.map eQ = Q0 at *
      simp [C_L_graph_spoilt, runB, m_gs_f, z0, z1, z2, og, ob, oq, ix0, ix, e1, e, oB, oQ, lB, lQ]
    · simp [eG] at e
      rw [e.2] at q2
      simpa using q2
  · have z2 := hd'.own
    have oy := dat_own y1
    refine ⟨y, d', ?_, y1, fun b q hg e => absurd e (y2 b q hg), hd'⟩
    generalize eG bs qs = G at *
    generalize bs.map eB = B0 at *
    generalize qs.map eQ = Q0 at *
    simp [C_L_graph_spoilt, runB, m_gs_f, z0, z1, z2, og, ob, oq, ix0, ix, e1, e, oy]
/-! ### kinds, graphs, the law -/
theorem eq_bl (a : Bool) : pEq false [.bl a, .bl a] = some (.bl true) := by cases a <;> rfl
theorem same_ok (a : Bool) : C_L_same [.bl a, .bl a] = .ok (.bl true) [.bl a, .bl a] := by
  have e := eq_bl a
  simp [C_L_same, runB, m_L_same, e]
theorem nums_owned {xs : List PV} {lo hi : Int} (h : dats xs = true) : C_is_numbers [.lst true xs, .int lo, .int hi] = .ok (.bl false) [.lst true xs, .int lo, .int hi] := by
  have o := dats_own h
  simp [C_is_numbers, runB, m_is_numbers, o]
theorem row_owned {xs : List PV} {lo hi a b : Int} (h : dats xs = true) : C_L_row_in [.lst true xs, .int lo, .int hi, .int a, .int b] = .ok (.bl false) [.lst true xs, .int lo, .int hi, .int a, .int b] := by
  have o := dats_own h
  simp [C_L_row_in, runB, m_L_row_in, o]
theorem compDraw2 {low : Int} (a1 a3 a5 a6 a7 a8 a9 : Option PV) : ∀ (xs : List PV) (d : PV) (acc : List PV), DOK d → ∃ (l : List Int) (d' : PV), compL (t1 2) mYes (mFz (mOp pAdd (oCons (oN 4) (oCons (oE (mCallN 2 C_L_draw (oCons (oN 0) (oCons (oE (mC (.int 4))) (oNil))))) oNil)))) [2] xs [some d, a1, none, a3, some (.int low), a5, a6, a7, a8, a9] acc = .ok (acc ++ l.map PV.int) [some d', a1, none, a3, some (.int low), a5, a6, a7, a8, a9] ∧ l.length = xs.length ∧ DOK d' := by
  intro xs
  induction xs with
  | nil => intro d acc hd; exact ⟨[], d, by simp [compL], rfl, hd⟩
  | cons x xs ih =>
    intro d acc hd
    obtain ⟨i, d1, e, i0, i1, hd1⟩ := draw_ok (many := 4) hd (by omega) (by omega)
    obtain ⟨l, d', e2, hl, hd'⟩ := ih d1 (acc ++ [.int (low + i)]) hd1
    have z1 := hd.own
    have z2 := hd1.own
    refine ⟨(low + i) :: l, d', ?_, by simp [hl], hd'⟩
    simp [compL, z1, z2, e, e2]
theorem compNk (bs : List Blk) (a0 a1 a2 a4 a5 a6 a7 a8 a9 : Option PV) : compL (t1 3) mYes (mFz (mOp pIx (oCons (oN 3) (oCons (oE (mC (.int 0))) oNil)))) [3] (bs.map eB) [a0, a1, a2, none, a4, a5, a6, a7, a8, a9] [] = .ok ((nmL bs).map PV.str) [a0, a1, a2, none, a4, a5, a6, a7, a8, a9] := by
  have h := compE (l := bs) (enc := eB) (f := fun b => PV.str b.name) (t := t1 3) (own := [3]) (el := mFz (mOp pIx (oCons (oN 3) (oCons (oE (mC (.int 0))) oNil)))) (s := [a0, a1, a2, none, a4, a5, a6, a7, a8, a9]) (fun b hb => by
    refine ⟨[a0, a1, a2, some (eB b), a4, a5, a6, a7, a8, a9], [a0, a1, a2, some (eB b), a4, a5, a6, a7, a8, a9], rfl, ?_, by simp⟩
    simp) []
  rw [List.nil_append] at h
  rw [h]
  unfold nmL
  rw [List.map_map]
  rfl
theorem kinds_ok {bs : List Blk} {qs : List Que} {d : PV} (h : GrOK bs qs) (hd : DOK d) : ∃ d', C_L_kinds [d, eG bs qs] = .ok (.bl true) [d', eG bs qs] ∧ DOK d' := by
  have h1 := h.b1
  have h2 := h.b2
  obtain ⟨r1, d1, e1, _, _, hd1⟩ := draw_ok (many := 5) hd (by omega) (by omega)
  obtain ⟨r2, d2, e2, _, _, hd2⟩ := draw_ok (many := 5) hd1 (by omega) (by omega)
  obtain ⟨lo, hlo⟩ : ∃ lo, lo = r1 - 2 := ⟨_, rfl⟩
  obtain ⟨hi, hhi⟩ : ∃ hi, hi = 2 + r2 := ⟨_, rfl⟩
  obtain ⟨x, d3, e3, hx, hd3⟩ := pickL_ok (o := true) (xs := [PV.int lo, .int (lo - 1), .int hi, .int (hi + 1), .int 2, .bl true, .bl false, .non, .str "2", .tup [.int 2]]) hd2 (by simp) (by simp) (by simp)
  have dx : dat x = true := by
    simp only [List.mem_cons, List.not_mem_nil, or_false] at hx
    rcases hx with rfl | rfl | rfl | rfl | rfl | rfl | rfl | rfl | rfl | rfl <;> first | rfl | exact dat_2 | (simp [dat, dats])
  have ox := dat_own dx
  have w1 := whole_dat (lo := lo) (hi := hi) dx
  have w2 := L_in_dat (lo := lo) (hi := hi) dx
  obtain ⟨r4, d4, e4, q40, q41, hd4⟩ := draw_ok (many := 4) hd3 (by omega) (by omega)
  have it : itRng1 [.int r4] = some (rngP r4.toNat) := it_nat (by omega) (by omega)
  obtain ⟨l, d5, e5, hl, hd5⟩ := compDraw2 (low := lo) (some (eG bs qs)) none (some (.int hi)) (some x) none none none (rngP r4.toNat) d4 [] hd4
  rw [List.nil_append] at e5
  rw [rngP_len] at hl
  have dl : dats (l.map PV.int) = true := dats_of fun x hx => by
    obtain ⟨i, _, rfl⟩ := List.mem_map.mp hx
    rfl
  obtain ⟨y, d6, e6, hy, hd6⟩ := row_spoilt_ok (hi := hi) dl (by rw [List.length_map]; omega) hd5
  have ly : (l.map PV.int).length + 1 ≤ 9 := by rw [List.length_map]; omega
  have ol := owns_ints l
  have ll : l.length ≤ LIM := lim_le (by omega)
  have lr : r4.toNat ≤ LIM := lim_le (by omega)
  obtain ⟨v, n1, n2⟩ : ∃ v, C_is_numbers [y, .int lo, .int hi] = .ok (.bl v) [y, .int lo, .int hi] ∧ C_L_row_in [y, .int lo, .int hi, .int 0, .int 9] = .ok (.bl v) [y, .int lo, .int hi, .int 0, .int 9] := by
    rcases hy with ⟨hy, hn⟩ | ⟨xs, rfl, hy, hn⟩
    · refine ⟨_, nums_dat hy, ?_⟩
      rw [row_in_dat hy]
      have a1 : decide ((0 : Int) ≤ (lenV y : Nat)) = true := decide_eq_true (by omega)
      have a2 : decide (((lenV y : Nat) : Int) ≤ 9) = true := decide_eq_true (by omega)
      unfold rowV
      rw [a1, a2]
      simp
    · exact ⟨false, nums_owned hy, row_owned hy⟩
  have cn := fun a0 a1 a2 a4 a5 a6 a7 a8 a9 => compNk bs a0 a1 a2 a4 a5 a6 a7 a8 a9
  have on : PV.owns ((nmL bs).map PV.str) = false := owns_strs _
  have lb : bs.length ≤ LIM := lim_le (by omega)
  have obs := eBs_own bs
  obtain ⟨nm, d7, e7, hnm, hd7⟩ := name_spoilt_ok (o := true) (dats_names h.bo) (by simp [nmL]; omega) hd6
  have onm := dat_own hnm
  have m1 := name_dat hnm
  have m2 := named_dat hnm
  have h0 : 0 < bs.length := by omega
  have b0 := h.bo bs[0] (List.getElem_mem _)
  have a0 := blk_at (List.getElem?_eq_getElem h0)
  obtain ⟨bk, d8, e8, hbk, hd8⟩ := block_spoilt_ok (o := true) b0 (dats_names h.bo) (by simp [nmL]; omega) hd7
  have obk := dat_own hbk
  have k1 := block_dat hbk
  have k2 := block_due_dat hbk
  have s1 := same_ok (wholeV lo hi x)
  have s2 := same_ok v
  have s3 := same_ok (nameP nm)
  have s4 := same_ok (blockV bk)
  have og := eG_own bs qs
  have ob0 := eB_own bs[0]
  have ix0 : pIx [eG bs qs, .int 0] = some (.tup (bs.map eB)) := by simp [eG]
  have z0 := hd.own
  have z1 := hd1.own
  have z2 := hd2.own
  have z3 := hd3.own
  have z4 := hd4.own
  have z5 := hd5.own
  have z6 := hd6.own
  have z7 := hd7.own
  have z8 := hd8.own
  have l10 : 10 ≤ LIM := by decide
  refine ⟨d8, ?_, hd8⟩
  simp at a0
  generalize eG bs qs = G at *
  generalize bs[0] = b at *
  generalize (nmL bs).map PV.str = NM at *
  generalize l.map PV.int = LI at *
  generalize wholeV lo hi x = v1 at *
  generalize nameP nm = v3 at *
  generalize blockV bk = v4 at *
  subst hlo
  subst hhi
  rcases hy with ⟨hy, _⟩ | ⟨ys, rfl, hy, _⟩
  · have oy := dat_own hy
    simp [C_L_kinds, runB, m_L_kinds, z0, z1, z2, z3, z4, z5, z6, z7, z8, og, ox, oy, onm, obk, ob0, obs, e1, e2, e3, w1, w2, s1, e4, it, e5, ol, ll, lr, e6, n1, n2, s2, ix0, lb, cn, on, e7, m1, m2, s3, a0, e8, k1, k2, s4, l10]
  · have oy := dats_own hy
    simp [C_L_kinds, runB, m_L_kinds, z0, z1, z2, z3, z4, z5, z6, z7, z8, og, ox, oy, onm, obk, ob0, obs, e1, e2, e3, w1, w2, s1, e4, it, e5, ol, ll, lr, e6, n1, n2, s2, ix0, lb, cn, on, e7, m1, m2, s3, a0, e8, k1, k2, s4, l10]
noncomputable def bodyGr : MS := mSeq (mAsg (mCallN 2 C_L_door (oCons (oN 4) (oCons (oN 2) (oNil)))) (t1 5)) (mSeq (mIf (mAnd (mNot (mT (mN 3))) (mT (mOp (pEq true) (oCons (oN 5) (oCons (oE (mTup (vCons (mC (.str "refused")) (vCons (mC (.str "graph")) (vNil))))) oNil))))) (mRet (mC (.bl false))) (mNx)) (mSeq (mIf (mAnd (mT (mN 3)) (mT (mOp (pEq true) (oCons (oE (mOp pIx (oCons (oN 5) (oCons (oE (mC (.int 0))) oNil)))) (oCons (oE (mC (.str "told"))) oNil))))) (mRet (mC (.bl false))) (mNx)) (mIf (mAnd (mT (mN 3)) (mAnd (mT (mOp (pEq false) (oCons (oN 4) (oCons (oE (mC (.int 0))) oNil)))) (mT (mOp (pIsN true) (oCons (oE (mOp pIx (oCons (oN 5) (oCons (oE (mC (.int 1))) oNil)))) (oCons (oE (mC .non)) oNil)))))) (mRet (mC (.bl false))) (mNx))))
theorem m_graphs_f : m_L_graphs = mSeq (mAsg (mCallN 2 C_L_graph_spoilt (oCons (oN 0) (oCons (oN 1) (oNil)))) (t1 2)) (mSeq (mAsg (mCallN 1 C_L_graph_due (oCons (oN 2) (oNil))) (t1 3)) (mSeq (mFor [0, 1] (oCons (oE (mTup (vCons (mC (.int 0)) (vCons (mFz (mOp pAdd (oCons (oE (mC (.int 1))) (oCons (oE (mCallN 2 C_L_draw (oCons (oN 0) (oCons (oE (mC (.int 4))) (oNil))))) oNil)))) (vNil))))) oNil) itSeq (t1 4) bodyGr) (mRet (mCallN 2 C_L_kinds (oCons (oN 0) (oCons (oN 1) (oNil))))))) := rfl
noncomputable def bodyL1 : MS := mIf (mNot (mT (mCallN 2 C_L_graphs (oCons (oN 1) (oCons (oN 2) (oNil)))))) (mRet (mC (.bl false))) (mNx)
noncomputable def bodyL2 : MS := mIf (mNot (mT (mCallN 2 C_L_turn (oCons (oN 1) (oCons (oN 2) (oNil)))))) (mRet (mC (.bl false))) (mNx)
noncomputable def bodyL3 : MS := mIf (mNot (mT (mCallN 2 C_L_refused (oCons (oN 1) (oCons (oN 2) (oNil)))))) (mRet (mC (.bl false))) (mNx)
theorem m_law_f : m_law = mSeq (mAsg (mCallN 1 C_L_begin (oCons (oN 0) (oNil))) (t1 1)) (mSeq (mAsg (mCallN 1 C_L_made (oCons (oN 1) (oNil))) (t1 2)) (mSeq (mIf (mNot (mT (mCallN 1 C_L_ends (oCons (oN 2) (oNil))))) (mRet (mC (.bl false))) (mNx)) (mSeq (mFor [0] (oCons (oE (mC (.int 3))) oNil) itRng1 (t1 3) bodyL1) (mSeq (mFor [0] (oCons (oE (mC (.int 4))) oNil) itRng1 (t1 3) bodyL2) (mSeq (mFor [0] (oCons (oE (mC (.int 4))) oNil) itRng1 (t1 3) bodyL3) (mRet (mCallN 2 C_L_block_refused (oCons (oN 1) (oCons (oN 2) (oNil)))))))))) := rfl
theorem q_ref : pEq true [.tup [.str "refused", .str "graph"], .tup [.str "refused", .str "graph"]] = some (.bl false) := by
  have s : PyData.strOk "refused" = true ∧ PyData.strOk "graph" = true := by decide +kernel
  rw [eq_pu true (x := .tup [.str "refused", .str "graph"]) (y := .tup [.str "refused", .str "graph"]) (by simp [s.1, s.2]) (by simp [s.1, s.2]) (by simp) (by simp)]
  simp
theorem bodyGr_bad {d G x : PV} {w : Nat} (hw : w < 5) (hx : dat x = true) (e : C_is_graph [x] = .ok (.bl false) [x]) (a5 : Option PV) :
    bodyGr [some d, some G, some x, some (.bl false), some (.int w), a5] = .nx [some d, some G, some x, some (.bl false), some (.int w), some (.tup [.str "refused", .str "graph"])] := by
  have f := door_bad hw hx e
  have ox := dat_own hx
  have q := q_ref
  simp [bodyGr, ox, f, q]
theorem bodyGr_good {d G : PV} {bs : List Blk} {qs : List Que} {w : Nat} (hw : w < 5) (h : GrOK bs qs) (hq : 1 ≤ qs.length) (a5 : Option PV) :
    ∃ b5, bodyGr [some d, some G, some (eG bs qs), some (.bl true), some (.int w), a5] = .nx [some d, some G, some (eG bs qs), some (.bl true), some (.int w), b5] := by
  obtain ⟨y, f, oy, hy⟩ := door_good hw h hq
  have ox := eG_own bs qs
  have q := q_told
  refine ⟨some (.tup [.str "told", y]), ?_⟩
  generalize eG bs qs = x at *
  by_cases w0 : w = 0
  · have := hy w0
    subst this
    subst w0
    simp at f
    simp [bodyGr, ox, f, q]
  · have w1 : ¬ ((w : Int) = 0) := by omega
    simp [bodyGr, ox, f, q, oy, w0, w1]
theorem graphs_ok {bs : List Blk} {qs : List Que} {d : PV} (h : GrOK bs qs) (hq : 1 ≤ qs.length) (hd : DOK d) : ∃ d', C_L_graphs [d, eG bs qs] = .ok (.bl true) [d', eG bs qs] ∧ DOK d' := by
  obtain ⟨y, d1, e1, dy, hy, hd1⟩ := graph_spoilt_ok h hq hd
  obtain ⟨b, g1, g2, g3⟩ := graph_dat dy
  obtain ⟨r, d2, e2, r0, r1, hd2⟩ := draw_ok (many := 4) hd1 (by omega) (by omega)
  obtain ⟨w, hw⟩ : ∃ w : Nat, (w : Int) = 1 + r := ⟨(1 + r).toNat, by omega⟩
  obtain ⟨d3, e3, hd3⟩ := kinds_ok h hd2
  have loop : ∃ b5, forL (t1 4) bodyGr [.int 0, .int (1 + r)] [some d2, some (eG bs qs), some y, some (.bl b), none, none] = .nx [some d2, some (eG bs qs), some y, some (.bl b), some (.int (1 + r)), b5] := by
    cases b with
    | false =>
      have f1 := bodyGr_bad (d := d2) (G := eG bs qs) (w := 0) (by omega) dy g1 none
      have f2 := bodyGr_bad (d := d2) (G := eG bs qs) (w := w) (by omega) dy g1 (some (.tup [.str "refused", .str "graph"]))
      rw [hw] at f2
      refine ⟨some (.tup [.str "refused", .str "graph"]), ?_⟩
      simp only [Int.natCast_zero] at f1
      simp only [forL, ap_t1, List.set_cons_succ, List.set_cons_zero, f1, f2]
    | true =>
      obtain ⟨bs', qs', hg, rfl⟩ := g3 rfl
      have hq' := hy bs' qs' hg rfl
      obtain ⟨b5, f1⟩ := bodyGr_good (d := d2) (G := eG bs qs) (w := 0) (by omega) hg hq' none
      obtain ⟨c5, f2⟩ := bodyGr_good (d := d2) (G := eG bs qs) (w := w) (by omega) hg hq' b5
      rw [hw] at f2
      refine ⟨c5, ?_⟩
      simp only [Int.natCast_zero] at f1
      simp only [forL, ap_t1, List.set_cons_succ, List.set_cons_zero, f1, f2]
  obtain ⟨b5, lp⟩ := loop
  have og := eG_own bs qs
  have oy := dat_own dy
  have z0 := hd.own
  have z1 := hd1.own
  have z2 := hd2.own
  have z3 := hd3.own
  refine ⟨d3, ?_, hd3⟩
  generalize eG bs qs = G at *
  simp [C_L_graphs, runB, m_graphs_f, z0, z1, z2, z3, og, oy, e1, g2, e2, lp, e3]
theorem loop1 {bs : List Blk} {qs : List Que} (h : GrOK bs qs) (hq : 1 ≤ qs.length) : ∀ (is : List PV) (d : PV) (a3 : Option PV), DOK d →
    ∃ d' b3, DOK d' ∧ ∀ a0, forL (t1 3) bodyL1 is [a0, some d, some (eG bs qs), a3] = .nx [a0, some d', some (eG bs qs), b3]
  | [], d, a3, hd => ⟨d, a3, hd, fun _ => rfl⟩
  | i :: is, d, a3, hd => by
    obtain ⟨d1, e1, hd1⟩ := graphs_ok h hq hd
    obtain ⟨d2, b3, hd2, e2⟩ := loop1 h hq is d1 (some i) hd1
    have z0 := hd.own
    have z1 := hd1.own
    have og := eG_own bs qs
    refine ⟨d2, b3, hd2, fun a0 => ?_⟩
    have e : bodyL1 [a0, some d, some (eG bs qs), some i] = .nx [a0, some d1, some (eG bs qs), some i] := by
      generalize eG bs qs = G at *
      simp [bodyL1, z0, z1, og, e1]
    simp only [forL, ap_t1, List.set_cons_succ, List.set_cons_zero, e, e2]
theorem loop2 {bs : List Blk} {qs : List Que} (h : GrOK bs qs) (hq : 1 ≤ qs.length) : ∀ (is : List PV) (d : PV) (a3 : Option PV), DOK d →
    ∃ d' b3, DOK d' ∧ ∀ a0, forL (t1 3) bodyL2 is [a0, some d, some (eG bs qs), a3] = .nx [a0, some d', some (eG bs qs), b3]
  | [], d, a3, hd => ⟨d, a3, hd, fun _ => rfl⟩
  | i :: is, d, a3, hd => by
    obtain ⟨d1, e1, hd1⟩ := turn_ok h hq hd
    obtain ⟨d2, b3, hd2, e2⟩ := loop2 h hq is d1 (some i) hd1
    have z0 := hd.own
    have z1 := hd1.own
    have og := eG_own bs qs
    refine ⟨d2, b3, hd2, fun a0 => ?_⟩
    have e : bodyL2 [a0, some d, some (eG bs qs), some i] = .nx [a0, some d1, some (eG bs qs), some i] := by
      generalize eG bs qs = G at *
      simp [bodyL2, z0, z1, og, e1]
    simp only [forL, ap_t1, List.set_cons_succ, List.set_cons_zero, e, e2]
theorem loop3 {bs : List Blk} {qs : List Que} (h : GrOK bs qs) (hq : 1 ≤ qs.length) : ∀ (is : List PV) (d : PV) (a3 : Option PV), DOK d →
    ∃ d' b3, DOK d' ∧ ∀ a0, forL (t1 3) bodyL3 is [a0, some d, some (eG bs qs), a3] = .nx [a0, some d', some (eG bs qs), b3]
  | [], d, a3, hd => ⟨d, a3, hd, fun _ => rfl⟩
  | i :: is, d, a3, hd => by
    obtain ⟨d1, e1, hd1⟩ := refused_ok h hq hd
    obtain ⟨d2, b3, hd2, e2⟩ := loop3 h hq is d1 (some i) hd1
    have z0 := hd.own
    have z1 := hd1.own
    have og := eG_own bs qs
    refine ⟨d2, b3, hd2, fun a0 => ?_⟩
    have e : bodyL3 [a0, some d, some (eG bs qs), some i] = .nx [a0, some d1, some (eG bs qs), some i] := by
      generalize eG bs qs = G at *
      simp [bodyL3, z0, z1, og, e1]
    simp only [forL, ap_t1, List.set_cons_succ, List.set_cons_zero, e, e2]
theorem plain_law : ∀ (o : Bool) (ns : List Int), ns.length ≤ 63 → ∃ ys, C_law [.lst o (ns.map PV.int)] = .ok (.bl true) ys := by
  intro o ns hl
  obtain ⟨d, y, e1, hd⟩ := begin_ok o ns hl
  obtain ⟨bs, qs, d1, e2, h, _, hq, _, hd1⟩ := made_ok hd
  have e3 := ends_ok h
  obtain ⟨d2, b2, hd2, e4⟩ := loop1 h hq (rngP 3) d1 none hd1
  obtain ⟨d3, b3, hd3, e5⟩ := loop2 h hq (rngP 4) d2 b2 hd2
  obtain ⟨d4, b4, hd4, e6⟩ := loop3 h hq (rngP 4) d3 b3 hd3
  obtain ⟨d5, e7, hd5⟩ := block_refused_ok h hd4
  have it3 : itRng1 [.int 3] = some (rngP 3) := it_nat (by omega) (by omega)
  have it4 : itRng1 [.int 4] = some (rngP 4) := it_nat (by omega) (by omega)
  have z0 := hd.own
  have z1 := hd1.own
  have z2 := hd2.own
  have z3 := hd3.own
  have z4 := hd4.own
  have z5 := hd5.own
  have og := eG_own bs qs
  generalize eG bs qs = G at *
  cases o <;> simp [C_law, runB, m_law_f, z0, z1, z2, z3, z4, z5, og, e1, e2, e3, e4, e5, e6, e7, it3, it4]
theorem ini_BadThing : IniS ["self", "part"] ["self", "part"] "self" (defScope (inClass (tS 2) 0)) := ⟨rfl, rfl, rfl, by decide +kernel, rfl, by decide +kernel, by decide +kernel, by decide +kernel, rfl, rfl, rfl⟩
theorem all_mk {w : World} {K : PySem.W.Frag} {h : Heap} {mg : Str → Option Value} {fa : Addr} (X : K.In h) (G : h.Ns mainGlobals mg) (hfa : mg "law" = some (.ref fa))
    {t_FAR : Tok}
    {t_LETTERS : Tok}
    {t_MODULUS : Tok}
    {t_MOST_BLOCKS : Tok}
    {t_MOST_NAME : Tok}
    {t_MOST_PHASES : Tok}
    {t_MOST_QUEUES : Tok}
    {t_MOST_RATE : Tok}
    {t_MOST_START : Tok}
    {t_MOST_TIME : Tok}
    {t_SIGNS : Tok}
    {aBadThing : Addr}
    {aRateError : Addr}
    {iBadThing cdaBadThing ccBadThing : Addr} {odBadThing anBadThing odcBadThing cldBadThing : Option Addr} {slBadThing cslBadThing ccsBadThing : Array (Option Value)} {ocBadThing kVBadThing dcBadThing pmBadThing ctBadThing cclBadThing clBadThing : Value} {vsBadThing : Array Value} {fileBadThing : Str} {tfBadThing : Tok}
    {nmBadThing qBadThing : Str} {NBadThing : Addr} {bsBadThing bmBadThing subBadThing : List Value} {snBadThing : List Str} {abBadThing : Bool} {colBadThing : Option Bool} {ddBadThing : Option Addr} {m0BadThing m1BadThing m2BadThing m3BadThing m5BadThing : Option Value}
    {f_whole : Addr} {od_whole an_whole : Option Addr} {sl_whole : Array (Option Value)} {oc_whole kV_whole dc_whole pm_whole cd_whole ct_whole : Value}
    {f_is_numbers : Addr} {od_is_numbers an_is_numbers : Option Addr} {sl_is_numbers : Array (Option Value)} {oc_is_numbers kV_is_numbers dc_is_numbers pm_is_numbers cd_is_numbers ct_is_numbers : Value}
    {f_is_name : Addr} {od_is_name an_is_name : Option Addr} {sl_is_name : Array (Option Value)} {oc_is_name kV_is_name dc_is_name pm_is_name cd_is_name ct_is_name : Value}
    {f_is_times : Addr} {od_is_times an_is_times : Option Addr} {sl_is_times : Array (Option Value)} {oc_is_times kV_is_times dc_is_times pm_is_times cd_is_times ct_is_times : Value}
    {f_is_deed : Addr} {od_is_deed an_is_deed : Option Addr} {sl_is_deed : Array (Option Value)} {oc_is_deed kV_is_deed dc_is_deed pm_is_deed cd_is_deed ct_is_deed : Value}
    {f_is_block : Addr} {od_is_block an_is_block : Option Addr} {sl_is_block : Array (Option Value)} {oc_is_block kV_is_block dc_is_block pm_is_block cd_is_block ct_is_block : Value}
    {f_is_rates : Addr} {od_is_rates an_is_rates : Option Addr} {sl_is_rates : Array (Option Value)} {oc_is_rates kV_is_rates dc_is_rates pm_is_rates cd_is_rates ct_is_rates : Value}
    {f_is_start : Addr} {od_is_start an_is_start : Option Addr} {sl_is_start : Array (Option Value)} {oc_is_start kV_is_start dc_is_start pm_is_start cd_is_start ct_is_start : Value}
    {f_is_queue : Addr} {od_is_queue an_is_queue : Option Addr} {sl_is_queue : Array (Option Value)} {oc_is_queue kV_is_queue dc_is_queue pm_is_queue cd_is_queue ct_is_queue : Value}
    {f_is_graph : Addr} {od_is_graph an_is_graph : Option Addr} {sl_is_graph : Array (Option Value)} {oc_is_graph kV_is_graph dc_is_graph pm_is_graph cd_is_graph ct_is_graph : Value}
    {f_check_graph : Addr} {od_check_graph an_check_graph : Option Addr} {sl_check_graph : Array (Option Value)} {oc_check_graph kV_check_graph dc_check_graph pm_check_graph cd_check_graph ct_check_graph : Value}
    {f_is_place : Addr} {od_is_place an_is_place : Option Addr} {sl_is_place : Array (Option Value)} {oc_is_place kV_is_place dc_is_place pm_is_place cd_is_place ct_is_place : Value}
    {f_phases : Addr} {od_phases an_phases : Option Addr} {sl_phases : Array (Option Value)} {oc_phases kV_phases dc_phases pm_phases cd_phases ct_phases : Value}
    {f_check_block : Addr} {od_check_block an_check_block : Option Addr} {sl_check_block : Array (Option Value)} {oc_check_block kV_check_block dc_check_block pm_check_block cd_check_block ct_check_block : Value}
    {f_check_queue : Addr} {od_check_queue an_check_queue : Option Addr} {sl_check_queue : Array (Option Value)} {oc_check_queue kV_check_queue dc_check_queue pm_check_queue cd_check_queue ct_check_queue : Value}
    {f_sum_before : Addr} {od_sum_before an_sum_before : Option Addr} {sl_sum_before : Array (Option Value)} {oc_sum_before kV_sum_before dc_sum_before pm_sum_before cd_sum_before ct_sum_before : Value}
    {f_firing_with : Addr} {od_firing_with an_firing_with : Option Addr} {sl_firing_with : Array (Option Value)} {oc_firing_with kV_firing_with dc_firing_with pm_firing_with cd_firing_with ct_firing_with : Value}
    {f_incoming : Addr} {od_incoming an_incoming : Option Addr} {sl_incoming : Array (Option Value)} {oc_incoming kV_incoming dc_incoming pm_incoming cd_incoming ct_incoming : Value}
    {f_outgoing : Addr} {od_outgoing an_outgoing : Option Addr} {sl_outgoing : Array (Option Value)} {oc_outgoing kV_outgoing dc_outgoing pm_outgoing cd_outgoing ct_outgoing : Value}
    {f_into : Addr} {od_into an_into : Option Addr} {sl_into : Array (Option Value)} {oc_into kV_into dc_into pm_into cd_into ct_into : Value}
    {f_out_of : Addr} {od_out_of an_out_of : Option Addr} {sl_out_of : Array (Option Value)} {oc_out_of kV_out_of dc_out_of pm_out_of cd_out_of ct_out_of : Value}
    {f_given_before : Addr} {od_given_before an_given_before : Option Addr} {sl_given_before : Array (Option Value)} {oc_given_before kV_given_before dc_given_before pm_given_before cd_given_before ct_given_before : Value}
    {f_taken_before : Addr} {od_taken_before an_taken_before : Option Addr} {sl_taken_before : Array (Option Value)} {oc_taken_before kV_taken_before dc_taken_before pm_taken_before cd_taken_before ct_taken_before : Value}
    {f_producer : Addr} {od_producer an_producer : Option Addr} {sl_producer : Array (Option Value)} {oc_producer kV_producer dc_producer pm_producer cd_producer ct_producer : Value}
    {f_L_begin : Addr} {od_L_begin an_L_begin : Option Addr} {sl_L_begin : Array (Option Value)} {oc_L_begin kV_L_begin dc_L_begin pm_L_begin cd_L_begin ct_L_begin : Value}
    {f_L_draw : Addr} {od_L_draw an_L_draw : Option Addr} {sl_L_draw : Array (Option Value)} {oc_L_draw kV_L_draw dc_L_draw pm_L_draw cd_L_draw ct_L_draw : Value}
    {f_L_pick : Addr} {od_L_pick an_L_pick : Option Addr} {sl_L_pick : Array (Option Value)} {oc_L_pick kV_L_pick dc_L_pick pm_L_pick cd_L_pick ct_L_pick : Value}
    {f_L_pop : Addr} {od_L_pop an_L_pop : Option Addr} {sl_L_pop : Array (Option Value)} {oc_L_pop kV_L_pop dc_L_pop pm_L_pop cd_L_pop ct_L_pop : Value}
    {f_L_rare : Addr} {od_L_rare an_L_rare : Option Addr} {sl_L_rare : Array (Option Value)} {oc_L_rare kV_L_rare dc_L_rare pm_L_rare cd_L_rare ct_L_rare : Value}
    {f_L_pool : Addr} {od_L_pool an_L_pool : Option Addr} {sl_L_pool : Array (Option Value)} {oc_L_pool kV_L_pool dc_L_pool pm_L_pool cd_L_pool ct_L_pool : Value}
    {f_L_is_int : Addr} {od_L_is_int an_L_is_int : Option Addr} {sl_L_is_int : Array (Option Value)} {oc_L_is_int kV_L_is_int dc_L_is_int pm_L_is_int cd_L_is_int ct_L_is_int : Value}
    {f_L_is_ints : Addr} {od_L_is_ints an_L_is_ints : Option Addr} {sl_L_is_ints : Array (Option Value)} {oc_L_is_ints kV_L_is_ints dc_L_is_ints pm_L_is_ints cd_L_is_ints ct_L_is_ints : Value}
    {f_L_token : Addr} {od_L_token an_L_token : Option Addr} {sl_L_token : Array (Option Value)} {oc_L_token kV_L_token dc_L_token pm_L_token cd_L_token ct_L_token : Value}
    {f_L_tokens : Addr} {od_L_tokens an_L_tokens : Option Addr} {sl_L_tokens : Array (Option Value)} {oc_L_tokens kV_L_tokens dc_L_tokens pm_L_tokens cd_L_tokens ct_L_tokens : Value}
    {f_L_before : Addr} {od_L_before an_L_before : Option Addr} {sl_L_before : Array (Option Value)} {oc_L_before kV_L_before dc_L_before pm_L_before cd_L_before ct_L_before : Value}
    {f_L_row : Addr} {od_L_row an_L_row : Option Addr} {sl_L_row : Array (Option Value)} {oc_L_row kV_L_row dc_L_row pm_L_row cd_L_row ct_L_row : Value}
    {f_L_made : Addr} {od_L_made an_L_made : Option Addr} {sl_L_made : Array (Option Value)} {oc_L_made kV_L_made dc_L_made pm_L_made cd_L_made ct_L_made : Value}
    {f_L_number : Addr} {od_L_number an_L_number : Option Addr} {sl_L_number : Array (Option Value)} {oc_L_number kV_L_number dc_L_number pm_L_number cd_L_number ct_L_number : Value}
    {f_L_sum : Addr} {od_L_sum an_L_sum : Option Addr} {sl_L_sum : Array (Option Value)} {oc_L_sum kV_L_sum dc_L_sum pm_L_sum cd_L_sum ct_L_sum : Value}
    {f_L_right : Addr} {od_L_right an_L_right : Option Addr} {sl_L_right : Array (Option Value)} {oc_L_right kV_L_right dc_L_right pm_L_right cd_L_right ct_L_right : Value}
    {f_L_told : Addr} {od_L_told an_L_told : Option Addr} {sl_L_told : Array (Option Value)} {oc_L_told kV_L_told dc_L_told pm_L_told cd_L_told ct_L_told : Value}
    {f_L_block_refused : Addr} {od_L_block_refused an_L_block_refused : Option Addr} {sl_L_block_refused : Array (Option Value)} {oc_L_block_refused kV_L_block_refused dc_L_block_refused pm_L_block_refused cd_L_block_refused ct_L_block_refused : Value}
    {f_L_ends : Addr} {od_L_ends an_L_ends : Option Addr} {sl_L_ends : Array (Option Value)} {oc_L_ends kV_L_ends dc_L_ends pm_L_ends cd_L_ends ct_L_ends : Value}
    {f_L_turn : Addr} {od_L_turn an_L_turn : Option Addr} {sl_L_turn : Array (Option Value)} {oc_L_turn kV_L_turn dc_L_turn pm_L_turn cd_L_turn ct_L_turn : Value}
    {f_L_refused : Addr} {od_L_refused an_L_refused : Option Addr} {sl_L_refused : Array (Option Value)} {oc_L_refused kV_L_refused dc_L_refused pm_L_refused cd_L_refused ct_L_refused : Value}
    {f_L_in : Addr} {od_L_in an_L_in : Option Addr} {sl_L_in : Array (Option Value)} {oc_L_in kV_L_in dc_L_in pm_L_in cd_L_in ct_L_in : Value}
    {f_L_row_in : Addr} {od_L_row_in an_L_row_in : Option Addr} {sl_L_row_in : Array (Option Value)} {oc_L_row_in kV_L_row_in dc_L_row_in pm_L_row_in cd_L_row_in ct_L_row_in : Value}
    {f_L_named : Addr} {od_L_named an_L_named : Option Addr} {sl_L_named : Array (Option Value)} {oc_L_named kV_L_named dc_L_named pm_L_named cd_L_named ct_L_named : Value}
    {f_L_block_due : Addr} {od_L_block_due an_L_block_due : Option Addr} {sl_L_block_due : Array (Option Value)} {oc_L_block_due kV_L_block_due dc_L_block_due pm_L_block_due cd_L_block_due ct_L_block_due : Value}
    {f_L_queue_due : Addr} {od_L_queue_due an_L_queue_due : Option Addr} {sl_L_queue_due : Array (Option Value)} {oc_L_queue_due kV_L_queue_due dc_L_queue_due pm_L_queue_due cd_L_queue_due ct_L_queue_due : Value}
    {f_L_graph_due : Addr} {od_L_graph_due an_L_graph_due : Option Addr} {sl_L_graph_due : Array (Option Value)} {oc_L_graph_due kV_L_graph_due dc_L_graph_due pm_L_graph_due cd_L_graph_due ct_L_graph_due : Value}
    {f_L_row_spoilt : Addr} {od_L_row_spoilt an_L_row_spoilt : Option Addr} {sl_L_row_spoilt : Array (Option Value)} {oc_L_row_spoilt kV_L_row_spoilt dc_L_row_spoilt pm_L_row_spoilt cd_L_row_spoilt ct_L_row_spoilt : Value}
    {f_L_name_spoilt : Addr} {od_L_name_spoilt an_L_name_spoilt : Option Addr} {sl_L_name_spoilt : Array (Option Value)} {oc_L_name_spoilt kV_L_name_spoilt dc_L_name_spoilt pm_L_name_spoilt cd_L_name_spoilt ct_L_name_spoilt : Value}
    {f_L_block_spoilt : Addr} {od_L_block_spoilt an_L_block_spoilt : Option Addr} {sl_L_block_spoilt : Array (Option Value)} {oc_L_block_spoilt kV_L_block_spoilt dc_L_block_spoilt pm_L_block_spoilt cd_L_block_spoilt ct_L_block_spoilt : Value}
    {f_L_queue_spoilt : Addr} {od_L_queue_spoilt an_L_queue_spoilt : Option Addr} {sl_L_queue_spoilt : Array (Option Value)} {oc_L_queue_spoilt kV_L_queue_spoilt dc_L_queue_spoilt pm_L_queue_spoilt cd_L_queue_spoilt ct_L_queue_spoilt : Value}
    {f_L_graph_spoilt : Addr} {od_L_graph_spoilt an_L_graph_spoilt : Option Addr} {sl_L_graph_spoilt : Array (Option Value)} {oc_L_graph_spoilt kV_L_graph_spoilt dc_L_graph_spoilt pm_L_graph_spoilt cd_L_graph_spoilt ct_L_graph_spoilt : Value}
    {f_L_door : Addr} {od_L_door an_L_door : Option Addr} {sl_L_door : Array (Option Value)} {oc_L_door kV_L_door dc_L_door pm_L_door cd_L_door ct_L_door : Value}
    {f_L_same : Addr} {od_L_same an_L_same : Option Addr} {sl_L_same : Array (Option Value)} {oc_L_same kV_L_same dc_L_same pm_L_same cd_L_same ct_L_same : Value}
    {f_L_kinds : Addr} {od_L_kinds an_L_kinds : Option Addr} {sl_L_kinds : Array (Option Value)} {oc_L_kinds kV_L_kinds dc_L_kinds pm_L_kinds cd_L_kinds ct_L_kinds : Value}
    {f_L_graphs : Addr} {od_L_graphs an_L_graphs : Option Addr} {sl_L_graphs : Array (Option Value)} {oc_L_graphs kV_L_graphs dc_L_graphs pm_L_graphs cd_L_graphs ct_L_graphs : Value}
    {f_law : Addr} {od_law an_law : Option Addr} {sl_law : Array (Option Value)} {oc_law kV_law dc_law pm_law cd_law ct_law : Value}
    (z_ValueError : PySem.W.nsIn K mainGlobals "ValueError" = some none)
    (z_abs : PySem.W.nsIn K mainGlobals "abs" = some none)
    (z_all : PySem.W.nsIn K mainGlobals "all" = some none)
    (z_any : PySem.W.nsIn K mainGlobals "any" = some none)
    (z_bool : PySem.W.nsIn K mainGlobals "bool" = some none)
    (z_enumerate : PySem.W.nsIn K mainGlobals "enumerate" = some none)
    (z_int : PySem.W.nsIn K mainGlobals "int" = some none)
    (z_isinstance : PySem.W.nsIn K mainGlobals "isinstance" = some none)
    (z_len : PySem.W.nsIn K mainGlobals "len" = some none)
    (z_list : PySem.W.nsIn K mainGlobals "list" = some none)
    (z_range : PySem.W.nsIn K mainGlobals "range" = some none)
    (z_str : PySem.W.nsIn K mainGlobals "str" = some none)
    (z_sum : PySem.W.nsIn K mainGlobals "sum" = some none)
    (z_tuple : PySem.W.nsIn K mainGlobals "tuple" = some none)
    (v_FAR : PySem.W.nsIn K mainGlobals "FAR" = some (some (.int (1000000) t_FAR)))
    (v_LETTERS : PySem.W.nsIn K mainGlobals "LETTERS" = some (some (.str "abcdefghijklmnopqrstuvwxyz" t_LETTERS)))
    (v_MODULUS : PySem.W.nsIn K mainGlobals "MODULUS" = some (some (.int (9973) t_MODULUS)))
    (v_MOST_BLOCKS : PySem.W.nsIn K mainGlobals "MOST_BLOCKS" = some (some (.int (60) t_MOST_BLOCKS)))
    (v_MOST_NAME : PySem.W.nsIn K mainGlobals "MOST_NAME" = some (some (.int (16) t_MOST_NAME)))
    (v_MOST_PHASES : PySem.W.nsIn K mainGlobals "MOST_PHASES" = some (some (.int (6) t_MOST_PHASES)))
    (v_MOST_QUEUES : PySem.W.nsIn K mainGlobals "MOST_QUEUES" = some (some (.int (160) t_MOST_QUEUES)))
    (v_MOST_RATE : PySem.W.nsIn K mainGlobals "MOST_RATE" = some (some (.int (12) t_MOST_RATE)))
    (v_MOST_START : PySem.W.nsIn K mainGlobals "MOST_START" = some (some (.int (60) t_MOST_START)))
    (v_MOST_TIME : PySem.W.nsIn K mainGlobals "MOST_TIME" = some (some (.int (60) t_MOST_TIME)))
    (v_SIGNS : PySem.W.nsIn K mainGlobals "SIGNS" = some (some (.str "abcdefghijklmnopqrstuvwxyz0123456789_." t_SIGNS)))
    (w_BadThing : PySem.W.nsIn K mainGlobals "BadThing" = some (some (.ref aBadThing)))
    (w_RateError : PySem.W.nsIn K mainGlobals "RateError" = some (some (.ref aRateError)))
    (z_super : PySem.W.nsIn K mainGlobals "super" = some none)
    (zth_any : PySem.W.nsIn K cStatics "thirdparty.any" = some none)
    (hn0 : PySem.W.specialIn K (.builtin "object.__class__") "__get__" = some (some (.builtin "getset_descriptor.__get__")))
    (ht0 : PySem.W.takesIn K (.builtin "object.__class__") = some true)
    (eC_BadThing : PySem.W.subIn K (.ref aBadThing) (.type "BaseException") = some true)
    (tC_BadThing : PySem.W.typeIn K (.ref aBadThing) = some (.type "type"))
    (hC_BadThing : PySem.W.hasDictIn K aBadThing = true)
    (eC_RateError : PySem.W.subIn K (.ref aRateError) (.type "BaseException") = some true)
    (tC_RateError : PySem.W.typeIn K (.ref aRateError) = some (.type "type"))
    (hC_RateError : PySem.W.hasDictIn K aRateError = true)
    (ga_BadThing : PySem.W.findIn K (.ref aBadThing) "__getattribute__" = some (some (.builtin "BaseException.__getattribute__")))
    (gg_BadThing : PySem.W.findIn K (.ref aBadThing) "__getattr__" = some none)
    (gc_BadThing : PySem.W.findIn K (.ref aBadThing) "__class__" = some (some (.builtin "object.__class__")))
    (mo_BadThing : PySem.W.mroIn K aBadThing (.type "object") = some true)
    (ij_BadThing : PySem.W.findIn K (.ref aBadThing) "__init__" = some (some (.ref iBadThing)))
    (li_BadThing : K.lookup iBadThing = some ⟨ocBadThing, odBadThing, .func (PySem.W.ksFn "__init__" "BadThing.__init__" (defArgs (inClass (tS 2) 0)) (defBody (inClass (tS 2) 0)) (defScope (inClass (tS 2) 0)) .none kVBadThing dcBadThing pmBadThing anBadThing (.ref cdaBadThing) ctBadThing ccBadThing), slBadThing⟩)
    (ci_BadThing : PySem.W.codeIn K (.ref cdaBadThing) "BadThing.__init__" = true)
    (co_BadThing : K.lookup cdaBadThing = some ⟨cclBadThing, odcBadThing, .fields vsBadThing, ccsBadThing⟩)
    (vf_BadThing : vsBadThing[2]? = some (.str fileBadThing tfBadThing))
    (ff_BadThing : ((PySem.Challenge.rw_ratewarrant_k04_rates_before_and_makers.prog.main.file : Str) == fileBadThing) = true)
    (cx_BadThing : K.lookup ccBadThing = some ⟨clBadThing, cldBadThing, .cell (some (.ref aBadThing)), cslBadThing⟩)
    (ti_BadThing : PySem.W.typeIn K (.ref iBadThing) = some (.type "function"))
    (xL_BadThing : K.lookup aBadThing = some (excClassObj nmBadThing qBadThing aBadThing NBadThing bsBadThing bmBadThing true snBadThing subBadThing abBadThing colBadThing ddBadThing m0BadThing m1BadThing m2BadThing m3BadThing m5BadThing "ValueError.__new__"))
    (rf_BadThing : PySem.HandSPX.refsVE bmBadThing = true)
    (sa_BadThing : PySem.W.findIn K (.ref aBadThing) "__setattr__" = some (some (.builtin "object.__setattr__")))
    (kC_BadThing : PySem.W.keepIn K (.ref aBadThing) = true)
    (mi_BadThing : PySem.W.mroIn K aBadThing (.ref aBadThing) = some true)
    (su_BadThing : PySem.W.ks_superIn K aBadThing aBadThing "__init__" = some (some (.builtin "ValueError.__init__")))
    (ve_BadThing : PySem.W.subIn K (.ref aBadThing) (.type "ValueError") = some true)
    (ii_BadThing : PySem.W.findIn K (.ref aBadThing) "__init__" = some (some (.ref iBadThing)))
    (nf_BadThing_part : PySem.W.findIn K (.ref aBadThing) "part" = some none)
    (sb_BadThing_BadThing : PySem.W.subIn K (.ref aBadThing) (.ref aBadThing) = some true)
    (sb_BadThing_RateError : PySem.W.subIn K (.ref aBadThing) (.ref aRateError) = some true)
    (kt_BadThing_RateError : PySem.W.kitOne K (.ref aBadThing) (.ref aRateError) = some true)
    (kt_BadThing_ValueError : PySem.W.kitOne K (.ref aBadThing) (.type "ValueError") = some true)
    (n_whole : PySem.W.nsIn K mainGlobals "whole" = some (some (.ref f_whole)))
    (l_whole : K.lookup f_whole = some ⟨oc_whole, od_whole, .func (PySem.W.fnOf "whole" "whole" (defArgs (tS 14)) (defBody (tS 14)) (defScope (tS 14)) .none kV_whole dc_whole pm_whole an_whole cd_whole ct_whole), sl_whole⟩)
    (d_whole : PySem.W.codeIn K cd_whole "whole" = true)
    (k_whole : PySem.W.keepIn K (.ref f_whole) = true)
    (n_is_numbers : PySem.W.nsIn K mainGlobals "is_numbers" = some (some (.ref f_is_numbers)))
    (l_is_numbers : K.lookup f_is_numbers = some ⟨oc_is_numbers, od_is_numbers, .func (PySem.W.fnOf "is_numbers" "is_numbers" (defArgs (tS 15)) (defBody (tS 15)) (defScope (tS 15)) .none kV_is_numbers dc_is_numbers pm_is_numbers an_is_numbers cd_is_numbers ct_is_numbers), sl_is_numbers⟩)
    (d_is_numbers : PySem.W.codeIn K cd_is_numbers "is_numbers" = true)
    (k_is_numbers : PySem.W.keepIn K (.ref f_is_numbers) = true)
    (n_is_name : PySem.W.nsIn K mainGlobals "is_name" = some (some (.ref f_is_name)))
    (l_is_name : K.lookup f_is_name = some ⟨oc_is_name, od_is_name, .func (PySem.W.fnOf "is_name" "is_name" (defArgs (tS 16)) (defBody (tS 16)) (defScope (tS 16)) .none kV_is_name dc_is_name pm_is_name an_is_name cd_is_name ct_is_name), sl_is_name⟩)
    (d_is_name : PySem.W.codeIn K cd_is_name "is_name" = true)
    (k_is_name : PySem.W.keepIn K (.ref f_is_name) = true)
    (n_is_times : PySem.W.nsIn K mainGlobals "is_times" = some (some (.ref f_is_times)))
    (l_is_times : K.lookup f_is_times = some ⟨oc_is_times, od_is_times, .func (PySem.W.fnOf "is_times" "is_times" (defArgs (tS 17)) (defBody (tS 17)) (defScope (tS 17)) .none kV_is_times dc_is_times pm_is_times an_is_times cd_is_times ct_is_times), sl_is_times⟩)
    (d_is_times : PySem.W.codeIn K cd_is_times "is_times" = true)
    (k_is_times : PySem.W.keepIn K (.ref f_is_times) = true)
    (n_is_deed : PySem.W.nsIn K mainGlobals "is_deed" = some (some (.ref f_is_deed)))
    (l_is_deed : K.lookup f_is_deed = some ⟨oc_is_deed, od_is_deed, .func (PySem.W.fnOf "is_deed" "is_deed" (defArgs (tS 18)) (defBody (tS 18)) (defScope (tS 18)) .none kV_is_deed dc_is_deed pm_is_deed an_is_deed cd_is_deed ct_is_deed), sl_is_deed⟩)
    (d_is_deed : PySem.W.codeIn K cd_is_deed "is_deed" = true)
    (k_is_deed : PySem.W.keepIn K (.ref f_is_deed) = true)
    (n_is_block : PySem.W.nsIn K mainGlobals "is_block" = some (some (.ref f_is_block)))
    (l_is_block : K.lookup f_is_block = some ⟨oc_is_block, od_is_block, .func (PySem.W.fnOf "is_block" "is_block" (defArgs (tS 19)) (defBody (tS 19)) (defScope (tS 19)) .none kV_is_block dc_is_block pm_is_block an_is_block cd_is_block ct_is_block), sl_is_block⟩)
    (d_is_block : PySem.W.codeIn K cd_is_block "is_block" = true)
    (k_is_block : PySem.W.keepIn K (.ref f_is_block) = true)
    (n_is_rates : PySem.W.nsIn K mainGlobals "is_rates" = some (some (.ref f_is_rates)))
    (l_is_rates : K.lookup f_is_rates = some ⟨oc_is_rates, od_is_rates, .func (PySem.W.fnOf "is_rates" "is_rates" (defArgs (tS 20)) (defBody (tS 20)) (defScope (tS 20)) .none kV_is_rates dc_is_rates pm_is_rates an_is_rates cd_is_rates ct_is_rates), sl_is_rates⟩)
    (d_is_rates : PySem.W.codeIn K cd_is_rates "is_rates" = true)
    (k_is_rates : PySem.W.keepIn K (.ref f_is_rates) = true)
    (n_is_start : PySem.W.nsIn K mainGlobals "is_start" = some (some (.ref f_is_start)))
    (l_is_start : K.lookup f_is_start = some ⟨oc_is_start, od_is_start, .func (PySem.W.fnOf "is_start" "is_start" (defArgs (tS 21)) (defBody (tS 21)) (defScope (tS 21)) .none kV_is_start dc_is_start pm_is_start an_is_start cd_is_start ct_is_start), sl_is_start⟩)
    (d_is_start : PySem.W.codeIn K cd_is_start "is_start" = true)
    (k_is_start : PySem.W.keepIn K (.ref f_is_start) = true)
    (n_is_queue : PySem.W.nsIn K mainGlobals "is_queue" = some (some (.ref f_is_queue)))
    (l_is_queue : K.lookup f_is_queue = some ⟨oc_is_queue, od_is_queue, .func (PySem.W.fnOf "is_queue" "is_queue" (defArgs (tS 22)) (defBody (tS 22)) (defScope (tS 22)) .none kV_is_queue dc_is_queue pm_is_queue an_is_queue cd_is_queue ct_is_queue), sl_is_queue⟩)
    (d_is_queue : PySem.W.codeIn K cd_is_queue "is_queue" = true)
    (k_is_queue : PySem.W.keepIn K (.ref f_is_queue) = true)
    (n_is_graph : PySem.W.nsIn K mainGlobals "is_graph" = some (some (.ref f_is_graph)))
    (l_is_graph : K.lookup f_is_graph = some ⟨oc_is_graph, od_is_graph, .func (PySem.W.fnOf "is_graph" "is_graph" (defArgs (tS 23)) (defBody (tS 23)) (defScope (tS 23)) .none kV_is_graph dc_is_graph pm_is_graph an_is_graph cd_is_graph ct_is_graph), sl_is_graph⟩)
    (d_is_graph : PySem.W.codeIn K cd_is_graph "is_graph" = true)
    (k_is_graph : PySem.W.keepIn K (.ref f_is_graph) = true)
    (n_check_graph : PySem.W.nsIn K mainGlobals "check_graph" = some (some (.ref f_check_graph)))
    (l_check_graph : K.lookup f_check_graph = some ⟨oc_check_graph, od_check_graph, .func (PySem.W.fnOf "check_graph" "check_graph" (defArgs (tS 24)) (defBody (tS 24)) (defScope (tS 24)) .none kV_check_graph dc_check_graph pm_check_graph an_check_graph cd_check_graph ct_check_graph), sl_check_graph⟩)
    (d_check_graph : PySem.W.codeIn K cd_check_graph "check_graph" = true)
    (k_check_graph : PySem.W.keepIn K (.ref f_check_graph) = true)
    (n_is_place : PySem.W.nsIn K mainGlobals "is_place" = some (some (.ref f_is_place)))
    (l_is_place : K.lookup f_is_place = some ⟨oc_is_place, od_is_place, .func (PySem.W.fnOf "is_place" "is_place" (defArgs (tS 25)) (defBody (tS 25)) (defScope (tS 25)) .none kV_is_place dc_is_place pm_is_place an_is_place cd_is_place ct_is_place), sl_is_place⟩)
    (d_is_place : PySem.W.codeIn K cd_is_place "is_place" = true)
    (k_is_place : PySem.W.keepIn K (.ref f_is_place) = true)
    (n_phases : PySem.W.nsIn K mainGlobals "phases" = some (some (.ref f_phases)))
    (l_phases : K.lookup f_phases = some ⟨oc_phases, od_phases, .func (PySem.W.fnOf "phases" "phases" (defArgs (tS 28)) (defBody (tS 28)) (defScope (tS 28)) .none kV_phases dc_phases pm_phases an_phases cd_phases ct_phases), sl_phases⟩)
    (d_phases : PySem.W.codeIn K cd_phases "phases" = true)
    (k_phases : PySem.W.keepIn K (.ref f_phases) = true)
    (n_check_block : PySem.W.nsIn K mainGlobals "check_block" = some (some (.ref f_check_block)))
    (l_check_block : K.lookup f_check_block = some ⟨oc_check_block, od_check_block, .func (PySem.W.fnOf "check_block" "check_block" (defArgs (tS 29)) (defBody (tS 29)) (defScope (tS 29)) .none kV_check_block dc_check_block pm_check_block an_check_block cd_check_block ct_check_block), sl_check_block⟩)
    (d_check_block : PySem.W.codeIn K cd_check_block "check_block" = true)
    (k_check_block : PySem.W.keepIn K (.ref f_check_block) = true)
    (n_check_queue : PySem.W.nsIn K mainGlobals "check_queue" = some (some (.ref f_check_queue)))
    (l_check_queue : K.lookup f_check_queue = some ⟨oc_check_queue, od_check_queue, .func (PySem.W.fnOf "check_queue" "check_queue" (defArgs (tS 30)) (defBody (tS 30)) (defScope (tS 30)) .none kV_check_queue dc_check_queue pm_check_queue an_check_queue cd_check_queue ct_check_queue), sl_check_queue⟩)
    (d_check_queue : PySem.W.codeIn K cd_check_queue "check_queue" = true)
    (k_check_queue : PySem.W.keepIn K (.ref f_check_queue) = true)
    (n_sum_before : PySem.W.nsIn K mainGlobals "sum_before" = some (some (.ref f_sum_before)))
    (l_sum_before : K.lookup f_sum_before = some ⟨oc_sum_before, od_sum_before, .func (PySem.W.fnOf "sum_before" "sum_before" (defArgs (tS 31)) (defBody (tS 31)) (defScope (tS 31)) .none kV_sum_before dc_sum_before pm_sum_before an_sum_before cd_sum_before ct_sum_before), sl_sum_before⟩)
    (d_sum_before : PySem.W.codeIn K cd_sum_before "sum_before" = true)
    (k_sum_before : PySem.W.keepIn K (.ref f_sum_before) = true)
    (n_firing_with : PySem.W.nsIn K mainGlobals "firing_with" = some (some (.ref f_firing_with)))
    (l_firing_with : K.lookup f_firing_with = some ⟨oc_firing_with, od_firing_with, .func (PySem.W.fnOf "firing_with" "firing_with" (defArgs (tS 32)) (defBody (tS 32)) (defScope (tS 32)) .none kV_firing_with dc_firing_with pm_firing_with an_firing_with cd_firing_with ct_firing_with), sl_firing_with⟩)
    (d_firing_with : PySem.W.codeIn K cd_firing_with "firing_with" = true)
    (k_firing_with : PySem.W.keepIn K (.ref f_firing_with) = true)
    (n_incoming : PySem.W.nsIn K mainGlobals "incoming" = some (some (.ref f_incoming)))
    (l_incoming : K.lookup f_incoming = some ⟨oc_incoming, od_incoming, .func (PySem.W.fnOf "incoming" "incoming" (defArgs (tS 33)) (defBody (tS 33)) (defScope (tS 33)) .none kV_incoming dc_incoming pm_incoming an_incoming cd_incoming ct_incoming), sl_incoming⟩)
    (d_incoming : PySem.W.codeIn K cd_incoming "incoming" = true)
    (k_incoming : PySem.W.keepIn K (.ref f_incoming) = true)
    (n_outgoing : PySem.W.nsIn K mainGlobals "outgoing" = some (some (.ref f_outgoing)))
    (l_outgoing : K.lookup f_outgoing = some ⟨oc_outgoing, od_outgoing, .func (PySem.W.fnOf "outgoing" "outgoing" (defArgs (tS 34)) (defBody (tS 34)) (defScope (tS 34)) .none kV_outgoing dc_outgoing pm_outgoing an_outgoing cd_outgoing ct_outgoing), sl_outgoing⟩)
    (d_outgoing : PySem.W.codeIn K cd_outgoing "outgoing" = true)
    (k_outgoing : PySem.W.keepIn K (.ref f_outgoing) = true)
    (n_into : PySem.W.nsIn K mainGlobals "into" = some (some (.ref f_into)))
    (l_into : K.lookup f_into = some ⟨oc_into, od_into, .func (PySem.W.fnOf "into" "into" (defArgs (tS 35)) (defBody (tS 35)) (defScope (tS 35)) .none kV_into dc_into pm_into an_into cd_into ct_into), sl_into⟩)
    (d_into : PySem.W.codeIn K cd_into "into" = true)
    (k_into : PySem.W.keepIn K (.ref f_into) = true)
    (n_out_of : PySem.W.nsIn K mainGlobals "out_of" = some (some (.ref f_out_of)))
    (l_out_of : K.lookup f_out_of = some ⟨oc_out_of, od_out_of, .func (PySem.W.fnOf "out_of" "out_of" (defArgs (tS 36)) (defBody (tS 36)) (defScope (tS 36)) .none kV_out_of dc_out_of pm_out_of an_out_of cd_out_of ct_out_of), sl_out_of⟩)
    (d_out_of : PySem.W.codeIn K cd_out_of "out_of" = true)
    (k_out_of : PySem.W.keepIn K (.ref f_out_of) = true)
    (n_given_before : PySem.W.nsIn K mainGlobals "given_before" = some (some (.ref f_given_before)))
    (l_given_before : K.lookup f_given_before = some ⟨oc_given_before, od_given_before, .func (PySem.W.fnOf "given_before" "given_before" (defArgs (tS 37)) (defBody (tS 37)) (defScope (tS 37)) .none kV_given_before dc_given_before pm_given_before an_given_before cd_given_before ct_given_before), sl_given_before⟩)
    (d_given_before : PySem.W.codeIn K cd_given_before "given_before" = true)
    (k_given_before : PySem.W.keepIn K (.ref f_given_before) = true)
    (n_taken_before : PySem.W.nsIn K mainGlobals "taken_before" = some (some (.ref f_taken_before)))
    (l_taken_before : K.lookup f_taken_before = some ⟨oc_taken_before, od_taken_before, .func (PySem.W.fnOf "taken_before" "taken_before" (defArgs (tS 38)) (defBody (tS 38)) (defScope (tS 38)) .none kV_taken_before dc_taken_before pm_taken_before an_taken_before cd_taken_before ct_taken_before), sl_taken_before⟩)
    (d_taken_before : PySem.W.codeIn K cd_taken_before "taken_before" = true)
    (k_taken_before : PySem.W.keepIn K (.ref f_taken_before) = true)
    (n_producer : PySem.W.nsIn K mainGlobals "producer" = some (some (.ref f_producer)))
    (l_producer : K.lookup f_producer = some ⟨oc_producer, od_producer, .func (PySem.W.fnOf "producer" "producer" (defArgs (tS 39)) (defBody (tS 39)) (defScope (tS 39)) .none kV_producer dc_producer pm_producer an_producer cd_producer ct_producer), sl_producer⟩)
    (d_producer : PySem.W.codeIn K cd_producer "producer" = true)
    (k_producer : PySem.W.keepIn K (.ref f_producer) = true)
    (n_L_begin : PySem.W.nsIn K mainGlobals "_law_begin" = some (some (.ref f_L_begin)))
    (l_L_begin : K.lookup f_L_begin = some ⟨oc_L_begin, od_L_begin, .func (PySem.W.fnOf "_law_begin" "_law_begin" (defArgs (tS 41)) (defBody (tS 41)) (defScope (tS 41)) .none kV_L_begin dc_L_begin pm_L_begin an_L_begin cd_L_begin ct_L_begin), sl_L_begin⟩)
    (d_L_begin : PySem.W.codeIn K cd_L_begin "_law_begin" = true)
    (k_L_begin : PySem.W.keepIn K (.ref f_L_begin) = true)
    (n_L_draw : PySem.W.nsIn K mainGlobals "_law_draw" = some (some (.ref f_L_draw)))
    (l_L_draw : K.lookup f_L_draw = some ⟨oc_L_draw, od_L_draw, .func (PySem.W.fnOf "_law_draw" "_law_draw" (defArgs (tS 42)) (defBody (tS 42)) (defScope (tS 42)) .none kV_L_draw dc_L_draw pm_L_draw an_L_draw cd_L_draw ct_L_draw), sl_L_draw⟩)
    (d_L_draw : PySem.W.codeIn K cd_L_draw "_law_draw" = true)
    (k_L_draw : PySem.W.keepIn K (.ref f_L_draw) = true)
    (n_L_pick : PySem.W.nsIn K mainGlobals "_law_pick" = some (some (.ref f_L_pick)))
    (l_L_pick : K.lookup f_L_pick = some ⟨oc_L_pick, od_L_pick, .func (PySem.W.fnOf "_law_pick" "_law_pick" (defArgs (tS 43)) (defBody (tS 43)) (defScope (tS 43)) .none kV_L_pick dc_L_pick pm_L_pick an_L_pick cd_L_pick ct_L_pick), sl_L_pick⟩)
    (d_L_pick : PySem.W.codeIn K cd_L_pick "_law_pick" = true)
    (k_L_pick : PySem.W.keepIn K (.ref f_L_pick) = true)
    (n_L_pop : PySem.W.nsIn K mainGlobals "_law_pop" = some (some (.ref f_L_pop)))
    (l_L_pop : K.lookup f_L_pop = some ⟨oc_L_pop, od_L_pop, .func (PySem.W.fnOf "_law_pop" "_law_pop" (defArgs (tS 44)) (defBody (tS 44)) (defScope (tS 44)) .none kV_L_pop dc_L_pop pm_L_pop an_L_pop cd_L_pop ct_L_pop), sl_L_pop⟩)
    (d_L_pop : PySem.W.codeIn K cd_L_pop "_law_pop" = true)
    (k_L_pop : PySem.W.keepIn K (.ref f_L_pop) = true)
    (n_L_rare : PySem.W.nsIn K mainGlobals "_law_rare" = some (some (.ref f_L_rare)))
    (l_L_rare : K.lookup f_L_rare = some ⟨oc_L_rare, od_L_rare, .func (PySem.W.fnOf "_law_rare" "_law_rare" (defArgs (tS 45)) (defBody (tS 45)) (defScope (tS 45)) .none kV_L_rare dc_L_rare pm_L_rare an_L_rare cd_L_rare ct_L_rare), sl_L_rare⟩)
    (d_L_rare : PySem.W.codeIn K cd_L_rare "_law_rare" = true)
    (k_L_rare : PySem.W.keepIn K (.ref f_L_rare) = true)
    (n_L_pool : PySem.W.nsIn K mainGlobals "_law_pool" = some (some (.ref f_L_pool)))
    (l_L_pool : K.lookup f_L_pool = some ⟨oc_L_pool, od_L_pool, .func (PySem.W.fnOf "_law_pool" "_law_pool" (defArgs (tS 46)) (defBody (tS 46)) (defScope (tS 46)) .none kV_L_pool dc_L_pool pm_L_pool an_L_pool cd_L_pool ct_L_pool), sl_L_pool⟩)
    (d_L_pool : PySem.W.codeIn K cd_L_pool "_law_pool" = true)
    (k_L_pool : PySem.W.keepIn K (.ref f_L_pool) = true)
    (n_L_is_int : PySem.W.nsIn K mainGlobals "_law_is_int" = some (some (.ref f_L_is_int)))
    (l_L_is_int : K.lookup f_L_is_int = some ⟨oc_L_is_int, od_L_is_int, .func (PySem.W.fnOf "_law_is_int" "_law_is_int" (defArgs (tS 47)) (defBody (tS 47)) (defScope (tS 47)) .none kV_L_is_int dc_L_is_int pm_L_is_int an_L_is_int cd_L_is_int ct_L_is_int), sl_L_is_int⟩)
    (d_L_is_int : PySem.W.codeIn K cd_L_is_int "_law_is_int" = true)
    (k_L_is_int : PySem.W.keepIn K (.ref f_L_is_int) = true)
    (n_L_is_ints : PySem.W.nsIn K mainGlobals "_law_is_ints" = some (some (.ref f_L_is_ints)))
    (l_L_is_ints : K.lookup f_L_is_ints = some ⟨oc_L_is_ints, od_L_is_ints, .func (PySem.W.fnOf "_law_is_ints" "_law_is_ints" (defArgs (tS 48)) (defBody (tS 48)) (defScope (tS 48)) .none kV_L_is_ints dc_L_is_ints pm_L_is_ints an_L_is_ints cd_L_is_ints ct_L_is_ints), sl_L_is_ints⟩)
    (d_L_is_ints : PySem.W.codeIn K cd_L_is_ints "_law_is_ints" = true)
    (k_L_is_ints : PySem.W.keepIn K (.ref f_L_is_ints) = true)
    (n_L_token : PySem.W.nsIn K mainGlobals "_law_token" = some (some (.ref f_L_token)))
    (l_L_token : K.lookup f_L_token = some ⟨oc_L_token, od_L_token, .func (PySem.W.fnOf "_law_token" "_law_token" (defArgs (tS 49)) (defBody (tS 49)) (defScope (tS 49)) .none kV_L_token dc_L_token pm_L_token an_L_token cd_L_token ct_L_token), sl_L_token⟩)
    (d_L_token : PySem.W.codeIn K cd_L_token "_law_token" = true)
    (k_L_token : PySem.W.keepIn K (.ref f_L_token) = true)
    (n_L_tokens : PySem.W.nsIn K mainGlobals "_law_tokens" = some (some (.ref f_L_tokens)))
    (l_L_tokens : K.lookup f_L_tokens = some ⟨oc_L_tokens, od_L_tokens, .func (PySem.W.fnOf "_law_tokens" "_law_tokens" (defArgs (tS 50)) (defBody (tS 50)) (defScope (tS 50)) .none kV_L_tokens dc_L_tokens pm_L_tokens an_L_tokens cd_L_tokens ct_L_tokens), sl_L_tokens⟩)
    (d_L_tokens : PySem.W.codeIn K cd_L_tokens "_law_tokens" = true)
    (k_L_tokens : PySem.W.keepIn K (.ref f_L_tokens) = true)
    (n_L_before : PySem.W.nsIn K mainGlobals "_law_before" = some (some (.ref f_L_before)))
    (l_L_before : K.lookup f_L_before = some ⟨oc_L_before, od_L_before, .func (PySem.W.fnOf "_law_before" "_law_before" (defArgs (tS 51)) (defBody (tS 51)) (defScope (tS 51)) .none kV_L_before dc_L_before pm_L_before an_L_before cd_L_before ct_L_before), sl_L_before⟩)
    (d_L_before : PySem.W.codeIn K cd_L_before "_law_before" = true)
    (k_L_before : PySem.W.keepIn K (.ref f_L_before) = true)
    (n_L_row : PySem.W.nsIn K mainGlobals "_law_row" = some (some (.ref f_L_row)))
    (l_L_row : K.lookup f_L_row = some ⟨oc_L_row, od_L_row, .func (PySem.W.fnOf "_law_row" "_law_row" (defArgs (tS 52)) (defBody (tS 52)) (defScope (tS 52)) .none kV_L_row dc_L_row pm_L_row an_L_row cd_L_row ct_L_row), sl_L_row⟩)
    (d_L_row : PySem.W.codeIn K cd_L_row "_law_row" = true)
    (k_L_row : PySem.W.keepIn K (.ref f_L_row) = true)
    (n_L_made : PySem.W.nsIn K mainGlobals "_law_made" = some (some (.ref f_L_made)))
    (l_L_made : K.lookup f_L_made = some ⟨oc_L_made, od_L_made, .func (PySem.W.fnOf "_law_made" "_law_made" (defArgs (tS 53)) (defBody (tS 53)) (defScope (tS 53)) .none kV_L_made dc_L_made pm_L_made an_L_made cd_L_made ct_L_made), sl_L_made⟩)
    (d_L_made : PySem.W.codeIn K cd_L_made "_law_made" = true)
    (k_L_made : PySem.W.keepIn K (.ref f_L_made) = true)
    (n_L_number : PySem.W.nsIn K mainGlobals "_law_number" = some (some (.ref f_L_number)))
    (l_L_number : K.lookup f_L_number = some ⟨oc_L_number, od_L_number, .func (PySem.W.fnOf "_law_number" "_law_number" (defArgs (tS 54)) (defBody (tS 54)) (defScope (tS 54)) .none kV_L_number dc_L_number pm_L_number an_L_number cd_L_number ct_L_number), sl_L_number⟩)
    (d_L_number : PySem.W.codeIn K cd_L_number "_law_number" = true)
    (k_L_number : PySem.W.keepIn K (.ref f_L_number) = true)
    (n_L_sum : PySem.W.nsIn K mainGlobals "_law_sum" = some (some (.ref f_L_sum)))
    (l_L_sum : K.lookup f_L_sum = some ⟨oc_L_sum, od_L_sum, .func (PySem.W.fnOf "_law_sum" "_law_sum" (defArgs (tS 55)) (defBody (tS 55)) (defScope (tS 55)) .none kV_L_sum dc_L_sum pm_L_sum an_L_sum cd_L_sum ct_L_sum), sl_L_sum⟩)
    (d_L_sum : PySem.W.codeIn K cd_L_sum "_law_sum" = true)
    (k_L_sum : PySem.W.keepIn K (.ref f_L_sum) = true)
    (n_L_right : PySem.W.nsIn K mainGlobals "_law_right" = some (some (.ref f_L_right)))
    (l_L_right : K.lookup f_L_right = some ⟨oc_L_right, od_L_right, .func (PySem.W.fnOf "_law_right" "_law_right" (defArgs (tS 56)) (defBody (tS 56)) (defScope (tS 56)) .none kV_L_right dc_L_right pm_L_right an_L_right cd_L_right ct_L_right), sl_L_right⟩)
    (d_L_right : PySem.W.codeIn K cd_L_right "_law_right" = true)
    (k_L_right : PySem.W.keepIn K (.ref f_L_right) = true)
    (n_L_told : PySem.W.nsIn K mainGlobals "_law_told" = some (some (.ref f_L_told)))
    (l_L_told : K.lookup f_L_told = some ⟨oc_L_told, od_L_told, .func (PySem.W.fnOf "_law_told" "_law_told" (defArgs (tS 57)) (defBody (tS 57)) (defScope (tS 57)) .none kV_L_told dc_L_told pm_L_told an_L_told cd_L_told ct_L_told), sl_L_told⟩)
    (d_L_told : PySem.W.codeIn K cd_L_told "_law_told" = true)
    (k_L_told : PySem.W.keepIn K (.ref f_L_told) = true)
    (n_L_block_refused : PySem.W.nsIn K mainGlobals "_law_block_refused" = some (some (.ref f_L_block_refused)))
    (l_L_block_refused : K.lookup f_L_block_refused = some ⟨oc_L_block_refused, od_L_block_refused, .func (PySem.W.fnOf "_law_block_refused" "_law_block_refused" (defArgs (tS 58)) (defBody (tS 58)) (defScope (tS 58)) .none kV_L_block_refused dc_L_block_refused pm_L_block_refused an_L_block_refused cd_L_block_refused ct_L_block_refused), sl_L_block_refused⟩)
    (d_L_block_refused : PySem.W.codeIn K cd_L_block_refused "_law_block_refused" = true)
    (k_L_block_refused : PySem.W.keepIn K (.ref f_L_block_refused) = true)
    (n_L_ends : PySem.W.nsIn K mainGlobals "_law_ends" = some (some (.ref f_L_ends)))
    (l_L_ends : K.lookup f_L_ends = some ⟨oc_L_ends, od_L_ends, .func (PySem.W.fnOf "_law_ends" "_law_ends" (defArgs (tS 59)) (defBody (tS 59)) (defScope (tS 59)) .none kV_L_ends dc_L_ends pm_L_ends an_L_ends cd_L_ends ct_L_ends), sl_L_ends⟩)
    (d_L_ends : PySem.W.codeIn K cd_L_ends "_law_ends" = true)
    (k_L_ends : PySem.W.keepIn K (.ref f_L_ends) = true)
    (n_L_turn : PySem.W.nsIn K mainGlobals "_law_turn" = some (some (.ref f_L_turn)))
    (l_L_turn : K.lookup f_L_turn = some ⟨oc_L_turn, od_L_turn, .func (PySem.W.fnOf "_law_turn" "_law_turn" (defArgs (tS 60)) (defBody (tS 60)) (defScope (tS 60)) .none kV_L_turn dc_L_turn pm_L_turn an_L_turn cd_L_turn ct_L_turn), sl_L_turn⟩)
    (d_L_turn : PySem.W.codeIn K cd_L_turn "_law_turn" = true)
    (k_L_turn : PySem.W.keepIn K (.ref f_L_turn) = true)
    (n_L_refused : PySem.W.nsIn K mainGlobals "_law_refused" = some (some (.ref f_L_refused)))
    (l_L_refused : K.lookup f_L_refused = some ⟨oc_L_refused, od_L_refused, .func (PySem.W.fnOf "_law_refused" "_law_refused" (defArgs (tS 61)) (defBody (tS 61)) (defScope (tS 61)) .none kV_L_refused dc_L_refused pm_L_refused an_L_refused cd_L_refused ct_L_refused), sl_L_refused⟩)
    (d_L_refused : PySem.W.codeIn K cd_L_refused "_law_refused" = true)
    (k_L_refused : PySem.W.keepIn K (.ref f_L_refused) = true)
    (n_L_in : PySem.W.nsIn K mainGlobals "_law_in" = some (some (.ref f_L_in)))
    (l_L_in : K.lookup f_L_in = some ⟨oc_L_in, od_L_in, .func (PySem.W.fnOf "_law_in" "_law_in" (defArgs (tS 62)) (defBody (tS 62)) (defScope (tS 62)) .none kV_L_in dc_L_in pm_L_in an_L_in cd_L_in ct_L_in), sl_L_in⟩)
    (d_L_in : PySem.W.codeIn K cd_L_in "_law_in" = true)
    (k_L_in : PySem.W.keepIn K (.ref f_L_in) = true)
    (n_L_row_in : PySem.W.nsIn K mainGlobals "_law_row_in" = some (some (.ref f_L_row_in)))
    (l_L_row_in : K.lookup f_L_row_in = some ⟨oc_L_row_in, od_L_row_in, .func (PySem.W.fnOf "_law_row_in" "_law_row_in" (defArgs (tS 63)) (defBody (tS 63)) (defScope (tS 63)) .none kV_L_row_in dc_L_row_in pm_L_row_in an_L_row_in cd_L_row_in ct_L_row_in), sl_L_row_in⟩)
    (d_L_row_in : PySem.W.codeIn K cd_L_row_in "_law_row_in" = true)
    (k_L_row_in : PySem.W.keepIn K (.ref f_L_row_in) = true)
    (n_L_named : PySem.W.nsIn K mainGlobals "_law_named" = some (some (.ref f_L_named)))
    (l_L_named : K.lookup f_L_named = some ⟨oc_L_named, od_L_named, .func (PySem.W.fnOf "_law_named" "_law_named" (defArgs (tS 64)) (defBody (tS 64)) (defScope (tS 64)) .none kV_L_named dc_L_named pm_L_named an_L_named cd_L_named ct_L_named), sl_L_named⟩)
    (d_L_named : PySem.W.codeIn K cd_L_named "_law_named" = true)
    (k_L_named : PySem.W.keepIn K (.ref f_L_named) = true)
    (n_L_block_due : PySem.W.nsIn K mainGlobals "_law_block_due" = some (some (.ref f_L_block_due)))
    (l_L_block_due : K.lookup f_L_block_due = some ⟨oc_L_block_due, od_L_block_due, .func (PySem.W.fnOf "_law_block_due" "_law_block_due" (defArgs (tS 65)) (defBody (tS 65)) (defScope (tS 65)) .none kV_L_block_due dc_L_block_due pm_L_block_due an_L_block_due cd_L_block_due ct_L_block_due), sl_L_block_due⟩)
    (d_L_block_due : PySem.W.codeIn K cd_L_block_due "_law_block_due" = true)
    (k_L_block_due : PySem.W.keepIn K (.ref f_L_block_due) = true)
    (n_L_queue_due : PySem.W.nsIn K mainGlobals "_law_queue_due" = some (some (.ref f_L_queue_due)))
    (l_L_queue_due : K.lookup f_L_queue_due = some ⟨oc_L_queue_due, od_L_queue_due, .func (PySem.W.fnOf "_law_queue_due" "_law_queue_due" (defArgs (tS 66)) (defBody (tS 66)) (defScope (tS 66)) .none kV_L_queue_due dc_L_queue_due pm_L_queue_due an_L_queue_due cd_L_queue_due ct_L_queue_due), sl_L_queue_due⟩)
    (d_L_queue_due : PySem.W.codeIn K cd_L_queue_due "_law_queue_due" = true)
    (k_L_queue_due : PySem.W.keepIn K (.ref f_L_queue_due) = true)
    (n_L_graph_due : PySem.W.nsIn K mainGlobals "_law_graph_due" = some (some (.ref f_L_graph_due)))
    (l_L_graph_due : K.lookup f_L_graph_due = some ⟨oc_L_graph_due, od_L_graph_due, .func (PySem.W.fnOf "_law_graph_due" "_law_graph_due" (defArgs (tS 67)) (defBody (tS 67)) (defScope (tS 67)) .none kV_L_graph_due dc_L_graph_due pm_L_graph_due an_L_graph_due cd_L_graph_due ct_L_graph_due), sl_L_graph_due⟩)
    (d_L_graph_due : PySem.W.codeIn K cd_L_graph_due "_law_graph_due" = true)
    (k_L_graph_due : PySem.W.keepIn K (.ref f_L_graph_due) = true)
    (n_L_row_spoilt : PySem.W.nsIn K mainGlobals "_law_row_spoilt" = some (some (.ref f_L_row_spoilt)))
    (l_L_row_spoilt : K.lookup f_L_row_spoilt = some ⟨oc_L_row_spoilt, od_L_row_spoilt, .func (PySem.W.fnOf "_law_row_spoilt" "_law_row_spoilt" (defArgs (tS 68)) (defBody (tS 68)) (defScope (tS 68)) .none kV_L_row_spoilt dc_L_row_spoilt pm_L_row_spoilt an_L_row_spoilt cd_L_row_spoilt ct_L_row_spoilt), sl_L_row_spoilt⟩)
    (d_L_row_spoilt : PySem.W.codeIn K cd_L_row_spoilt "_law_row_spoilt" = true)
    (k_L_row_spoilt : PySem.W.keepIn K (.ref f_L_row_spoilt) = true)
    (n_L_name_spoilt : PySem.W.nsIn K mainGlobals "_law_name_spoilt" = some (some (.ref f_L_name_spoilt)))
    (l_L_name_spoilt : K.lookup f_L_name_spoilt = some ⟨oc_L_name_spoilt, od_L_name_spoilt, .func (PySem.W.fnOf "_law_name_spoilt" "_law_name_spoilt" (defArgs (tS 69)) (defBody (tS 69)) (defScope (tS 69)) .none kV_L_name_spoilt dc_L_name_spoilt pm_L_name_spoilt an_L_name_spoilt cd_L_name_spoilt ct_L_name_spoilt), sl_L_name_spoilt⟩)
    (d_L_name_spoilt : PySem.W.codeIn K cd_L_name_spoilt "_law_name_spoilt" = true)
    (k_L_name_spoilt : PySem.W.keepIn K (.ref f_L_name_spoilt) = true)
    (n_L_block_spoilt : PySem.W.nsIn K mainGlobals "_law_block_spoilt" = some (some (.ref f_L_block_spoilt)))
    (l_L_block_spoilt : K.lookup f_L_block_spoilt = some ⟨oc_L_block_spoilt, od_L_block_spoilt, .func (PySem.W.fnOf "_law_block_spoilt" "_law_block_spoilt" (defArgs (tS 70)) (defBody (tS 70)) (defScope (tS 70)) .none kV_L_block_spoilt dc_L_block_spoilt pm_L_block_spoilt an_L_block_spoilt cd_L_block_spoilt ct_L_block_spoilt), sl_L_block_spoilt⟩)
    (d_L_block_spoilt : PySem.W.codeIn K cd_L_block_spoilt "_law_block_spoilt" = true)
    (k_L_block_spoilt : PySem.W.keepIn K (.ref f_L_block_spoilt) = true)
    (n_L_queue_spoilt : PySem.W.nsIn K mainGlobals "_law_queue_spoilt" = some (some (.ref f_L_queue_spoilt)))
    (l_L_queue_spoilt : K.lookup f_L_queue_spoilt = some ⟨oc_L_queue_spoilt, od_L_queue_spoilt, .func (PySem.W.fnOf "_law_queue_spoilt" "_law_queue_spoilt" (defArgs (tS 71)) (defBody (tS 71)) (defScope (tS 71)) .none kV_L_queue_spoilt dc_L_queue_spoilt pm_L_queue_spoilt an_L_queue_spoilt cd_L_queue_spoilt ct_L_queue_spoilt), sl_L_queue_spoilt⟩)
    (d_L_queue_spoilt : PySem.W.codeIn K cd_L_queue_spoilt "_law_queue_spoilt" = true)
    (k_L_queue_spoilt : PySem.W.keepIn K (.ref f_L_queue_spoilt) = true)
    (n_L_graph_spoilt : PySem.W.nsIn K mainGlobals "_law_graph_spoilt" = some (some (.ref f_L_graph_spoilt)))
    (l_L_graph_spoilt : K.lookup f_L_graph_spoilt = some ⟨oc_L_graph_spoilt, od_L_graph_spoilt, .func (PySem.W.fnOf "_law_graph_spoilt" "_law_graph_spoilt" (defArgs (tS 72)) (defBody (tS 72)) (defScope (tS 72)) .none kV_L_graph_spoilt dc_L_graph_spoilt pm_L_graph_spoilt an_L_graph_spoilt cd_L_graph_spoilt ct_L_graph_spoilt), sl_L_graph_spoilt⟩)
    (d_L_graph_spoilt : PySem.W.codeIn K cd_L_graph_spoilt "_law_graph_spoilt" = true)
    (k_L_graph_spoilt : PySem.W.keepIn K (.ref f_L_graph_spoilt) = true)
    (n_L_door : PySem.W.nsIn K mainGlobals "_law_door" = some (some (.ref f_L_door)))
    (l_L_door : K.lookup f_L_door = some ⟨oc_L_door, od_L_door, .func (PySem.W.fnOf "_law_door" "_law_door" (defArgs (tS 73)) (defBody (tS 73)) (defScope (tS 73)) .none kV_L_door dc_L_door pm_L_door an_L_door cd_L_door ct_L_door), sl_L_door⟩)
    (d_L_door : PySem.W.codeIn K cd_L_door "_law_door" = true)
    (k_L_door : PySem.W.keepIn K (.ref f_L_door) = true)
    (n_L_same : PySem.W.nsIn K mainGlobals "_law_same" = some (some (.ref f_L_same)))
    (l_L_same : K.lookup f_L_same = some ⟨oc_L_same, od_L_same, .func (PySem.W.fnOf "_law_same" "_law_same" (defArgs (tS 74)) (defBody (tS 74)) (defScope (tS 74)) .none kV_L_same dc_L_same pm_L_same an_L_same cd_L_same ct_L_same), sl_L_same⟩)
    (d_L_same : PySem.W.codeIn K cd_L_same "_law_same" = true)
    (k_L_same : PySem.W.keepIn K (.ref f_L_same) = true)
    (n_L_kinds : PySem.W.nsIn K mainGlobals "_law_kinds" = some (some (.ref f_L_kinds)))
    (l_L_kinds : K.lookup f_L_kinds = some ⟨oc_L_kinds, od_L_kinds, .func (PySem.W.fnOf "_law_kinds" "_law_kinds" (defArgs (tS 75)) (defBody (tS 75)) (defScope (tS 75)) .none kV_L_kinds dc_L_kinds pm_L_kinds an_L_kinds cd_L_kinds ct_L_kinds), sl_L_kinds⟩)
    (d_L_kinds : PySem.W.codeIn K cd_L_kinds "_law_kinds" = true)
    (k_L_kinds : PySem.W.keepIn K (.ref f_L_kinds) = true)
    (n_L_graphs : PySem.W.nsIn K mainGlobals "_law_graphs" = some (some (.ref f_L_graphs)))
    (l_L_graphs : K.lookup f_L_graphs = some ⟨oc_L_graphs, od_L_graphs, .func (PySem.W.fnOf "_law_graphs" "_law_graphs" (defArgs (tS 76)) (defBody (tS 76)) (defScope (tS 76)) .none kV_L_graphs dc_L_graphs pm_L_graphs an_L_graphs cd_L_graphs ct_L_graphs), sl_L_graphs⟩)
    (d_L_graphs : PySem.W.codeIn K cd_L_graphs "_law_graphs" = true)
    (k_L_graphs : PySem.W.keepIn K (.ref f_L_graphs) = true)
    (n_law : PySem.W.nsIn K mainGlobals "law" = some (some (.ref f_law)))
    (l_law : K.lookup f_law = some ⟨oc_law, od_law, .func (PySem.W.fnOf "law" "law" (defArgs (tS 77)) (defBody (tS 77)) (defScope (tS 77)) .none kV_law dc_law pm_law an_law cd_law ct_law), sl_law⟩)
    (d_law : PySem.W.codeIn K cd_law "law" = true)
    (k_law : PySem.W.keepIn K (.ref f_law) = true)
    : ∃ fd : FuncData, (∀ (s : Shared) (v : Value), BindsTo s fd ⟨[v], []⟩ [("script", v)]) ∧ ∀ base : Heap, K.In base → base.Ns mainGlobals mg → FnOk PySem.Challenge.rw_ratewarrant_k04_rates_before_and_makers.prog w K mg base (L2.CX PySem.Challenge.rw_ratewarrant_k04_rates_before_and_makers.prog w) 10 fa fd ["script"] (spLawB K) := by
  have e := hfa.symm.trans (PySem.W.mg_of X G n_law)
  cases e
  refine ⟨PySem.W.fnOf "law" "law" (defArgs (tS 77)) (defBody (tS 77)) (defScope (tS 77)) .none kV_law dc_law pm_law an_law cd_law ct_law, fun s v => .of_eq rfl, fun base _ _ => ?_⟩
  have T : Tx PySem.Challenge.rw_ratewarrant_k04_rates_before_and_makers.prog w K mg base aBadThing aRateError := {
    b_ValueError := PySem.W.mg_none_of X G z_ValueError
    b_abs := PySem.W.mg_none_of X G z_abs
    b_all := PySem.W.mg_none_of X G z_all
    b_any := PySem.W.mg_none_of X G z_any
    b_bool := PySem.W.mg_none_of X G z_bool
    b_enumerate := PySem.W.mg_none_of X G z_enumerate
    b_int := PySem.W.mg_none_of X G z_int
    b_isinstance := PySem.W.mg_none_of X G z_isinstance
    b_len := PySem.W.mg_none_of X G z_len
    b_list := PySem.W.mg_none_of X G z_list
    b_range := PySem.W.mg_none_of X G z_range
    b_str := PySem.W.mg_none_of X G z_str
    b_sum := PySem.W.mg_none_of X G z_sum
    b_tuple := PySem.W.mg_none_of X G z_tuple
    c_FAR := ⟨_, PySem.W.mg_of X G v_FAR⟩
    c_LETTERS := ⟨_, PySem.W.mg_of X G v_LETTERS⟩
    c_MODULUS := ⟨_, PySem.W.mg_of X G v_MODULUS⟩
    c_MOST_BLOCKS := ⟨_, PySem.W.mg_of X G v_MOST_BLOCKS⟩
    c_MOST_NAME := ⟨_, PySem.W.mg_of X G v_MOST_NAME⟩
    c_MOST_PHASES := ⟨_, PySem.W.mg_of X G v_MOST_PHASES⟩
    c_MOST_QUEUES := ⟨_, PySem.W.mg_of X G v_MOST_QUEUES⟩
    c_MOST_RATE := ⟨_, PySem.W.mg_of X G v_MOST_RATE⟩
    c_MOST_START := ⟨_, PySem.W.mg_of X G v_MOST_START⟩
    c_MOST_TIME := ⟨_, PySem.W.mg_of X G v_MOST_TIME⟩
    c_SIGNS := ⟨_, PySem.W.mg_of X G v_SIGNS⟩
    m_BadThing := PySem.W.mg_of X G w_BadThing
    m_RateError := PySem.W.mg_of X G w_RateError
    x_BadThing := xb_one (⟨⟨_, _, _, _, _, _, _, _, rfl, li_BadThing⟩, ci_BadThing, ⟨_, _, _, _, _, _, co_BadThing, vf_BadThing, ff_BadThing⟩, ⟨_, _, _, cx_BadThing⟩, ⟨_, by unfold PySem.W.clsIn; rw [xL_BadThing] <;> rfl⟩, by decide +kernel, zth_any⟩ : IniT PySem.Challenge.rw_ratewarrant_k04_rates_before_and_makers.prog K "BadThing.__init__" (inClass (tS 2) 0) iBadThing aBadThing _ cdaBadThing ccBadThing) ini_BadThing rfl rfl rfl (PySem.W.mg_none_of X G z_super) (by decide) (fun _ => ⟨_, rfl⟩) (fun _ => by rfl) (fun _ => by rfl) (by decide) (by decide) (by decide) (by decide) (PySem.W.mg_of X G w_BadThing) (⟨⟨⟨nmBadThing, qBadThing, NBadThing, bsBadThing, bmBadThing, snBadThing, subBadThing, abBadThing, colBadThing, ddBadThing, m0BadThing, m1BadThing, m2BadThing, m3BadThing, m5BadThing, xL_BadThing, rf_BadThing⟩, sa_BadThing, eC_BadThing, tC_BadThing, kC_BadThing⟩, mi_BadThing, su_BadThing, ve_BadThing⟩ : IniC K aBadThing aBadThing) ii_BadThing ti_BadThing (.all fun us hl => match us, hl with | [_, _], _ => rfl) nf_BadThing_part 0
    e_BadThing_BadThing := PySem.W.exm_ref eC_BadThing hC_BadThing tC_BadThing sb_BadThing_BadThing
    g_BadThing := ⟨ga_BadThing, gg_BadThing, eC_BadThing, hC_BadThing⟩
    n_BadThing_part := nf_BadThing_part
    i_BadThing := ⟨ga_BadThing, gg_BadThing, eC_BadThing, hC_BadThing, gc_BadThing, hn0, ht0, mo_BadThing⟩
    k_BadThing_RateError := kt_BadThing_RateError
    k_BadThing_ValueError := kt_BadThing_ValueError
    f_whole := ⟨_, _, fun_mk l_whole d_whole k_whole, PySem.W.mg_of X G n_whole, (fun_mk (st := tS 14) l_whole d_whole k_whole).binds fun _ _ _ _ _ _ us hl => match us, hl with | [_, _, _], _ => rfl⟩
    f_is_numbers := ⟨_, _, fun_mk l_is_numbers d_is_numbers k_is_numbers, PySem.W.mg_of X G n_is_numbers, (fun_mk (st := tS 15) l_is_numbers d_is_numbers k_is_numbers).binds fun _ _ _ _ _ _ us hl => match us, hl with | [_, _, _], _ => rfl⟩
    f_is_name := ⟨_, _, fun_mk l_is_name d_is_name k_is_name, PySem.W.mg_of X G n_is_name, (fun_mk (st := tS 16) l_is_name d_is_name k_is_name).binds fun _ _ _ _ _ _ us hl => match us, hl with | [_], _ => rfl⟩
    f_is_times := ⟨_, _, fun_mk l_is_times d_is_times k_is_times, PySem.W.mg_of X G n_is_times, (fun_mk (st := tS 17) l_is_times d_is_times k_is_times).binds fun _ _ _ _ _ _ us hl => match us, hl with | [_], _ => rfl⟩
    f_is_deed := ⟨_, _, fun_mk l_is_deed d_is_deed k_is_deed, PySem.W.mg_of X G n_is_deed, (fun_mk (st := tS 18) l_is_deed d_is_deed k_is_deed).binds fun _ _ _ _ _ _ us hl => match us, hl with | [_], _ => rfl⟩
    f_is_block := ⟨_, _, fun_mk l_is_block d_is_block k_is_block, PySem.W.mg_of X G n_is_block, (fun_mk (st := tS 19) l_is_block d_is_block k_is_block).binds fun _ _ _ _ _ _ us hl => match us, hl with | [_], _ => rfl⟩
    f_is_rates := ⟨_, _, fun_mk l_is_rates d_is_rates k_is_rates, PySem.W.mg_of X G n_is_rates, (fun_mk (st := tS 20) l_is_rates d_is_rates k_is_rates).binds fun _ _ _ _ _ _ us hl => match us, hl with | [_, _], _ => rfl⟩
    f_is_start := ⟨_, _, fun_mk l_is_start d_is_start k_is_start, PySem.W.mg_of X G n_is_start, (fun_mk (st := tS 21) l_is_start d_is_start k_is_start).binds fun _ _ _ _ _ _ us hl => match us, hl with | [_], _ => rfl⟩
    f_is_queue := ⟨_, _, fun_mk l_is_queue d_is_queue k_is_queue, PySem.W.mg_of X G n_is_queue, (fun_mk (st := tS 22) l_is_queue d_is_queue k_is_queue).binds fun _ _ _ _ _ _ us hl => match us, hl with | [_, _], _ => rfl⟩
    f_is_graph := ⟨_, _, fun_mk l_is_graph d_is_graph k_is_graph, PySem.W.mg_of X G n_is_graph, (fun_mk (st := tS 23) l_is_graph d_is_graph k_is_graph).binds fun _ _ _ _ _ _ us hl => match us, hl with | [_], _ => rfl⟩
    f_check_graph := ⟨_, _, fun_mk l_check_graph d_check_graph k_check_graph, PySem.W.mg_of X G n_check_graph, (fun_mk (st := tS 24) l_check_graph d_check_graph k_check_graph).binds fun _ _ _ _ _ _ us hl => match us, hl with | [_], _ => rfl⟩
    f_is_place := ⟨_, _, fun_mk l_is_place d_is_place k_is_place, PySem.W.mg_of X G n_is_place, (fun_mk (st := tS 25) l_is_place d_is_place k_is_place).binds fun _ _ _ _ _ _ us hl => match us, hl with | [_, _], _ => rfl⟩
    f_phases := ⟨_, _, fun_mk l_phases d_phases k_phases, PySem.W.mg_of X G n_phases, (fun_mk (st := tS 28) l_phases d_phases k_phases).binds fun _ _ _ _ _ _ us hl => match us, hl with | [_, _], _ => rfl⟩
    f_check_block := ⟨_, _, fun_mk l_check_block d_check_block k_check_block, PySem.W.mg_of X G n_check_block, (fun_mk (st := tS 29) l_check_block d_check_block k_check_block).binds fun _ _ _ _ _ _ us hl => match us, hl with | [_, _], _ => rfl⟩
    f_check_queue := ⟨_, _, fun_mk l_check_queue d_check_queue k_check_queue, PySem.W.mg_of X G n_check_queue, (fun_mk (st := tS 30) l_check_queue d_check_queue k_check_queue).binds fun _ _ _ _ _ _ us hl => match us, hl with | [_, _], _ => rfl⟩
    f_sum_before := ⟨_, _, fun_mk l_sum_before d_sum_before k_sum_before, PySem.W.mg_of X G n_sum_before, (fun_mk (st := tS 31) l_sum_before d_sum_before k_sum_before).binds fun _ _ _ _ _ _ us hl => match us, hl with | [_, _], _ => rfl⟩
    f_firing_with := ⟨_, _, fun_mk l_firing_with d_firing_with k_firing_with, PySem.W.mg_of X G n_firing_with, (fun_mk (st := tS 32) l_firing_with d_firing_with k_firing_with).binds fun _ _ _ _ _ _ us hl => match us, hl with | [_, _], _ => rfl⟩
    f_incoming := ⟨_, _, fun_mk l_incoming d_incoming k_incoming, PySem.W.mg_of X G n_incoming, (fun_mk (st := tS 33) l_incoming d_incoming k_incoming).binds fun _ _ _ _ _ _ us hl => match us, hl with | [_, _], _ => rfl⟩
    f_outgoing := ⟨_, _, fun_mk l_outgoing d_outgoing k_outgoing, PySem.W.mg_of X G n_outgoing, (fun_mk (st := tS 34) l_outgoing d_outgoing k_outgoing).binds fun _ _ _ _ _ _ us hl => match us, hl with | [_, _], _ => rfl⟩
    f_into := ⟨_, _, fun_mk l_into d_into k_into, PySem.W.mg_of X G n_into, (fun_mk (st := tS 35) l_into d_into k_into).binds fun _ _ _ _ _ _ us hl => match us, hl with | [_, _], _ => rfl⟩
    f_out_of := ⟨_, _, fun_mk l_out_of d_out_of k_out_of, PySem.W.mg_of X G n_out_of, (fun_mk (st := tS 36) l_out_of d_out_of k_out_of).binds fun _ _ _ _ _ _ us hl => match us, hl with | [_, _], _ => rfl⟩
    f_given_before := ⟨_, _, fun_mk l_given_before d_given_before k_given_before, PySem.W.mg_of X G n_given_before, (fun_mk (st := tS 37) l_given_before d_given_before k_given_before).binds fun _ _ _ _ _ _ us hl => match us, hl with | [_, _, _], _ => rfl⟩
    f_taken_before := ⟨_, _, fun_mk l_taken_before d_taken_before k_taken_before, PySem.W.mg_of X G n_taken_before, (fun_mk (st := tS 38) l_taken_before d_taken_before k_taken_before).binds fun _ _ _ _ _ _ us hl => match us, hl with | [_, _, _], _ => rfl⟩
    f_producer := ⟨_, _, fun_mk l_producer d_producer k_producer, PySem.W.mg_of X G n_producer, (fun_mk (st := tS 39) l_producer d_producer k_producer).binds fun _ _ _ _ _ _ us hl => match us, hl with | [_, _, _], _ => rfl⟩
    f_L_begin := ⟨_, _, fun_mk l_L_begin d_L_begin k_L_begin, PySem.W.mg_of X G n_L_begin, (fun_mk (st := tS 41) l_L_begin d_L_begin k_L_begin).binds fun _ _ _ _ _ _ us hl => match us, hl with | [_], _ => rfl⟩
    f_L_draw := ⟨_, _, fun_mk l_L_draw d_L_draw k_L_draw, PySem.W.mg_of X G n_L_draw, (fun_mk (st := tS 42) l_L_draw d_L_draw k_L_draw).binds fun _ _ _ _ _ _ us hl => match us, hl with | [_, _], _ => rfl⟩
    f_L_pick := ⟨_, _, fun_mk l_L_pick d_L_pick k_L_pick, PySem.W.mg_of X G n_L_pick, (fun_mk (st := tS 43) l_L_pick d_L_pick k_L_pick).binds fun _ _ _ _ _ _ us hl => match us, hl with | [_, _], _ => rfl⟩
    f_L_pop := ⟨_, _, fun_mk l_L_pop d_L_pop k_L_pop, PySem.W.mg_of X G n_L_pop, (fun_mk (st := tS 44) l_L_pop d_L_pop k_L_pop).binds fun _ _ _ _ _ _ us hl => match us, hl with | [_, _], _ => rfl⟩
    f_L_rare := ⟨_, _, fun_mk l_L_rare d_L_rare k_L_rare, PySem.W.mg_of X G n_L_rare, (fun_mk (st := tS 45) l_L_rare d_L_rare k_L_rare).binds fun _ _ _ _ _ _ us hl => match us, hl with | [_, _], _ => rfl⟩
    f_L_pool := ⟨_, _, fun_mk l_L_pool d_L_pool k_L_pool, PySem.W.mg_of X G n_L_pool, (fun_mk (st := tS 46) l_L_pool d_L_pool k_L_pool).binds fun _ _ _ _ _ _ us hl => match us, hl with | [], _ => rfl⟩
    f_L_is_int := ⟨_, _, fun_mk l_L_is_int d_L_is_int k_L_is_int, PySem.W.mg_of X G n_L_is_int, (fun_mk (st := tS 47) l_L_is_int d_L_is_int k_L_is_int).binds fun _ _ _ _ _ _ us hl => match us, hl with | [_], _ => rfl⟩
    f_L_is_ints := ⟨_, _, fun_mk l_L_is_ints d_L_is_ints k_L_is_ints, PySem.W.mg_of X G n_L_is_ints, (fun_mk (st := tS 48) l_L_is_ints d_L_is_ints k_L_is_ints).binds fun _ _ _ _ _ _ us hl => match us, hl with | [_], _ => rfl⟩
    f_L_token := ⟨_, _, fun_mk l_L_token d_L_token k_L_token, PySem.W.mg_of X G n_L_token, (fun_mk (st := tS 49) l_L_token d_L_token k_L_token).binds fun _ _ _ _ _ _ us hl => match us, hl with | [_], _ => rfl⟩
    f_L_tokens := ⟨_, _, fun_mk l_L_tokens d_L_tokens k_L_tokens, PySem.W.mg_of X G n_L_tokens, (fun_mk (st := tS 50) l_L_tokens d_L_tokens k_L_tokens).binds fun _ _ _ _ _ _ us hl => match us, hl with | [_, _], _ => rfl⟩
    f_L_before := ⟨_, _, fun_mk l_L_before d_L_before k_L_before, PySem.W.mg_of X G n_L_before, (fun_mk (st := tS 51) l_L_before d_L_before k_L_before).binds fun _ _ _ _ _ _ us hl => match us, hl with | [_, _], _ => rfl⟩
    f_L_row := ⟨_, _, fun_mk l_L_row d_L_row k_L_row, PySem.W.mg_of X G n_L_row, (fun_mk (st := tS 52) l_L_row d_L_row k_L_row).binds fun _ _ _ _ _ _ us hl => match us, hl with | [_, _], _ => rfl⟩
    f_L_made := ⟨_, _, fun_mk l_L_made d_L_made k_L_made, PySem.W.mg_of X G n_L_made, (fun_mk (st := tS 53) l_L_made d_L_made k_L_made).binds fun _ _ _ _ _ _ us hl => match us, hl with | [_], _ => rfl⟩
    f_L_number := ⟨_, _, fun_mk l_L_number d_L_number k_L_number, PySem.W.mg_of X G n_L_number, (fun_mk (st := tS 54) l_L_number d_L_number k_L_number).binds fun _ _ _ _ _ _ us hl => match us, hl with | [_], _ => rfl⟩
    f_L_sum := ⟨_, _, fun_mk l_L_sum d_L_sum k_L_sum, PySem.W.mg_of X G n_L_sum, (fun_mk (st := tS 55) l_L_sum d_L_sum k_L_sum).binds fun _ _ _ _ _ _ us hl => match us, hl with | [_, _], _ => rfl⟩
    f_L_right := ⟨_, _, fun_mk l_L_right d_L_right k_L_right, PySem.W.mg_of X G n_L_right, (fun_mk (st := tS 56) l_L_right d_L_right k_L_right).binds fun _ _ _ _ _ _ us hl => match us, hl with | [_, _, _, _], _ => rfl⟩
    f_L_told := ⟨_, _, fun_mk l_L_told d_L_told k_L_told, PySem.W.mg_of X G n_L_told, (fun_mk (st := tS 57) l_L_told d_L_told k_L_told).binds fun _ _ _ _ _ _ us hl => match us, hl with | [_, _, _, _], _ => rfl⟩
    f_L_block_refused := ⟨_, _, fun_mk l_L_block_refused d_L_block_refused k_L_block_refused, PySem.W.mg_of X G n_L_block_refused, (fun_mk (st := tS 58) l_L_block_refused d_L_block_refused k_L_block_refused).binds fun _ _ _ _ _ _ us hl => match us, hl with | [_, _], _ => rfl⟩
    f_L_ends := ⟨_, _, fun_mk l_L_ends d_L_ends k_L_ends, PySem.W.mg_of X G n_L_ends, (fun_mk (st := tS 59) l_L_ends d_L_ends k_L_ends).binds fun _ _ _ _ _ _ us hl => match us, hl with | [_], _ => rfl⟩
    f_L_turn := ⟨_, _, fun_mk l_L_turn d_L_turn k_L_turn, PySem.W.mg_of X G n_L_turn, (fun_mk (st := tS 60) l_L_turn d_L_turn k_L_turn).binds fun _ _ _ _ _ _ us hl => match us, hl with | [_, _], _ => rfl⟩
    f_L_refused := ⟨_, _, fun_mk l_L_refused d_L_refused k_L_refused, PySem.W.mg_of X G n_L_refused, (fun_mk (st := tS 61) l_L_refused d_L_refused k_L_refused).binds fun _ _ _ _ _ _ us hl => match us, hl with | [_, _], _ => rfl⟩
    f_L_in := ⟨_, _, fun_mk l_L_in d_L_in k_L_in, PySem.W.mg_of X G n_L_in, (fun_mk (st := tS 62) l_L_in d_L_in k_L_in).binds fun _ _ _ _ _ _ us hl => match us, hl with | [_, _, _], _ => rfl⟩
    f_L_row_in := ⟨_, _, fun_mk l_L_row_in d_L_row_in k_L_row_in, PySem.W.mg_of X G n_L_row_in, (fun_mk (st := tS 63) l_L_row_in d_L_row_in k_L_row_in).binds fun _ _ _ _ _ _ us hl => match us, hl with | [_, _, _, _, _], _ => rfl⟩
    f_L_named := ⟨_, _, fun_mk l_L_named d_L_named k_L_named, PySem.W.mg_of X G n_L_named, (fun_mk (st := tS 64) l_L_named d_L_named k_L_named).binds fun _ _ _ _ _ _ us hl => match us, hl with | [_], _ => rfl⟩
    f_L_block_due := ⟨_, _, fun_mk l_L_block_due d_L_block_due k_L_block_due, PySem.W.mg_of X G n_L_block_due, (fun_mk (st := tS 65) l_L_block_due d_L_block_due k_L_block_due).binds fun _ _ _ _ _ _ us hl => match us, hl with | [_], _ => rfl⟩
    f_L_queue_due := ⟨_, _, fun_mk l_L_queue_due d_L_queue_due k_L_queue_due, PySem.W.mg_of X G n_L_queue_due, (fun_mk (st := tS 66) l_L_queue_due d_L_queue_due k_L_queue_due).binds fun _ _ _ _ _ _ us hl => match us, hl with | [_, _], _ => rfl⟩
    f_L_graph_due := ⟨_, _, fun_mk l_L_graph_due d_L_graph_due k_L_graph_due, PySem.W.mg_of X G n_L_graph_due, (fun_mk (st := tS 67) l_L_graph_due d_L_graph_due k_L_graph_due).binds fun _ _ _ _ _ _ us hl => match us, hl with | [_], _ => rfl⟩
    f_L_row_spoilt := ⟨_, _, fun_mk l_L_row_spoilt d_L_row_spoilt k_L_row_spoilt, PySem.W.mg_of X G n_L_row_spoilt, (fun_mk (st := tS 68) l_L_row_spoilt d_L_row_spoilt k_L_row_spoilt).binds fun _ _ _ _ _ _ us hl => match us, hl with | [_, _, _], _ => rfl⟩
    f_L_name_spoilt := ⟨_, _, fun_mk l_L_name_spoilt d_L_name_spoilt k_L_name_spoilt, PySem.W.mg_of X G n_L_name_spoilt, (fun_mk (st := tS 69) l_L_name_spoilt d_L_name_spoilt k_L_name_spoilt).binds fun _ _ _ _ _ _ us hl => match us, hl with | [_, _], _ => rfl⟩
    f_L_block_spoilt := ⟨_, _, fun_mk l_L_block_spoilt d_L_block_spoilt k_L_block_spoilt, PySem.W.mg_of X G n_L_block_spoilt, (fun_mk (st := tS 70) l_L_block_spoilt d_L_block_spoilt k_L_block_spoilt).binds fun _ _ _ _ _ _ us hl => match us, hl with | [_, _, _], _ => rfl⟩
    f_L_queue_spoilt := ⟨_, _, fun_mk l_L_queue_spoilt d_L_queue_spoilt k_L_queue_spoilt, PySem.W.mg_of X G n_L_queue_spoilt, (fun_mk (st := tS 71) l_L_queue_spoilt d_L_queue_spoilt k_L_queue_spoilt).binds fun _ _ _ _ _ _ us hl => match us, hl with | [_, _, _], _ => rfl⟩
    f_L_graph_spoilt := ⟨_, _, fun_mk l_L_graph_spoilt d_L_graph_spoilt k_L_graph_spoilt, PySem.W.mg_of X G n_L_graph_spoilt, (fun_mk (st := tS 72) l_L_graph_spoilt d_L_graph_spoilt k_L_graph_spoilt).binds fun _ _ _ _ _ _ us hl => match us, hl with | [_, _], _ => rfl⟩
    f_L_door := ⟨_, _, fun_mk l_L_door d_L_door k_L_door, PySem.W.mg_of X G n_L_door, (fun_mk (st := tS 73) l_L_door d_L_door k_L_door).binds fun _ _ _ _ _ _ us hl => match us, hl with | [_, _], _ => rfl⟩
    f_L_same := ⟨_, _, fun_mk l_L_same d_L_same k_L_same, PySem.W.mg_of X G n_L_same, (fun_mk (st := tS 74) l_L_same d_L_same k_L_same).binds fun _ _ _ _ _ _ us hl => match us, hl with | [_, _], _ => rfl⟩
    f_L_kinds := ⟨_, _, fun_mk l_L_kinds d_L_kinds k_L_kinds, PySem.W.mg_of X G n_L_kinds, (fun_mk (st := tS 75) l_L_kinds d_L_kinds k_L_kinds).binds fun _ _ _ _ _ _ us hl => match us, hl with | [_, _], _ => rfl⟩
    f_L_graphs := ⟨_, _, fun_mk l_L_graphs d_L_graphs k_L_graphs, PySem.W.mg_of X G n_L_graphs, (fun_mk (st := tS 76) l_L_graphs d_L_graphs k_L_graphs).binds fun _ _ _ _ _ _ us hl => match us, hl with | [_, _], _ => rfl⟩
    f_law := ⟨_, _, fun_mk l_law d_law k_law, PySem.W.mg_of X G n_law, (fun_mk (st := tS 77) l_law d_law k_law).binds fun _ _ _ _ _ _ us hl => match us, hl with | [_], _ => rfl⟩
  }
  exact (fn_law T (fun_mk l_law d_law k_law)).imp (fun vs H Q E h => law_sp plain_law vs H Q E h)
end K04
open PySem PySem.W PyProof.Rows
set_option maxHeartbeats 0 in
theorem PySem.Challenge.cw_ratewarrant_k04_rates_before_and_makers_holds : PySem.Challenge.rw_ratewarrant_k04_rates_before_and_makers.Holds := by
  w_on; o_law; k_head; (case hw => w_witness2)
  k_fill
  refine L2.walk_of (l := PySem.Challenge.rw_ratewarrant_k04_rates_before_and_makers) (n := 63) (k := 10) (x := "script") (CX := fun w => L2.CX PySem.Challenge.rw_ratewarrant_k04_rates_before_and_makers.prog w) (sp := fun w => Bv.spLawB _) rfl (by decide) rfl ⟨rfl, by decide, by decide⟩ (fun w h Y => PySem.W.kIn_of Y) ?F (fun _ _ a ns hl _ hS => ⟨a, ns, rfl, hS, hl, fun _ => rfl⟩) (fun w H s e s' h => Bv.no_cx H s e s' h)
  case F =>
    intro w mg fa h KX G hmg
    refine' K04.all_mk KX G hmg ?z_ValueError ?z_abs ?z_all ?z_any ?z_bool ?z_enumerate ?z_int ?z_isinstance ?z_len ?z_list ?z_range ?z_str ?z_sum ?z_tuple ?v_FAR ?v_LETTERS ?v_MODULUS ?v_MOST_BLOCKS ?v_MOST_NAME ?v_MOST_PHASES ?v_MOST_QUEUES ?v_MOST_RATE ?v_MOST_START ?v_MOST_TIME ?v_SIGNS ?w_BadThing ?w_RateError ?z_super ?zth_any ?hn0 ?ht0 ?eC_BadThing ?tC_BadThing ?hC_BadThing ?eC_RateError ?tC_RateError ?hC_RateError ?ga_BadThing ?gg_BadThing ?gc_BadThing ?mo_BadThing ?ij_BadThing ?li_BadThing ?ci_BadThing ?co_BadThing ?vf_BadThing ?ff_BadThing ?cx_BadThing ?ti_BadThing ?xL_BadThing ?rf_BadThing ?sa_BadThing ?kC_BadThing ?mi_BadThing ?su_BadThing ?ve_BadThing ?ii_BadThing ?nf_BadThing_part ?sb_BadThing_BadThing ?sb_BadThing_RateError ?kt_BadThing_RateError ?kt_BadThing_ValueError ?n_whole ?l_whole ?d_whole ?k_whole ?n_is_numbers ?l_is_numbers ?d_is_numbers ?k_is_numbers ?n_is_name ?l_is_name ?d_is_name ?k_is_name ?n_is_times ?l_is_times ?d_is_times ?k_is_times ?n_is_deed ?l_is_deed ?d_is_deed ?k_is_deed ?n_is_block ?l_is_block ?d_is_block ?k_is_block ?n_is_rates ?l_is_rates ?d_is_rates ?k_is_rates ?n_is_start ?l_is_start ?d_is_start ?k_is_start ?n_is_queue ?l_is_queue ?d_is_queue ?k_is_queue ?n_is_graph ?l_is_graph ?d_is_graph ?k_is_graph ?n_check_graph ?l_check_graph ?d_check_graph ?k_check_graph ?n_is_place ?l_is_place ?d_is_place ?k_is_place ?n_phases ?l_phases ?d_phases ?k_phases ?n_check_block ?l_check_block ?d_check_block ?k_check_block ?n_check_queue ?l_check_queue ?d_check_queue ?k_check_queue ?n_sum_before ?l_sum_before ?d_sum_before ?k_sum_before ?n_firing_with ?l_firing_with ?d_firing_with ?k_firing_with ?n_incoming ?l_incoming ?d_incoming ?k_incoming ?n_outgoing ?l_outgoing ?d_outgoing ?k_outgoing ?n_into ?l_into ?d_into ?k_into ?n_out_of ?l_out_of ?d_out_of ?k_out_of ?n_given_before ?l_given_before ?d_given_before ?k_given_before ?n_taken_before ?l_taken_before ?d_taken_before ?k_taken_before ?n_producer ?l_producer ?d_producer ?k_producer ?n_L_begin ?l_L_begin ?d_L_begin ?k_L_begin ?n_L_draw ?l_L_draw ?d_L_draw ?k_L_draw ?n_L_pick ?l_L_pick ?d_L_pick ?k_L_pick ?n_L_pop ?l_L_pop ?d_L_pop ?k_L_pop ?n_L_rare ?l_L_rare ?d_L_rare ?k_L_rare ?n_L_pool ?l_L_pool ?d_L_pool ?k_L_pool ?n_L_is_int ?l_L_is_int ?d_L_is_int ?k_L_is_int ?n_L_is_ints ?l_L_is_ints ?d_L_is_ints ?k_L_is_ints ?n_L_token ?l_L_token ?d_L_token ?k_L_token ?n_L_tokens ?l_L_tokens ?d_L_tokens ?k_L_tokens ?n_L_before ?l_L_before ?d_L_before ?k_L_before ?n_L_row ?l_L_row ?d_L_row ?k_L_row ?n_L_made ?l_L_made ?d_L_made ?k_L_made ?n_L_number ?l_L_number ?d_L_number ?k_L_number ?n_L_sum ?l_L_sum ?d_L_sum ?k_L_sum ?n_L_right ?l_L_right ?d_L_right ?k_L_right ?n_L_told ?l_L_told ?d_L_told ?k_L_told ?n_L_block_refused ?l_L_block_refused ?d_L_block_refused ?k_L_block_refused ?n_L_ends ?l_L_ends ?d_L_ends ?k_L_ends ?n_L_turn ?l_L_turn ?d_L_turn ?k_L_turn ?n_L_refused ?l_L_refused ?d_L_refused ?k_L_refused ?n_L_in ?l_L_in ?d_L_in ?k_L_in ?n_L_row_in ?l_L_row_in ?d_L_row_in ?k_L_row_in ?n_L_named ?l_L_named ?d_L_named ?k_L_named ?n_L_block_due ?l_L_block_due ?d_L_block_due ?k_L_block_due ?n_L_queue_due ?l_L_queue_due ?d_L_queue_due ?k_L_queue_due ?n_L_graph_due ?l_L_graph_due ?d_L_graph_due ?k_L_graph_due ?n_L_row_spoilt ?l_L_row_spoilt ?d_L_row_spoilt ?k_L_row_spoilt ?n_L_name_spoilt ?l_L_name_spoilt ?d_L_name_spoilt ?k_L_name_spoilt ?n_L_block_spoilt ?l_L_block_spoilt ?d_L_block_spoilt ?k_L_block_spoilt ?n_L_queue_spoilt ?l_L_queue_spoilt ?d_L_queue_spoilt ?k_L_queue_spoilt ?n_L_graph_spoilt ?l_L_graph_spoilt ?d_L_graph_spoilt ?k_L_graph_spoilt ?n_L_door ?l_L_door ?d_L_door ?k_L_door ?n_L_same ?l_L_same ?d_L_same ?k_L_same ?n_L_kinds ?l_L_kinds ?d_L_kinds ?k_L_kinds ?n_L_graphs ?l_L_graphs ?d_L_graphs ?k_L_graphs ?n_law ?l_law ?d_law ?k_law
    (case z_ValueError => k_is)
    (case z_abs => k_is)
    (case z_all => k_is)
    (case z_any => k_is)
    (case z_bool => k_is)
    (case z_enumerate => k_is)
    (case z_int => k_is)
    (case z_isinstance => k_is)
    (case z_len => k_is)
    (case z_list => k_is)
    (case z_range => k_is)
    (case z_str => k_is)
    (case z_sum => k_is)
    (case z_tuple => k_is)
    (case v_FAR => k_is)
    (case v_LETTERS => k_is)
    (case v_MODULUS => k_is)
    (case v_MOST_BLOCKS => k_is)
    (case v_MOST_NAME => k_is)
    (case v_MOST_PHASES => k_is)
    (case v_MOST_QUEUES => k_is)
    (case v_MOST_RATE => k_is)
    (case v_MOST_START => k_is)
    (case v_MOST_TIME => k_is)
    (case v_SIGNS => k_is)
    (case w_BadThing => k_is)
    (case w_RateError => k_is)
    (case z_super => k_is)
    (case zth_any => k_is)
    (case hn0 => k_is)
    (case ht0 => k_is)
    (case eC_BadThing => k_is)
    (case tC_BadThing => k_is)
    (case hC_BadThing => k_is)
    (case eC_RateError => k_is)
    (case tC_RateError => k_is)
    (case hC_RateError => k_is)
    (case ga_BadThing => k_is)
    (case gg_BadThing => k_is)
    (case gc_BadThing => k_is)
    (case mo_BadThing => k_is)
    (case ij_BadThing => k_is)
    (case li_BadThing => k_is)
    (case ci_BadThing => k_is)
    (case co_BadThing => k_is)
    (case vf_BadThing => first | rfl | k_is)
    (case ff_BadThing => first | rfl | decide +kernel | k_is)
    (case cx_BadThing => k_is)
    (case ti_BadThing => k_is)
    (case xL_BadThing => k_is)
    (case rf_BadThing => first | rfl | decide +kernel | k_is)
    (case sa_BadThing => k_is)
    (case kC_BadThing => k_is)
    (case mi_BadThing => k_is)
    (case su_BadThing => first | rfl | kernel_rfl | k_is)
    (case ve_BadThing => k_is)
    (case ii_BadThing => k_is)
    (case nf_BadThing_part => k_is)
    (case sb_BadThing_BadThing => first | rfl | k_is | decide +kernel)
    (case sb_BadThing_RateError => first | rfl | k_is | decide +kernel)
    (case kt_BadThing_RateError => first | rfl | k_is | decide +kernel)
    (case kt_BadThing_ValueError => first | rfl | k_is | decide +kernel)
    (case n_whole => k_is)
    (case l_whole => k_is)
    (case d_whole => k_is)
    (case k_whole => k_is)
    (case n_is_numbers => k_is)
    (case l_is_numbers => k_is)
    (case d_is_numbers => k_is)
    (case k_is_numbers => k_is)
    (case n_is_name => k_is)
    (case l_is_name => k_is)
    (case d_is_name => k_is)
    (case k_is_name => k_is)
    (case n_is_times => k_is)
    (case l_is_times => k_is)
    (case d_is_times => k_is)
    (case k_is_times => k_is)
    (case n_is_deed => k_is)
    (case l_is_deed => k_is)
    (case d_is_deed => k_is)
    (case k_is_deed => k_is)
    (case n_is_block => k_is)
    (case l_is_block => k_is)
    (case d_is_block => k_is)
    (case k_is_block => k_is)
    (case n_is_rates => k_is)
    (case l_is_rates => k_is)
    (case d_is_rates => k_is)
    (case k_is_rates => k_is)
    (case n_is_start => k_is)
    (case l_is_start => k_is)
    (case d_is_start => k_is)
    (case k_is_start => k_is)
    (case n_is_queue => k_is)
    (case l_is_queue => k_is)
    (case d_is_queue => k_is)
    (case k_is_queue => k_is)
    (case n_is_graph => k_is)
    (case l_is_graph => k_is)
    (case d_is_graph => k_is)
    (case k_is_graph => k_is)
    (case n_check_graph => k_is)
    (case l_check_graph => k_is)
    (case d_check_graph => k_is)
    (case k_check_graph => k_is)
    (case n_is_place => k_is)
    (case l_is_place => k_is)
    (case d_is_place => k_is)
    (case k_is_place => k_is)
    (case n_phases => k_is)
    (case l_phases => k_is)
    (case d_phases => k_is)
    (case k_phases => k_is)
    (case n_check_block => k_is)
    (case l_check_block => k_is)
    (case d_check_block => k_is)
    (case k_check_block => k_is)
    (case n_check_queue => k_is)
    (case l_check_queue => k_is)
    (case d_check_queue => k_is)
    (case k_check_queue => k_is)
    (case n_sum_before => k_is)
    (case l_sum_before => k_is)
    (case d_sum_before => k_is)
    (case k_sum_before => k_is)
    (case n_firing_with => k_is)
    (case l_firing_with => k_is)
    (case d_firing_with => k_is)
    (case k_firing_with => k_is)
    (case n_incoming => k_is)
    (case l_incoming => k_is)
    (case d_incoming => k_is)
    (case k_incoming => k_is)
    (case n_outgoing => k_is)
    (case l_outgoing => k_is)
    (case d_outgoing => k_is)
    (case k_outgoing => k_is)
    (case n_into => k_is)
    (case l_into => k_is)
    (case d_into => k_is)
    (case k_into => k_is)
    (case n_out_of => k_is)
    (case l_out_of => k_is)
    (case d_out_of => k_is)
    (case k_out_of => k_is)
    (case n_given_before => k_is)
    (case l_given_before => k_is)
    (case d_given_before => k_is)
    (case k_given_before => k_is)
    (case n_taken_before => k_is)
    (case l_taken_before => k_is)
    (case d_taken_before => k_is)
    (case k_taken_before => k_is)
    (case n_producer => k_is)
    (case l_producer => k_is)
    (case d_producer => k_is)
    (case k_producer => k_is)
    (case n_L_begin => k_is)
    (case l_L_begin => k_is)
    (case d_L_begin => k_is)
    (case k_L_begin => k_is)
    (case n_L_draw => k_is)
    (case l_L_draw => k_is)
    (case d_L_draw => k_is)
    (case k_L_draw => k_is)
    (case n_L_pick => k_is)
    (case l_L_pick => k_is)
    (case d_L_pick => k_is)
    (case k_L_pick => k_is)
    (case n_L_pop => k_is)
    (case l_L_pop => k_is)
    (case d_L_pop => k_is)
    (case k_L_pop => k_is)
    (case n_L_rare => k_is)
    (case l_L_rare => k_is)
    (case d_L_rare => k_is)
    (case k_L_rare => k_is)
    (case n_L_pool => k_is)
    (case l_L_pool => k_is)
    (case d_L_pool => k_is)
    (case k_L_pool => k_is)
    (case n_L_is_int => k_is)
    (case l_L_is_int => k_is)
    (case d_L_is_int => k_is)
    (case k_L_is_int => k_is)
    (case n_L_is_ints => k_is)
    (case l_L_is_ints => k_is)
    (case d_L_is_ints => k_is)
    (case k_L_is_ints => k_is)
    (case n_L_token => k_is)
    (case l_L_token => k_is)
    (case d_L_token => k_is)
    (case k_L_token => k_is)
    (case n_L_tokens => k_is)
    (case l_L_tokens => k_is)
    (case d_L_tokens => k_is)
    (case k_L_tokens => k_is)
    (case n_L_before => k_is)
    (case l_L_before => k_is)
    (case d_L_before => k_is)
    (case k_L_before => k_is)
    (case n_L_row => k_is)
    (case l_L_row => k_is)
    (case d_L_row => k_is)
    (case k_L_row => k_is)
    (case n_L_made => k_is)
    (case l_L_made => k_is)
    (case d_L_made => k_is)
    (case k_L_made => k_is)
    (case n_L_number => k_is)
    (case l_L_number => k_is)
    (case d_L_number => k_is)
    (case k_L_number => k_is)
    (case n_L_sum => k_is)
    (case l_L_sum => k_is)
    (case d_L_sum => k_is)
    (case k_L_sum => k_is)
    (case n_L_right => k_is)
    (case l_L_right => k_is)
    (case d_L_right => k_is)
    (case k_L_right => k_is)
    (case n_L_told => k_is)
    (case l_L_told => k_is)
    (case d_L_told => k_is)
    (case k_L_told => k_is)
    (case n_L_block_refused => k_is)
    (case l_L_block_refused => k_is)
    (case d_L_block_refused => k_is)
    (case k_L_block_refused => k_is)
    (case n_L_ends => k_is)
    (case l_L_ends => k_is)
    (case d_L_ends => k_is)
    (case k_L_ends => k_is)
    (case n_L_turn => k_is)
    (case l_L_turn => k_is)
    (case d_L_turn => k_is)
    (case k_L_turn => k_is)
    (case n_L_refused => k_is)
    (case l_L_refused => k_is)
    (case d_L_refused => k_is)
    (case k_L_refused => k_is)
    (case n_L_in => k_is)
    (case l_L_in => k_is)
    (case d_L_in => k_is)
    (case k_L_in => k_is)
    (case n_L_row_in => k_is)
    (case l_L_row_in => k_is)
    (case d_L_row_in => k_is)
    (case k_L_row_in => k_is)
    (case n_L_named => k_is)
    (case l_L_named => k_is)
    (case d_L_named => k_is)
    (case k_L_named => k_is)
    (case n_L_block_due => k_is)
    (case l_L_block_due => k_is)
    (case d_L_block_due => k_is)
    (case k_L_block_due => k_is)
    (case n_L_queue_due => k_is)
    (case l_L_queue_due => k_is)
    (case d_L_queue_due => k_is)
    (case k_L_queue_due => k_is)
    (case n_L_graph_due => k_is)
    (case l_L_graph_due => k_is)
    (case d_L_graph_due => k_is)
    (case k_L_graph_due => k_is)
    (case n_L_row_spoilt => k_is)
    (case l_L_row_spoilt => k_is)
    (case d_L_row_spoilt => k_is)
    (case k_L_row_spoilt => k_is)
    (case n_L_name_spoilt => k_is)
    (case l_L_name_spoilt => k_is)
    (case d_L_name_spoilt => k_is)
    (case k_L_name_spoilt => k_is)
    (case n_L_block_spoilt => k_is)
    (case l_L_block_spoilt => k_is)
    (case d_L_block_spoilt => k_is)
    (case k_L_block_spoilt => k_is)
    (case n_L_queue_spoilt => k_is)
    (case l_L_queue_spoilt => k_is)
    (case d_L_queue_spoilt => k_is)
    (case k_L_queue_spoilt => k_is)
    (case n_L_graph_spoilt => k_is)
    (case l_L_graph_spoilt => k_is)
    (case d_L_graph_spoilt => k_is)
    (case k_L_graph_spoilt => k_is)
    (case n_L_door => k_is)
    (case l_L_door => k_is)
    (case d_L_door => k_is)
    (case k_L_door => k_is)
    (case n_L_same => k_is)
    (case l_L_same => k_is)
    (case d_L_same => k_is)
    (case k_L_same => k_is)
    (case n_L_kinds => k_is)
    (case l_L_kinds => k_is)
    (case d_L_kinds => k_is)
    (case k_L_kinds => k_is)
    (case n_L_graphs => k_is)
    (case l_L_graphs => k_is)
    (case d_L_graphs => k_is)
    (case k_L_graphs => k_is)
    (case n_law => k_is)
    (case l_law => k_is)
    (case d_law => k_is)
    (case k_law => k_is)
