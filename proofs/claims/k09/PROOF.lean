import PyProof.Rows.All
import Wide.All
import OpenK.AllK
import Wide.FinOn
import HandS.ForExc
import HandS.ForMost
import HandS.Wide
import HandS.IsInst
import HandS.ExcIs
import PySem.Challenge.RW_boxnarrow_k09_back_through_powers
set_option Elab.async false
set_option linter.all false
set_option maxRecDepth 100000
/-! Values as trees; who owns what. -/
namespace Bn
open PySem PySem.Spec PyProof.Rows L2

inductive D where
  | non | bl (b : Bool) | int (i : Int) | str (s : Str) | ty (n : String)
  | tup (xs : List D)
  | lst (m : Bool) (xs : List D)
  | cst (xs : List D)
  | obj (m : Bool) (c : Str) (ns : List Str) (xs : List D)
  deriving Inhabited
abbrev Env := List (Option D)
abbrev Ct := Addr → Nat

def isFz : D → Bool
  | .lst true _ => false
  | .obj true _ _ _ => false
  | _ => true

mutual
def freeze : D → D
  | .lst true xs => .lst false (freezeL xs)
  | .lst false xs => .lst false xs
  | .obj true c ns xs => .obj false c ns (freezeL xs)
  | .obj false c ns xs => .obj false c ns xs
  | .non => .non | .bl b => .bl b | .int i => .int i | .str s => .str s | .ty n => .ty n | .tup xs => .tup xs | .cst xs => .cst xs
def freezeL : List D → List D
  | [] => []
  | x :: xs => freeze x :: freezeL xs
end

section
variable (K : PySem.W.Frag) (ca : Str → Addr)
mutual
/-- d stands at v, in the part F of the heap that never changes -/
def Rep (F : Hp) : D → V → Prop
  | .non, v => v = .non
  | .bl b, v => v = .bl b
  | .int i, v => v = .int i
  | .str s, v => v = .str s
  | .ty n, v => v = .ty n
  | .tup ds, v => ∃ a vs, v = .ref a ∧ SqT K F a vs ∧ RepL F ds vs
  | .lst true _, _ => False
  | .lst false ds, v => ∃ a vs, v = .ref a ∧ F a = some (.lst vs) ∧ RepL F ds vs
  | .cst ds, v => ∃ a vs, v = .ref a ∧ SqL K F a vs ∧ RepL F ds vs
  | .obj true _ _ _, _ => False
  | .obj false c ns ds, v => ∃ a dx fs vs, v = .ref a ∧ F a = some (.ins (ca c) dx fs) ∧ fs = ns.zip vs ∧ ns.length = vs.length ∧ RepL F ds vs
def RepL (F : Hp) : List D → List V → Prop
  | [], vs => vs = []
  | d :: ds, vs => ∃ v r, vs = v :: r ∧ Rep F d v ∧ RepL F ds r
end
mutual
/-- d stands at v; what it owns is counted by the last argument -/
def RepO (F H : Hp) : D → V → Ct → Prop
  | .lst true ds, v, f => ∃ a vs g, v = .ref a ∧ H a = some (.lst vs) ∧ RepOs F H ds vs g ∧ ∀ b, f b = (if b = a then 1 else 0) + g b
  | .obj true c ns ds, v, f => ∃ a dx fs vs g, v = .ref a ∧ H a = some (.ins (ca c) dx fs) ∧ fs = ns.zip vs ∧ ns.length = vs.length ∧ RepOs F H ds vs g ∧ ∀ b, f b = (if b = a then 1 else 0) + g b
  | .lst false ds, v, f => Rep K ca F (.lst false ds) v ∧ ∀ b, f b = 0
  | .obj false c ns ds, v, f => Rep K ca F (.obj false c ns ds) v ∧ ∀ b, f b = 0
  | .non, v, f => Rep K ca F .non v ∧ ∀ b, f b = 0
  | .bl x, v, f => Rep K ca F (.bl x) v ∧ ∀ b, f b = 0
  | .int x, v, f => Rep K ca F (.int x) v ∧ ∀ b, f b = 0
  | .str x, v, f => Rep K ca F (.str x) v ∧ ∀ b, f b = 0
  | .ty x, v, f => Rep K ca F (.ty x) v ∧ ∀ b, f b = 0
  | .tup x, v, f => Rep K ca F (.tup x) v ∧ ∀ b, f b = 0
  | .cst x, v, f => Rep K ca F (.cst x) v ∧ ∀ b, f b = 0
def RepOs (F H : Hp) : List D → List V → Ct → Prop
  | [], vs, f => vs = [] ∧ ∀ b, f b = 0
  | d :: ds, vs, f => ∃ v r f1 f2, vs = v :: r ∧ RepO F H d v f1 ∧ RepOs F H ds r f2 ∧ ∀ b, f b = f1 b + f2 b
end
end

section
variable {K : PySem.W.Frag} {ca : Str → Addr} {F F' H H' : Hp}

theorem sqT_same {K : PySem.W.Frag} {H H' : Hp} {a : Addr} {xs : List V} (e : Same H H') (h : SqT K H a xs) : SqT K H' a xs := by
  rcases h with (h | ⟨o, h⟩) | h
  · exact .inl (.inl (e _ _ h))
  · exact .inl (.inr ⟨o, e _ _ h⟩)
  · exact .inr h

mutual
theorem Rep.mono (e : Same F F') : ∀ (d : D) (v : V), Rep K ca F d v → Rep K ca F' d v
  | .non, _, h => h
  | .bl _, _, h => h
  | .int _, _, h => h
  | .str _, _, h => h
  | .ty _, _, h => h
  | .tup ds, v, h => by
    obtain ⟨a, vs, h1, h2, h3⟩ := h
    exact ⟨a, vs, h1, sqT_same e h2, RepL.mono e ds vs h3⟩
  | .lst true _, _, h => h
  | .lst false ds, v, h => by
    obtain ⟨a, vs, h1, h2, h3⟩ := h
    exact ⟨a, vs, h1, e _ _ h2, RepL.mono e ds vs h3⟩
  | .cst ds, v, h => by
    obtain ⟨a, vs, h1, h2, h3⟩ := h
    exact ⟨a, vs, h1, e.seq h2, RepL.mono e ds vs h3⟩
  | .obj true _ _ _, _, h => h
  | .obj false c ns ds, v, h => by
    obtain ⟨a, dx, fs, vs, h1, h2, h3, h4, h5⟩ := h
    exact ⟨a, dx, fs, vs, h1, e _ _ h2, h3, h4, RepL.mono e ds vs h5⟩
theorem RepL.mono (e : Same F F') : ∀ (ds : List D) (vs : List V), RepL K ca F ds vs → RepL K ca F' ds vs
  | [], _, h => h
  | d :: ds, _, h => by
    obtain ⟨v, r, h1, h2, h3⟩ := h
    exact ⟨v, r, h1, Rep.mono e d v h2, RepL.mono e ds r h3⟩
end

theorem repO_fz {d : D} (hd : isFz d = true) {v : V} {f : Ct} : RepO K ca F H d v f ↔ (Rep K ca F d v ∧ ∀ b, f b = 0) := by
  cases d with
  | lst m xs => cases m with
    | true => cases hd
    | false => exact Iff.rfl
  | obj m c ns xs => cases m with
    | true => cases hd
    | false => exact Iff.rfl
  | _ => exact Iff.rfl

theorem rep_isFz {d : D} {v : V} (h : Rep K ca F d v) : isFz d = true := by
  cases d with
  | lst m xs => cases m with
    | true => exact h.elim
    | false => rfl
  | obj m c ns xs => cases m with
    | true => exact h.elim
    | false => rfl
  | _ => rfl

theorem Rep.o {d : D} {v : V} (h : Rep K ca F d v) : RepO K ca F H d v (fun _ => 0) := (repO_fz (rep_isFz h)).mpr ⟨h, fun _ => rfl⟩
theorem RepL.os : ∀ {ds : List D} {vs : List V}, RepL K ca F ds vs → RepOs K ca F H ds vs (fun _ => 0)
  | [], _, h => ⟨h, fun _ => rfl⟩
  | _ :: _, _, ⟨v, r, h1, h2, h3⟩ => ⟨v, r, _, _, h1, h2.o, h3.os, fun _ => rfl⟩

mutual
theorem RepO.mono (e : Same F F') : ∀ (d : D) (v : V) (f : Ct), (∀ a, 0 < f a → H' a = H a) → RepO K ca F H d v f → RepO K ca F' H' d v f
  | .lst true ds, v, f, k, h => by
    obtain ⟨a, vs, g, h1, h2, h3, h4⟩ := h
    refine ⟨a, vs, g, h1, (k a (by rw [h4, if_pos rfl]; omega)).trans h2, RepOs.mono e ds vs g (fun b hb => k b (by rw [h4]; omega)) h3, h4⟩
  | .obj true c ns ds, v, f, k, h => by
    obtain ⟨a, dx, fs, vs, g, h1, h2, h5, h6, h3, h4⟩ := h
    refine ⟨a, dx, fs, vs, g, h1, (k a (by rw [h4, if_pos rfl]; omega)).trans h2, h5, h6, RepOs.mono e ds vs g (fun b hb => k b (by rw [h4]; omega)) h3, h4⟩
  | .lst false ds, v, f, k, h => ⟨Rep.mono e _ _ h.1, h.2⟩
  | .obj false c ns ds, v, f, k, h => ⟨Rep.mono e _ _ h.1, h.2⟩
  | .non, v, f, k, h => ⟨Rep.mono e _ _ h.1, h.2⟩
  | .bl _, v, f, k, h => ⟨Rep.mono e _ _ h.1, h.2⟩
  | .int _, v, f, k, h => ⟨Rep.mono e _ _ h.1, h.2⟩
  | .str _, v, f, k, h => ⟨Rep.mono e _ _ h.1, h.2⟩
  | .ty _, v, f, k, h => ⟨Rep.mono e _ _ h.1, h.2⟩
  | .tup _, v, f, k, h => ⟨Rep.mono e _ _ h.1, h.2⟩
  | .cst _, v, f, k, h => ⟨Rep.mono e _ _ h.1, h.2⟩
theorem RepOs.mono (e : Same F F') : ∀ (ds : List D) (vs : List V) (f : Ct), (∀ a, 0 < f a → H' a = H a) → RepOs K ca F H ds vs f → RepOs K ca F' H' ds vs f
  | [], _, _, _, h => h
  | d :: ds, _, f, k, h => by
    obtain ⟨v, r, f1, f2, h1, h2, h3, h4⟩ := h
    exact ⟨v, r, f1, f2, h1, RepO.mono e d v f1 (fun b hb => k b (by rw [h4]; omega)) h2, RepOs.mono e ds r f2 (fun b hb => k b (by rw [h4]; omega)) h3, h4⟩
end

mutual
theorem RepO.there : ∀ (d : D) (v : V) (f : Ct), RepO K ca F H d v f → ∀ a, 0 < f a → H a ≠ none
  | .lst true ds, v, f, h, b, hb => by
    obtain ⟨a, vs, g, h1, h2, h3, h4⟩ := h
    by_cases e : b = a
    · subst e; rw [h2]; exact fun z => by cases z
    · rw [h4, if_neg e] at hb; exact RepOs.there ds vs g h3 b (by omega)
  | .obj true c ns ds, v, f, h, b, hb => by
    obtain ⟨a, dx, fs, vs, g, h1, h2, h5, h6, h3, h4⟩ := h
    by_cases e : b = a
    · subst e; rw [h2]; exact fun z => by cases z
    · rw [h4, if_neg e] at hb; exact RepOs.there ds vs g h3 b (by omega)
  | .lst false ds, v, f, h, b, hb => by rw [h.2] at hb; omega
  | .obj false c ns ds, v, f, h, b, hb => by rw [h.2] at hb; omega
  | .non, v, f, h, b, hb => by rw [h.2] at hb; omega
  | .bl _, v, f, h, b, hb => by rw [h.2] at hb; omega
  | .int _, v, f, h, b, hb => by rw [h.2] at hb; omega
  | .str _, v, f, h, b, hb => by rw [h.2] at hb; omega
  | .ty _, v, f, h, b, hb => by rw [h.2] at hb; omega
  | .tup _, v, f, h, b, hb => by rw [h.2] at hb; omega
  | .cst _, v, f, h, b, hb => by rw [h.2] at hb; omega
theorem RepOs.there : ∀ (ds : List D) (vs : List V) (f : Ct), RepOs K ca F H ds vs f → ∀ a, 0 < f a → H a ≠ none
  | [], _, f, h, b, hb => by rw [h.2] at hb; omega
  | d :: ds, _, f, h, b, hb => by
    obtain ⟨v, r, f1, f2, h1, h2, h3, h4⟩ := h
    rw [h4] at hb
    by_cases q : 0 < f1 b
    · exact RepO.there d v f1 h2 b q
    · exact RepOs.there ds r f2 h3 b (by omega)
end

mutual
theorem RepO.fz (e : Same F F') : ∀ (d : D) (v : V) (f : Ct), (∀ a, 0 < f a → F' a = H a) → RepO K ca F H d v f → Rep K ca F' (freeze d) v
  | .lst true ds, v, f, k, h => by
    obtain ⟨a, vs, g, h1, h2, h3, h4⟩ := h
    exact ⟨a, vs, h1, (k a (by rw [h4, if_pos rfl]; omega)).trans h2, RepOs.fz e ds vs g (fun b hb => k b (by rw [h4]; omega)) h3⟩
  | .obj true c ns ds, v, f, k, h => by
    obtain ⟨a, dx, fs, vs, g, h1, h2, h5, h6, h3, h4⟩ := h
    exact ⟨a, dx, fs, vs, h1, (k a (by rw [h4, if_pos rfl]; omega)).trans h2, h5, h6, RepOs.fz e ds vs g (fun b hb => k b (by rw [h4]; omega)) h3⟩
  | .lst false ds, v, f, k, h => Rep.mono e _ _ h.1
  | .obj false c ns ds, v, f, k, h => Rep.mono e _ _ h.1
  | .non, v, f, k, h => Rep.mono e _ _ h.1
  | .bl _, v, f, k, h => Rep.mono e _ _ h.1
  | .int _, v, f, k, h => Rep.mono e _ _ h.1
  | .str _, v, f, k, h => Rep.mono e _ _ h.1
  | .ty _, v, f, k, h => Rep.mono e _ _ h.1
  | .tup _, v, f, k, h => Rep.mono e _ _ h.1
  | .cst _, v, f, k, h => Rep.mono e _ _ h.1
theorem RepOs.fz (e : Same F F') : ∀ (ds : List D) (vs : List V) (f : Ct), (∀ a, 0 < f a → F' a = H a) → RepOs K ca F H ds vs f → RepL K ca F' (freezeL ds) vs
  | [], _, _, _, h => h.1
  | d :: ds, _, f, k, h => by
    obtain ⟨v, r, f1, f2, h1, h2, h3, h4⟩ := h
    exact ⟨v, r, h1, RepO.fz e d v f1 (fun b hb => k b (by rw [h4]; omega)) h2, RepOs.fz e ds r f2 (fun b hb => k b (by rw [h4]; omega)) h3⟩
end

theorem RepL.length : ∀ {ds : List D} {vs : List V}, RepL K ca F ds vs → vs.length = ds.length
  | [], _, h => by have h : _ = [] := h; rw [h]; rfl
  | _ :: _, _, ⟨v, r, h1, h2, h3⟩ => by rw [h1, List.length_cons, List.length_cons, h3.length]
theorem RepOs.length : ∀ {ds : List D} {vs : List V} {f : Ct}, RepOs K ca F H ds vs f → vs.length = ds.length
  | [], _, _, h => by rw [h.1]; rfl
  | _ :: _, _, _, ⟨v, r, _, _, h1, h2, h3, _⟩ => by rw [h1, List.length_cons, List.length_cons, h3.length]
theorem RepL.get : ∀ {ds : List D} {vs : List V} {i : Nat} {d : D}, RepL K ca F ds vs → ds[i]? = some d → ∃ v, vs[i]? = some v ∧ Rep K ca F d v
  | [], _, _, _, _, e => by simp at e
  | d :: _, _, 0, _, ⟨v, r, h1, h2, h3⟩, e => by simp at e; subst e; subst h1; exact ⟨v, rfl, h2⟩
  | _ :: _, _, i + 1, d, ⟨v, r, h1, h2, h3⟩, e => by subst h1; simpa using h3.get (i := i) (by simpa using e)
theorem RepOs.get : ∀ {ds : List D} {vs : List V} {f : Ct} {i : Nat} {d : D}, RepOs K ca F H ds vs f → ds[i]? = some d → ∃ v g, vs[i]? = some v ∧ RepO K ca F H d v g
  | [], _, _, _, _, _, e => by simp at e
  | d :: _, _, _, 0, _, ⟨v, r, f1, f2, h1, h2, h3, _⟩, e => by simp at e; subst e; subst h1; exact ⟨v, f1, rfl, h2⟩
  | _ :: _, _, _, i + 1, d, ⟨v, r, f1, f2, h1, h2, h3, _⟩, e => by subst h1; simpa using h3.get (i := i) (by simpa using e)
theorem RepOs.append : ∀ {ds es : List D} {vs us : List V} {f g : Ct}, RepOs K ca F H ds vs f → RepOs K ca F H es us g → RepOs K ca F H (ds ++ es) (vs ++ us) (fun b => f b + g b)
  | [], es, _, us, f, g, h, k => by
    obtain ⟨rfl, h2⟩ := h
    have e : (fun b => f b + g b) = g := funext fun b => by rw [h2]; omega
    rw [e]; exact k
  | _ :: _, _, _, _, f, g, ⟨v, r, f1, f2, h1, h2, h3, h4⟩, k => by
    subst h1
    exact ⟨v, _, f1, _, rfl, h2, h3.append k, fun b => by show f b + g b = f1 b + (f2 b + g b); rw [h4]; omega⟩
theorem RepOs.split : ∀ {ds es : List D} {ws : List V} {f : Ct}, RepOs K ca F H (ds ++ es) ws f → ∃ vs us g1 g2, ws = vs ++ us ∧ RepOs K ca F H ds vs g1 ∧ RepOs K ca F H es us g2 ∧ ∀ b, f b = g1 b + g2 b
  | [], es, ws, f, h => ⟨[], ws, fun _ => 0, f, rfl, ⟨rfl, fun _ => rfl⟩, h, fun b => by show f b = 0 + f b; omega⟩
  | _ :: _, _, _, f, ⟨v, r, f1, f2, h1, h2, h3, h4⟩ => by
    obtain ⟨vs, us, g1, g2, e, k1, k2, k3⟩ := RepOs.split h3
    subst h1; subst e
    exact ⟨v :: vs, us, fun b => f1 b + g1 b, g2, rfl, ⟨v, vs, f1, g1, rfl, h2, k1, fun _ => rfl⟩, k2, fun b => by show f b = (f1 b + g1 b) + g2 b; rw [h4, k3]; omega⟩
theorem RepOs.split' {ds es : List D} {vs us : List V} {f : Ct} (h : RepOs K ca F H (ds ++ es) (vs ++ us) f) (hl : vs.length = ds.length) : ∃ g1 g2, RepOs K ca F H ds vs g1 ∧ RepOs K ca F H es us g2 ∧ ∀ b, f b = g1 b + g2 b := by
  obtain ⟨vs', us', g1, g2, e, k1, k2, k3⟩ := h.split
  have hl' := k1.length
  obtain ⟨rfl, rfl⟩ := List.append_inj e (by omega)
  exact ⟨g1, g2, k1, k2, k3⟩
end

/-! ### the slots -/
section
variable (K : PySem.W.Frag) (ca : Str → Addr) (F H : Hp)
def Sl : Env → L2.St → Ct → Prop
  | [], σ, f => σ = [] ∧ ∀ b, f b = 0
  | none :: τ, σ, f => ∃ x r, σ = x :: r ∧ Sl τ r f
  | some d :: τ, σ, f => ∃ v r f1 f2, σ = some v :: r ∧ RepO K ca F H d v f1 ∧ Sl τ r f2 ∧ ∀ b, f b = f1 b + f2 b
end
section
variable {K : PySem.W.Frag} {ca : Str → Addr} {F F' H H' : Hp}
theorem Sl.mono (e : Same F F') : ∀ {τ : Env} {σ : L2.St} {f : Ct}, (∀ a, 0 < f a → H' a = H a) → Sl K ca F H τ σ f → Sl K ca F' H' τ σ f
  | [], _, _, _, h => h
  | none :: _, _, _, k, ⟨x, r, h1, h2⟩ => ⟨x, r, h1, Sl.mono e k h2⟩
  | some _ :: _, _, f, k, ⟨v, r, f1, f2, h1, h2, h3, h4⟩ => ⟨v, r, f1, f2, h1, RepO.mono e _ _ _ (fun b hb => k b (by rw [h4]; omega)) h2, Sl.mono e (fun b hb => k b (by rw [h4]; omega)) h3, h4⟩
theorem Sl.there : ∀ {τ : Env} {σ : L2.St} {f : Ct}, Sl K ca F H τ σ f → ∀ a, 0 < f a → H a ≠ none
  | [], _, _, h, b, hb => by rw [h.2] at hb; omega
  | none :: _, _, _, ⟨x, r, h1, h2⟩, b, hb => Sl.there h2 b hb
  | some _ :: _, _, f, ⟨v, r, f1, f2, h1, h2, h3, h4⟩, b, hb => by
    rw [h4] at hb
    by_cases q : 0 < f1 b
    · exact RepO.there _ v f1 h2 b q
    · exact Sl.there h3 b (by omega)
theorem Sl.length : ∀ {τ : Env} {σ : L2.St} {f : Ct}, Sl K ca F H τ σ f → σ.length = τ.length
  | [], _, _, h => by rw [h.1]; rfl
  | none :: _, _, _, ⟨x, r, h1, h2⟩ => by rw [h1, List.length_cons, List.length_cons, Sl.length h2]
  | some _ :: _, _, f, ⟨v, r, f1, f2, h1, h2, h3, h4⟩ => by rw [h1, List.length_cons, List.length_cons, Sl.length h3]
theorem Sl.get : ∀ {τ : Env} {σ : L2.St} {f : Ct} {i : Nat} {d : D}, Sl K ca F H τ σ f → τ[i]? = some (some d) → ∃ v g, σ[i]? = some (some v) ∧ RepO K ca F H d v g
  | [], _, _, _, _, _, e => by simp at e
  | none :: _, _, _, 0, _, _, e => by simp at e
  | none :: _, _, _, i + 1, _, ⟨x, r, h1, h2⟩, e => by subst h1; simpa using Sl.get (i := i) h2 (by simpa using e)
  | some _ :: _, _, _, 0, _, ⟨v, r, f1, f2, h1, h2, h3, h4⟩, e => by simp at e; subst e; subst h1; exact ⟨v, f1, rfl, h2⟩
  | some _ :: _, _, _, i + 1, _, ⟨v, r, f1, f2, h1, h2, h3, h4⟩, e => by subst h1; simpa using Sl.get (i := i) h3 (by simpa using e)
/-- a slot gives away what it has -/
theorem Sl.take : ∀ {τ : Env} {σ : L2.St} {f : Ct} {i : Nat} {d : D}, Sl K ca F H τ σ f → τ[i]? = some (some d) → ∃ v g1 g2, σ[i]? = some (some v) ∧ RepO K ca F H d v g1 ∧ Sl K ca F H (τ.set i none) σ g2 ∧ ∀ b, f b = g1 b + g2 b
  | [], _, _, _, _, _, e => by simp at e
  | none :: _, _, _, 0, _, _, e => by simp at e
  | none :: _, _, _, i + 1, _, ⟨x, r, h1, h2⟩, e => by
    subst h1
    obtain ⟨v, g1, g2, k1, k2, k3, k4⟩ := Sl.take (i := i) h2 (by simpa using e)
    exact ⟨v, g1, g2, by simpa using k1, k2, ⟨x, r, rfl, k3⟩, k4⟩
  | some _ :: _, _, _, 0, _, ⟨v, r, f1, f2, h1, h2, h3, h4⟩, e => by simp at e; subst e; subst h1; exact ⟨v, f1, f2, rfl, h2, ⟨_, r, rfl, h3⟩, h4⟩
  | some _ :: _, _, f, i + 1, _, ⟨v, r, f1, f2, h1, h2, h3, h4⟩, e => by
    subst h1
    obtain ⟨v', g1, g2, k1, k2, k3, k4⟩ := Sl.take (i := i) h3 (by simpa using e)
    exact ⟨v', g1, fun b => f1 b + g2 b, by simpa using k1, k2, ⟨v, r, f1, g2, rfl, h2, k3, fun _ => rfl⟩, fun b => by show f b = g1 b + (f1 b + g2 b); rw [h4, k4]; omega⟩
/-- a slot takes a value -/
theorem Sl.put : ∀ {τ : Env} {σ : L2.St} {f : Ct} {i : Nat} {d : D} {v : V} {g : Ct}, Sl K ca F H τ σ f → i < τ.length → RepO K ca F H d v g → ∃ f2, Sl K ca F H (τ.set i (some d)) (σ.set i (some v)) f2 ∧ ∀ b, f2 b ≤ f b + g b
  | [], _, _, _, _, _, _, _, e, _ => by simp at e
  | none :: _, _, f, 0, _, v, g, ⟨x, r, h1, h2⟩, e, hv => by subst h1; exact ⟨fun b => g b + f b, ⟨v, r, g, f, rfl, hv, h2, fun _ => rfl⟩, fun b => by show g b + f b ≤ f b + g b; omega⟩
  | none :: _, _, f, i + 1, _, v, g, ⟨x, r, h1, h2⟩, e, hv => by
    subst h1
    obtain ⟨f2, k1, k2⟩ := Sl.put (i := i) h2 (by simpa using e) hv
    exact ⟨f2, ⟨x, _, rfl, k1⟩, k2⟩
  | some _ :: _, _, f, 0, _, v, g, ⟨w, r, f1, f2, h1, h2, h3, h4⟩, e, hv => by subst h1; exact ⟨fun b => g b + f2 b, ⟨v, r, g, f2, rfl, hv, h3, fun _ => rfl⟩, fun b => by show g b + f2 b ≤ f b + g b; rw [h4]; omega⟩
  | some _ :: _, _, f, i + 1, _, v, g, ⟨w, r, f1, f2, h1, h2, h3, h4⟩, e, hv => by
    subst h1
    obtain ⟨f3, k1, k2⟩ := Sl.put (i := i) h3 (by simpa using e) hv
    exact ⟨fun b => f1 b + f3 b, ⟨w, _, f1, f3, rfl, h2, k1, fun _ => rfl⟩, fun b => by show f1 b + f3 b ≤ f b + g b; have := k2 b; rw [h4]; omega⟩
/-- a slot forgets what it has -/
theorem Sl.drop : ∀ {τ : Env} {σ : L2.St} {f : Ct} {i : Nat}, Sl K ca F H τ σ f → ∃ f2, Sl K ca F H (τ.set i none) σ f2 ∧ ∀ b, f2 b ≤ f b := fun {τ σ f i} h => by
  cases e : τ[i]? with
  | none => rw [List.set_eq_of_length_le (by simpa using e)]; exact ⟨f, h, fun _ => Nat.le_refl _⟩
  | some x =>
    cases x with
    | none =>
      have : τ.set i none = τ := by
        apply List.ext_getElem?
        intro j
        rw [List.getElem?_set]
        split
        · rename_i q; subst q; split
          · exact e.symm
          · rename_i hl; rw [List.getElem?_eq_none (by omega)]
        · rfl
      rw [this]; exact ⟨f, h, fun _ => Nat.le_refl _⟩
    | some d =>
      obtain ⟨v, g1, g2, _, _, k, q⟩ := h.take e
      exact ⟨g2, k, fun b => by rw [q]; omega⟩
end

/-! ### the state -/
/-- what is fixed while a def's body runs: the classes' places, the unchanging part and the rest of the heap at its entry, the parameters that are handed to be changed -/
structure Bx where
  ca : Str → Addr
  F0 : Hp
  R : Hp
  io : List (Nat × V)
structure Wd (B : Bx) (F H : Hp) (f : Ct) : Prop where
  nd : ∀ a, f a ≤ 1
  dF : ∀ a, 0 < f a → F a = none
  dR : ∀ a, 0 < f a → B.R a = none
  sF : Same F H
  sR : Same B.R H
  s0 : Same B.F0 F
  fr : ∀ a, F a ≠ none → B.F0 a ≠ none ∨ B.R a = none
def IoOk (B : Bx) (σ : L2.St) : Prop := ∀ p ∈ B.io, σ[p.1]? = some (some p.2)
def StT (K : PySem.W.Frag) (B : Bx) (F H : Hp) (σ : L2.St) (τ : Env) (vs : List V) (ds : List D) : Prop :=
  ∃ f1 f2, Sl K B.ca F H τ σ f1 ∧ RepOs K B.ca F H ds vs f2 ∧ Wd B F H (fun b => f1 b + f2 b) ∧ IoOk B σ

theorem Wd.less {B : Bx} {F H : Hp} {f g : Ct} (w : Wd B F H f) (h : ∀ b, g b ≤ f b) : Wd B F H g :=
  ⟨fun a => Nat.le_trans (h a) (w.nd a), fun a q => w.dF a (Nat.lt_of_lt_of_le q (h a)), fun a q => w.dR a (Nat.lt_of_lt_of_le q (h a)), w.sF, w.sR, w.s0, w.fr⟩

theorem same_upd {H : Hp} {p : Addr} {o : HO} (h : H p = none) : Same H (upd H p o) := fun b x e => by
  rw [upd_ne (ne_of_none e h)]
  exact e
/-- something new, unowned, that never changes -/
theorem Wd.frozen {B : Bx} {F H : Hp} {f : Ct} {p : Addr} {o : HO} (w : Wd B F H f) (hp : H p = none) : Wd B (upd F p o) (upd H p o) (fun a => if a = p then 0 else f a) := by
  have hF : F p = none := by
    cases e : F p with
    | none => rfl
    | some x => rw [w.sF _ _ e] at hp; cases hp
  have hR : B.R p = none := by
    cases e : B.R p with
    | none => rfl
    | some x => rw [w.sR _ _ e] at hp; cases hp
  refine ⟨fun a => ?_, fun a q => ?_, fun a q => ?_, fun b x e => ?_, fun b x e => ?_, fun b x e => ?_, fun a q => ?_⟩
  · show (if a = p then 0 else f a) ≤ 1
    split
    · omega
    · exact w.nd a
  · have q : 0 < (if a = p then 0 else f a) := q
    split at q
    · omega
    · rw [upd_ne (by assumption)]; exact w.dF a q
  · have q : 0 < (if a = p then 0 else f a) := q
    split at q
    · omega
    · exact w.dR a q
  · by_cases h : b = p
    · subst h; rw [upd_same] at e ⊢; exact e
    · rw [upd_ne h] at e ⊢; exact w.sF b x e
  · rw [upd_ne (ne_of_none (w.sR b x e) hp)]; exact w.sR b x e
  · rw [upd_ne (ne_of_none (w.s0 b x e) hF)]; exact w.s0 b x e
  · by_cases h : a = p
    · subst h; exact .inr hR
    · rw [upd_ne h] at q; exact w.fr a q
/-- something new that is owned -/
theorem Wd.owned {B : Bx} {F H : Hp} {f : Ct} {p : Addr} {o : HO} (w : Wd B F H f) (hp : H p = none) (hf : f p = 0) : Wd B F (upd H p o) (fun a => (if a = p then 1 else 0) + f a) := by
  have hF : F p = none := by
    cases e : F p with
    | none => rfl
    | some x => rw [w.sF _ _ e] at hp; cases hp
  have hR : B.R p = none := by
    cases e : B.R p with
    | none => rfl
    | some x => rw [w.sR _ _ e] at hp; cases hp
  refine ⟨fun a => ?_, fun a q => ?_, fun a q => ?_, fun b x e => ?_, fun b x e => ?_, w.s0, w.fr⟩
  · show (if a = p then 1 else 0) + f a ≤ 1
    split
    · rename_i h; rw [h, hf]; omega
    · have := w.nd a; omega
  · have q : 0 < (if a = p then 1 else 0) + f a := q
    split at q
    · rename_i h; rw [h]; exact hF
    · exact w.dF a (by omega)
  · have q : 0 < (if a = p then 1 else 0) + f a := q
    split at q
    · rename_i h; rw [h]; exact hR
    · exact w.dR a (by omega)
  · rw [upd_ne (ne_of_none (w.sF b x e) hp)]; exact w.sF b x e
  · rw [upd_ne (ne_of_none (w.sR b x e) hp)]; exact w.sR b x e

/-- what is owned by es is given up: the unchanging part grows by it -/
def grow (F H : Hp) (f : Ct) : Hp := fun a => if 0 < f a then H a else F a
theorem same_grow {B : Bx} {F H : Hp} {f g : Ct} (w : Wd B F H f) (h : ∀ b, g b ≤ f b) : Same F (grow F H g) := fun b x e => by
  unfold grow
  split
  · rename_i q; rw [w.dF b (Nat.lt_of_lt_of_le q (h b))] at e; cases e
  · exact e
theorem Wd.give {B : Bx} {F H : Hp} {f g r : Ct} (w : Wd B F H f) (h : ∀ b, f b = g b + r b) : Wd B (grow F H g) H r := by
  refine ⟨fun a => by have := w.nd a; have := h a; omega, fun a q => ?_, fun a q => w.dR a (by rw [h]; omega), fun b x e => ?_, w.sR, fun b x e => (same_grow w fun b => by rw [h]; omega) b x (w.s0 b x e), fun a q => ?_⟩
  · unfold grow
    have := w.nd a; have := h a
    rw [if_neg (by omega)]
    exact w.dF a (by omega)
  · unfold grow at e
    split at e
    · exact e
    · exact w.sF b x e
  · unfold grow at q
    split at q
    · exact .inr (w.dR a (by rw [h]; omega))
    · exact w.fr a q

section
variable {K : PySem.W.Frag} {B : Bx} {F H : Hp} {σ : L2.St} {τ : Env} {vs us : List V} {ds es : List D} {v : V} {d : D}
theorem StT.push (s : StT K B F H σ τ vs ds) (h : Rep K B.ca F d v) : StT K B F H σ τ (v :: vs) (d :: ds) := by
  obtain ⟨f1, f2, a, b, w, io⟩ := s
  exact ⟨f1, f2, a, ⟨v, vs, _, f2, rfl, h.o, b, fun _ => by omega⟩, w, io⟩
theorem StT.pop (s : StT K B F H σ τ (v :: vs) (d :: ds)) : StT K B F H σ τ vs ds := by
  obtain ⟨f1, f2, a, ⟨_, _, g1, g2, e, _, b, q⟩, w, io⟩ := s
  cases e
  exact ⟨f1, g2, a, b, w.less fun b => by show f1 b + g2 b ≤ f1 b + f2 b; rw [q]; omega, io⟩
theorem StT.pops (s : StT K B F H σ τ (us ++ vs) (es ++ ds)) (hl : us.length = es.length) : StT K B F H σ τ vs ds := by
  obtain ⟨f1, f2, a, b, w, io⟩ := s
  obtain ⟨g1, g2, _, b, q⟩ := b.split' hl
  exact ⟨f1, g2, a, b, w.less fun b => by show f1 b + g2 b ≤ f1 b + f2 b; rw [q]; omega, io⟩
theorem StT.top (s : StT K B F H σ τ (v :: vs) (d :: ds)) : ∃ f, RepO K B.ca F H d v f := by
  obtain ⟨f1, f2, a, ⟨_, _, g1, g2, e, h, b, q⟩, w, io⟩ := s
  cases e
  exact ⟨_, h⟩
theorem StT.tops (s : StT K B F H σ τ (us ++ vs) (es ++ ds)) (hl : us.length = es.length) : ∃ f, RepOs K B.ca F H es us f := by
  obtain ⟨f1, f2, a, b, w, io⟩ := s
  obtain ⟨g1, g2, h, b, q⟩ := b.split' hl
  exact ⟨_, h⟩
theorem StT.topF (s : StT K B F H σ τ (v :: vs) (d :: ds)) (h : isFz d = true) : Rep K B.ca F d v := by
  obtain ⟨f, q⟩ := s.top
  exact ((repO_fz h).mp q).1
/-- the items on top change places with the one below -/
theorem StT.swap (s : StT K B F H σ τ (us ++ v :: vs) (es ++ d :: ds)) (hl : us.length = es.length) : StT K B F H σ τ (v :: us ++ vs) (d :: es ++ ds) := by
  obtain ⟨f1, f2, a, b, w, io⟩ := s
  obtain ⟨g1, g2, b1, ⟨_, _, g3, g4, e, b2, b3, q2⟩, q⟩ := b.split' hl
  cases e
  exact ⟨f1, f2, a, ⟨v, us ++ vs, g3, _, rfl, b2, b1.append b3, fun b => by rw [q, q2]; omega⟩, w, io⟩
theorem StT.same (s : StT K B F H σ τ vs ds) : Same F H := by
  obtain ⟨f1, f2, a, b, w, io⟩ := s
  exact w.sF
theorem StT.get {i : Nat} (s : StT K B F H σ τ vs ds) (e : τ[i]? = some (some d)) : ∃ v f, σ[i]? = some (some v) ∧ RepO K B.ca F H d v f := by
  obtain ⟨f1, f2, a, b, w, io⟩ := s
  exact a.get e
theorem StT.take {i : Nat} (s : StT K B F H σ τ vs ds) (e : τ[i]? = some (some d)) : ∃ v, σ[i]? = some (some v) ∧ StT K B F H σ (τ.set i none) (v :: vs) (d :: ds) := by
  obtain ⟨f1, f2, a, b, w, io⟩ := s
  obtain ⟨v, g1, g2, e1, h1, h2, q⟩ := a.take e
  refine ⟨v, e1, g2, fun b => g1 b + f2 b, h2, ⟨v, vs, g1, f2, rfl, h1, b, fun _ => rfl⟩, ?_, io⟩
  have e2 : (fun b => g2 b + (g1 b + f2 b)) = fun b => f1 b + f2 b := funext fun b => by rw [q]; omega
  rw [e2]; exact w
/-- free: is slot i none of the parameters that are handed to be changed -/
def ioFree (B : Bx) (i : Nat) : Prop := ∀ p ∈ B.io, p.1 ≠ i
theorem StT.put {i : Nat} (s : StT K B F H σ τ (v :: vs) (d :: ds)) (hi : i < τ.length) (hf : ioFree B i) : StT K B F H (σ.set i (some v)) (τ.set i (some d)) vs ds := by
  obtain ⟨f1, f2, a, ⟨_, _, g1, g2, e, h, b, q⟩, w, io⟩ := s
  cases e
  obtain ⟨f3, k1, k2⟩ := a.put hi h
  refine ⟨f3, g2, k1, b, w.less fun b => by show f3 b + g2 b ≤ f1 b + f2 b; have := k2 b; rw [q]; omega, fun p hp => ?_⟩
  rw [List.getElem?_set_ne (Ne.symm (hf p hp))]
  exact io p hp
theorem StT.putBack {i : Nat} (s : StT K B F H σ τ (v :: vs) (d :: ds)) (hi : i < τ.length) (hv : σ[i]? = some (some v)) : StT K B F H σ (τ.set i (some d)) vs ds := by
  obtain ⟨f1, f2, a, ⟨_, _, g1, g2, e, h, b, q⟩, w, io⟩ := s
  cases e
  obtain ⟨f3, k1, k2⟩ := a.put hi h
  have e1 : σ.set i (some v) = σ := by
    apply List.ext_getElem?
    intro j
    rw [List.getElem?_set]
    split
    · rename_i q; subst q; split
      · exact hv.symm
      · rename_i hl; rw [List.getElem?_eq_none (by omega)]
    · rfl
  rw [e1] at k1
  exact ⟨f3, g2, k1, b, w.less fun b => by show f3 b + g2 b ≤ f1 b + f2 b; have := k2 b; rw [q]; omega, io⟩
theorem StT.forget {i : Nat} (s : StT K B F H σ τ vs ds) : StT K B F H σ (τ.set i none) vs ds := by
  obtain ⟨f1, f2, a, b, w, io⟩ := s
  obtain ⟨g, k, q⟩ := a.drop (i := i)
  exact ⟨g, f2, k, b, w.less fun b => by show g b + f2 b ≤ f1 b + f2 b; have := q b; omega, io⟩
/-- the items on top are given up to the unchanging part -/
theorem StT.freeze (s : StT K B F H σ τ (us ++ vs) (es ++ ds)) (hl : us.length = es.length) : ∃ F', Same F F' ∧ RepL K B.ca F' (freezeL es) us ∧ StT K B F' H σ τ vs ds := by
  obtain ⟨f1, f2, a, b, w, io⟩ := s
  obtain ⟨g1, g2, b1, b2, q⟩ := b.split' hl
  have le : ∀ b, g1 b ≤ f1 b + f2 b := fun b => by rw [q]; omega
  have sm : Same F (grow F H g1) := same_grow w le
  refine ⟨grow F H g1, sm, RepOs.fz sm _ _ _ (fun a h => by unfold grow; rw [if_pos h]) b1, f1, g2, a.mono sm fun _ _ => rfl, RepOs.mono sm _ _ _ (fun _ _ => rfl) b2, ?_, io⟩
  exact w.give (g := g1) (r := fun b => f1 b + g2 b) fun b => by show f1 b + f2 b = g1 b + (f1 b + g2 b); rw [q]; omega
theorem StT.new (s : StT K B F H σ τ vs ds) {p : Addr} {o : HO} (hp : H p = none) : StT K B (upd F p o) (upd H p o) σ τ vs ds ∧ Same F (upd F p o) := by
  obtain ⟨f1, f2, a, b, w, io⟩ := s
  have hF : F p = none := by
    cases e : F p with
    | none => rfl
    | some x => rw [w.sF _ _ e] at hp; cases hp
  have sm : Same F (upd F p o) := Bn.same_upd hF
  have k1 : ∀ x, 0 < f1 x → upd H p o x = H x := fun x hx => upd_ne fun e => a.there x hx (e ▸ hp)
  have k2 : ∀ x, 0 < f2 x → upd H p o x = H x := fun x hx => upd_ne fun e => b.there _ _ _ x hx (e ▸ hp)
  refine ⟨⟨f1, f2, a.mono sm k1, RepOs.mono sm _ _ _ k2 b, (w.frozen hp).less fun x => ?_, io⟩, sm⟩
  show f1 x + f2 x ≤ if x = p then 0 else f1 x + f2 x
  split
  · rename_i e
    have h1 : ¬ 0 < f1 x := fun h => a.there x h (e ▸ hp)
    have h2 : ¬ 0 < f2 x := fun h => b.there _ _ _ x h (e ▸ hp)
    omega
  · omega
theorem StT.newTup (s : StT K B F H σ τ vs ds) {p : Addr} (hp : H p = none) (h : RepL K B.ca F es us) : StT K B (upd F p (.tup us)) (upd H p (.tup us)) σ τ (.ref p :: vs) (.tup es :: ds) := by
  obtain ⟨s', sm⟩ := s.new (o := .tup us) hp
  exact s'.push ⟨p, us, rfl, .inl (.inl upd_same), RepL.mono sm _ _ h⟩
theorem StT.newLst (s : StT K B F H σ τ (us ++ vs) (es ++ ds)) (hl : us.length = es.length) {p : Addr} (hp : H p = none) : StT K B F (upd H p (.lst us)) σ τ (.ref p :: vs) (.lst true es :: ds) := by
  obtain ⟨f1, f2, a, b, w, io⟩ := s
  obtain ⟨g1, g2, b1, b2, q⟩ := b.split' hl
  have k1 : ∀ x, 0 < f1 x → upd H p (.lst us) x = H x := fun x hx => upd_ne fun e => a.there x hx (e ▸ hp)
  have k2 : ∀ x, 0 < g1 x → upd H p (.lst us) x = H x := fun x hx => upd_ne fun e => b1.there _ _ _ x hx (e ▸ hp)
  have k3 : ∀ x, 0 < g2 x → upd H p (.lst us) x = H x := fun x hx => upd_ne fun e => b2.there _ _ _ x hx (e ▸ hp)
  have z : f1 p + f2 p = 0 := by
    have h1 : ¬ 0 < f1 p := fun h => a.there p h hp
    have h2 : ¬ 0 < f2 p := fun h => b.there _ _ _ p h hp
    omega
  refine ⟨f1, fun b => ((if b = p then 1 else 0) + g1 b) + g2 b, a.mono (Same.refl _) k1, ⟨.ref p, vs, fun b => (if b = p then 1 else 0) + g1 b, g2, rfl, ⟨p, us, g1, rfl, upd_same, RepOs.mono (Same.refl _) _ _ _ k2 b1, fun _ => rfl⟩, RepOs.mono (Same.refl _) _ _ _ k3 b2, fun _ => rfl⟩, ?_, io⟩
  have e : (fun b => f1 b + (((if b = p then 1 else 0) + g1 b) + g2 b)) = fun b => (if b = p then 1 else 0) + (f1 b + f2 b) := funext fun b => by rw [q]; omega
  rw [e]
  exact w.owned hp z
/-- the list on top is changed; its new items are made of its old ones and of the items us below it -/
theorem StT.change {a : Addr} {xs ys : List V} {es' : List D} (s : StT K B F H σ τ (.ref a :: (us ++ vs)) (.lst true es :: (ds ++ es'))) (hl : us.length = ds.length) (hx : H a = some (.lst xs)) {es2 : List D}
    (k : ∀ g1 g2, RepOs K B.ca F H es xs g1 → RepOs K B.ca F H ds us g2 → ∃ g, RepOs K B.ca F H es2 ys g ∧ ∀ b, g b ≤ g1 b + g2 b) :
    StT K B F (upd H a (.lst ys)) σ τ (.ref a :: vs) (.lst true es2 :: es') := by
  obtain ⟨f1, f2, A, ⟨_, _, g1, g2, e, h, b, q⟩, w, io⟩ := s
  cases e
  obtain ⟨a', xs', g3, e', hx', h3, q3⟩ := h
  cases e'
  rw [hx] at hx'; cases hx'
  obtain ⟨g4, g5, b1, b2, q4⟩ := b.split' hl
  obtain ⟨g, hg, hle⟩ := k g3 g4 h3 b1
  have one := w.nd a
  have tot : ∀ b, f1 b + f2 b = f1 b + ((if b = a then 1 else 0) + g3 b + (g4 b + g5 b)) := fun b => by rw [q, q3, q4]
  have za : f1 a = 0 ∧ g3 a = 0 ∧ g4 a = 0 ∧ g5 a = 0 := by
    have := tot a
    rw [if_pos rfl] at this
    omega
  have off : ∀ {φ : Ct}, φ a = 0 → ∀ x, 0 < φ x → upd H a (.lst ys) x = H x := fun {φ} hz x hx => upd_ne fun e => by rw [e, hz] at hx; omega
  have zg : g a = 0 := by have := hle a; omega
  refine ⟨f1, fun b => ((if b = a then 1 else 0) + g b) + g5 b, A.mono (Same.refl _) (off za.1), ⟨.ref a, vs, fun b => (if b = a then 1 else 0) + g b, g5, rfl, ⟨a, ys, g, rfl, upd_same, RepOs.mono (Same.refl _) _ _ _ (off zg) hg, fun _ => rfl⟩,
    RepOs.mono (Same.refl _) _ _ _ (off za.2.2.2) b2, fun _ => rfl⟩, ?_, io⟩
  have w2 : Wd B F H (fun b => f1 b + (((if b = a then 1 else 0) + g b) + g5 b)) := w.less fun b => by
    show f1 b + (((if b = a then 1 else 0) + g b) + g5 b) ≤ f1 b + f2 b
    have := tot b; have := hle b; omega
  have fa : F a = none := w.dF a (by have := tot a; rw [if_pos rfl] at this; show 0 < f1 a + f2 a; omega)
  have ra : B.R a = none := w.dR a (by have := tot a; rw [if_pos rfl] at this; show 0 < f1 a + f2 a; omega)
  exact ⟨w2.nd, w2.dF, w2.dR, fun b x e => by rw [upd_ne (ne_of_none e fa)]; exact w.sF b x e, fun b x e => by rw [upd_ne (ne_of_none e ra)]; exact w.sR b x e, w.s0, w.fr⟩
/-- behind a call that left all as it was, and made something -/
theorem StT.called {F' H' : Hp} {g : Ct} (s : StT K B F H σ τ vs ds) (h1 : Same F F') (h2 : Same F' H') (h3 : Same H H') (hv : RepO K B.ca F' H' d v g) (h4 : ∀ a, g a ≤ 1) (h5 : ∀ a, 0 < g a → F' a = none ∧ H a = none)
    (h6 : ∀ a, F' a ≠ none → F a ≠ none ∨ H a = none) : StT K B F' H' σ τ (v :: vs) (d :: ds) := by
  obtain ⟨f1, f2, a, b, w, io⟩ := s
  have k : ∀ x, H x ≠ none → H' x = H x := fun x hx => by
    cases e : H x with
    | none => exact absurd e hx
    | some o => exact h3 _ _ e
  have t1 : ∀ x, 0 < f1 x → H x ≠ none := a.there
  have t2 : ∀ x, 0 < f2 x → H x ≠ none := b.there _ _ _
  refine ⟨f1, fun b => g b + f2 b, a.mono h1 fun x hx => k x (t1 x hx), ⟨v, vs, g, f2, rfl, hv, RepOs.mono h1 _ _ _ (fun x hx => k x (t2 x hx)) b, fun _ => rfl⟩, ?_, io⟩
  have split : ∀ x, 0 < f1 x + (g x + f2 x) → (0 < g x ∧ f1 x = 0 ∧ f2 x = 0) ∨ (g x = 0 ∧ 0 < f1 x + f2 x) := fun x hx => by
    by_cases q : 0 < g x
    · have hn := (h5 x q).2
      have : ¬ 0 < f1 x := fun h => t1 x h hn
      have : ¬ 0 < f2 x := fun h => t2 x h hn
      exact .inl ⟨q, by omega, by omega⟩
    · exact .inr ⟨by omega, by omega⟩
  have old : ∀ x, 0 < f1 x + f2 x → H x ≠ none := fun x hx => by
    by_cases q : 0 < f1 x
    · exact t1 x q
    · exact t2 x (by omega)
  refine ⟨fun x => ?_, fun x hx => ?_, fun x hx => ?_, h2, w.sR.trans h3, w.s0.trans h1, fun x hx => ?_⟩
  · show f1 x + (g x + f2 x) ≤ 1
    by_cases q : 0 < f1 x + (g x + f2 x)
    · rcases split x q with ⟨_, e1, e2⟩ | ⟨e1, _⟩
      · have := h4 x; omega
      · have := w.nd x; omega
    · omega
  · rcases split x hx with ⟨e0, _⟩ | ⟨_, e0⟩
    · exact (h5 x e0).1
    · have hF := w.dF x e0
      cases e : F' x with
      | none => rfl
      | some o =>
        rcases h6 x (by rw [e]; exact fun z => by cases z) with z | z
        · exact absurd hF z
        · exact absurd z (old x e0)
  · rcases split x hx with ⟨e0, _⟩ | ⟨_, e0⟩
    · cases e : B.R x with
      | none => rfl
      | some o => have z := (h5 x e0).2; rw [w.sR _ _ e] at z; cases z
    · exact w.dR x e0
  · rcases h6 x hx with z | z
    · exact w.fr x z
    · refine .inr ?_
      cases e : B.R x with
      | none => rfl
      | some o => rw [w.sR _ _ e] at z; cases z
/-- the heap has grown -/
theorem StT.grown {H' : Hp} (s : StT K B F H σ τ vs ds) (h : Same H H') : StT K B F H' σ τ vs ds := by
  obtain ⟨f1, f2, a, b, w, io⟩ := s
  have k : ∀ x, H x ≠ none → H' x = H x := fun x hx => by
    cases e : H x with
    | none => exact absurd e hx
    | some o => exact h _ _ e
  exact ⟨f1, f2, a.mono (Same.refl _) fun x hx => k x (a.there x hx), RepOs.mono (Same.refl _) _ _ _ (fun x hx => k x (b.there _ _ _ x hx)) b, ⟨w.nd, w.dF, w.dR, w.sF.trans h, w.sR.trans h, w.s0, w.fr⟩, io⟩
end
end Bn

/-! Readings by functions of trees. -/
namespace Bn
open PySem PySem.Spec PyProof.Rows L2

inductive R (α : Type) where
  | ok (a : α) (τ : Env) | ex (c : Str) (τ : Env) | bad
inductive SR where
  | nx (τ : Env) | rt (d : D) (τ : Env) | bk (τ : Env) | ct (τ : Env) | ex (c : Str) (τ : Env) | bad
inductive CR where
  | ok (d : D) | ex (c : Str) | bad
abbrev ME := Env → R D
abbrev MZ := Env → Option D
abbrev MT := Env → R Bool
abbrev MA := Env → R (List D)
abbrev MS := Env → SR

def R.bind {α β : Type} : R α → (α → Env → R β) → R β
  | .ok a τ, k => k a τ
  | .ex c τ, _ => .ex c τ
  | .bad, _ => .bad
def post {α : Type} (y : α → Env → Prop) (x : Str → Env → Prop) : R α → Prop
  | .ok a τ => y a τ
  | .ex c τ => x c τ
  | .bad => False
theorem post_bind {α β : Type} {y : β → Env → Prop} {x : Str → Env → Prop} {r : R α} {k : α → Env → R β} (h : post y x (r.bind k)) : post (fun a τ => post y x (k a τ)) x r := by
  cases r <;> exact h
theorem post_imp {α : Type} {y y' : α → Env → Prop} {x x' : Str → Env → Prop} {r : R α} (h : post y x r) (hy : ∀ a τ, y a τ → y' a τ) (hx : ∀ c τ, x c τ → x' c τ) : post y' x' r := by
  cases r with
  | ok a τ => exact hy _ _ h
  | ex c τ => exact hx _ _ h
  | bad => exact h

section
variable {X : Cx}
theorem PE.imp {e : Expr} {t t' : TE} (h : PE X e t) (k : ∀ σ H Q, t' σ H Q → t σ H Q) : PE X e t' := ⟨fun p s σ H Q I q => h.run p s σ H Q I (k _ _ _ q)⟩
theorem PT.imp {e : Expr} {t t' : TT} (h : PT X e t) (k : ∀ σ H Q, t' σ H Q → t σ H Q) : PT X e t' := ⟨fun p s σ H Q I q => h.run p s σ H Q I (k _ _ _ q)⟩
theorem PW.imp {e : Expr} {t t' : TT} (h : PW X e t) (k : ∀ σ H Q, t' σ H Q → t σ H Q) : PW X e t' := ⟨fun w p s σ H Q I q => h.run w p s σ H Q I (k _ _ _ q)⟩
theorem PA.imp {e : List Expr} {t t' : TA} (h : PA X e t) (k : ∀ σ H Q, t' σ H Q → t σ H Q) : PA X e t' := ⟨fun z p s σ H Q I q => h.run z p s σ H Q I (k _ _ _ q)⟩
theorem PS.imp {e : Stmt} {t t' : TS} (h : PS X e t) (k : ∀ D σ H, t' D σ H → t D σ H) : PS X e t' := ⟨fun p s σ H D I q => h.run p s σ H D I (k _ _ _ q)⟩
theorem PSs.imp {e : List Stmt} {t t' : TS} (h : PSs X e t) (k : ∀ D σ H, t' D σ H → t D σ H) : PSs X e t' := ⟨fun p s σ H D I q => h.run p s σ H D I (k _ _ _ q)⟩
theorem PG.imp {e : Expr} {t t' : TG} (h : PG X e t) (k : ∀ v σ H Q, t' v σ H Q → t v σ H Q) : PG X e t' := ⟨fun p s σ H v u Q I r q => h.run p s σ H v u Q I r (k _ _ _ _ q)⟩
theorem PGs.imp {e : List Expr} {t t' : TGs} (h : PGs X e t) (k : ∀ v σ H Q, t' v σ H Q → t v σ H Q) : PGs X e t' := ⟨fun p s σ H v u Q I r q => h.run p s σ H v u Q I r (k _ _ _ _ q)⟩
end

section
variable (K : PySem.W.Frag) (B : Bx) (W : WX)
def exW (σ : L2.St) (vs : List V) (ds : List D) : Str → Env → Prop := fun c τ' => ∀ F' H', StT K B F' H' σ τ' vs ds → W (.ref (B.ca c)) none σ H'
def rdE (m : ME) : TE := fun σ H Q => ∃ F τ vs ds, StT K B F H σ τ vs ds ∧ post (fun d τ' => ∀ v F' H', StT K B F' H' σ τ' (v :: vs) (d :: ds) → Q v H') (exW K B W σ vs ds) (m τ)
def rdA (m : MA) : TA := fun σ H Q => ∃ F τ vs ds, StT K B F H σ τ vs ds ∧ post (fun es τ' => ∀ us F' H', us.length = es.length → StT K B F' H' σ τ' (us ++ vs) (es ++ ds) → Q us H') (exW K B W σ vs ds) (m τ)
def rdT (m : MT) : TT := fun σ H Q => ∃ F τ vs ds, StT K B F H σ τ vs ds ∧ post (fun b τ' => ∀ F' H', StT K B F' H' σ τ' vs ds → Q b H') (exW K B W σ vs ds) (m τ)
def rdZ (m : MZ) : TE := fun σ H Q => ∃ F τ vs ds, StT K B F H σ τ vs ds ∧ ∃ d, m τ = some d ∧ ∀ v f, RepO K B.ca F H d v f → Q v H
def postS (vs : List V) (ds : List D) (D : Ends) : SR → Prop
  | .nx τ => ∀ σ F H, StT K B F H σ τ vs ds → D.nx σ H
  | .rt d τ => ∀ v σ F H, StT K B F H σ τ (v :: vs) (d :: ds) → D.rt v H
  | .bk τ => ∀ σ F H, StT K B F H σ τ vs ds → D.bk σ H
  | .ct τ => ∀ σ F H, StT K B F H σ τ vs ds → D.ct σ H
  | .ex c τ => ∀ σ F H, StT K B F H σ τ vs ds → W (.ref (B.ca c)) none σ H
  | .bad => False
def rdS (m : MS) : TS := fun D σ H => ∃ F τ vs ds, StT K B F H σ τ vs ds ∧ postS K B W vs ds D (m τ)
/-- a target; sl: the slots that it sets -/
def rdG (sl : List Nat) (g : D → Env → Option Env) : TG := fun v σ H Q => ∃ F τ vs ds d, StT K B F H σ τ (v :: vs) (d :: ds) ∧ ∃ τ', g d τ = some τ' ∧
  ∀ σ' F' H', StT K B F' H' σ' τ' vs ds → σ'.length = σ.length → (∀ j, j ∉ sl → σ'[j]? = σ[j]?) → Q σ' H'
def rdGs (sl : List Nat) (g : List D → Env → Option Env) : TGs := fun ws σ H Q => ∃ F τ vs ds es, ws.length = es.length ∧ StT K B F H σ τ (ws ++ vs) (es ++ ds) ∧ ∃ τ', g es τ = some τ' ∧
  ∀ σ' F' H', StT K B F' H' σ' τ' vs ds → σ'.length = σ.length → (∀ j, j ∉ sl → σ'[j]? = σ[j]?) → Q σ' H'
end

/-! ### names and constants -/
def zVar (i : Nat) : MZ := fun τ => τ.getD i none
def zC (d : D) : MZ := fun _ => some d
theorem getD_some {τ : Env} {i : Nat} {d : D} (h : τ.getD i none = some d) : τ[i]? = some (some d) := by
  rw [List.getD_eq_getElem?_getD] at h
  cases e : τ[i]? with
  | none => rw [e] at h; cases h
  | some x => rw [e] at h; exact congrArg some h
section
variable {X : Cx} {B : Bx} {W : WX}
theorem z_var {i : Nat} {e : Expr} (h : PE X e (tVar i)) : PE X e (rdZ X.K B (zVar i)) := PE.imp h fun σ H Q ⟨F, τ, vs, ds, s, d, e, k⟩ => by
  obtain ⟨v, f, h1, h2⟩ := s.get (getD_some e)
  exact ⟨v, h1, k v f h2⟩
theorem z_c {e : Expr} {d : D} {v : V} (h : PE X e (tC v)) (hd : ∀ F, Rep X.K B.ca F d v) : PE X e (rdZ X.K B (zC d)) := PE.imp h fun σ H Q ⟨F, τ, vs, ds, s, d', e, k⟩ => by
  cases (show some d = some d' from e)
  exact k v _ (hd F).o
theorem z_int {i j pos} : PE X (.Constant (.int i) j pos) (rdZ X.K B (zC (.int i))) := z_c pe_int fun _ => rfl
theorem z_bl {b j pos} : PE X (.Constant (.bool b) j pos) (rdZ X.K B (zC (.bl b))) := z_c pe_bl fun _ => rfl
theorem z_non {j pos} : PE X (.Constant .none j pos) (rdZ X.K B (zC .non)) := z_c pe_non fun _ => rfl
theorem z_str {x j pos} : PE X (.Constant (.str x) j pos) (rdZ X.K B (zC (.str x))) := z_c pe_str fun _ => rfl
theorem z_ty {x : Str} {n : String} {pos : Pos} (hg : Gl X x) (hm : X.mg x = none) (hv : bootBuiltins x = some (.type n)) (hn : x ≠ "__name__" := by decide) (hd : (x == ("__debug__" : Str)) = false := by decide) : PE X (.Name x pos) (rdZ X.K B (zC (.ty n))) :=
  z_c (pe_bltn (v := .ty n) hg hm hv rfl hn hd) fun _ => rfl

/-! ### from Z to E -/
def eZ (m : MZ) : ME := fun τ => match m τ with
  | some d => if isFz d = true then .ok d τ else .bad
  | none => .bad
theorem e_z {e : Expr} {m : MZ} (h : PE X e (rdZ X.K B m)) : PE X e (rdE X.K B W (eZ m)) := PE.imp h fun σ H Q ⟨F, τ, vs, ds, s, k⟩ => by
  unfold eZ at k
  cases e : m τ with
  | none => rw [e] at k; exact k.elim
  | some d =>
    rw [e] at k
    by_cases z : isFz d = true
    · simp only [z, if_true] at k
      exact ⟨F, τ, vs, ds, s, d, e, fun v f r => k v F H (s.push ((repO_fz z).mp r).1)⟩
    · simp only [z] at k
      exact k.elim
/-- a name's value; what it owns is given up -/
def eVar (i : Nat) : ME := fun τ => match τ.getD i none with
  | some d => if isFz d = true then .ok d τ else .ok (freeze d) (τ.set i (some (freeze d)))
  | none => .bad
theorem e_var {i : Nat} {e : Expr} (h : PE X e (tVar i)) : PE X e (rdE X.K B W (eVar i)) := PE.imp h fun σ H Q ⟨F, τ, vs, ds, s, k⟩ => by
  unfold eVar at k
  cases e : τ.getD i none with
  | none => rw [e] at k; exact k.elim
  | some d =>
    rw [e] at k
    have e' := getD_some e
    by_cases z : isFz d = true
    · simp only [z, if_true] at k
      obtain ⟨v, f, h1, h2⟩ := s.get e'
      exact ⟨v, h1, k v F H (s.push ((repO_fz z).mp h2).1)⟩
    · simp only [z] at k
      obtain ⟨v, h1, s1⟩ := s.take e'
      obtain ⟨F', sm, ⟨_, _, e2, r, _⟩, s2⟩ := StT.freeze (us := [v]) (es := [d]) s1 rfl
      cases e2
      have s3 := StT.putBack (s2.push r) (i := i) (by rw [List.length_set]; exact (List.getElem?_eq_some_iff.mp e').1) h1
      rw [List.set_set] at s3
      exact ⟨v, h1, k v F' H (s3.push r)⟩
/-- a name gives its value away -/
def eMv (i : Nat) : ME := fun τ => match τ.getD i none with
  | some d => .ok d (τ.set i none)
  | none => .bad
theorem e_mv {i : Nat} {e : Expr} (h : PE X e (tVar i)) : PE X e (rdE X.K B W (eMv i)) := PE.imp h fun σ H Q ⟨F, τ, vs, ds, s, k⟩ => by
  unfold eMv at k
  cases e : τ.getD i none with
  | none => rw [e] at k; exact k.elim
  | some d =>
    rw [e] at k
    obtain ⟨v, h1, s1⟩ := s.take (getD_some e)
    exact ⟨v, h1, k v F H s1⟩

/-! ### operators by values -/
def OpS (K : PySem.W.Frag) (r : R2) (g : D → D → Option D) : Prop := ∀ (ca : Str → Addr) (F H : Hp) (x y : V) (a b d : D) (f1 f2 : Ct) (Q : VK), Same F H → RepO K ca F H a x f1 → RepO K ca F H b y f2 → g a b = some d → (∀ v f, RepO K ca F H d v f → Q v H) → r x y H Q
def UnS (K : PySem.W.Frag) (r : V → Hp → VK → Prop) (g : D → Option D) : Prop := ∀ (ca : Str → Addr) (F H : Hp) (x : V) (a d : D) (f1 : Ct) (Q : VK), Same F H → RepO K ca F H a x f1 → g a = some d → (∀ v f, RepO K ca F H d v f → Q v H) → r x H Q
def CallS (K : PySem.W.Frag) (r : List V → Hp → VK → Prop) (g : List D → Option D) : Prop := ∀ (ca : Str → Addr) (F H : Hp) (xs : List V) (as : List D) (d : D) (f1 : Ct) (Q : VK), Same F H → RepOs K ca F H as xs f1 → g as = some d → (∀ v f, RepO K ca F H d v f → Q v H) → r xs H Q
def z2 (g : D → D → Option D) (m n : MZ) : MZ := fun τ => (m τ).bind fun a => (n τ).bind fun b => g a b
def z1 (g : D → Option D) (m : MZ) : MZ := fun τ => (m τ).bind g
def ofO (o : Option D) (τ : Env) : R D := match o with
  | some d => if isFz d = true then .ok d τ else .bad
  | none => .bad
def e2 (g : D → D → Option D) (m n : ME) : ME := fun τ => (m τ).bind fun a τ1 => (n τ1).bind fun b τ2 => ofO (g a b) τ2
def e1 (g : D → Option D) (m : ME) : ME := fun τ => (m τ).bind fun a τ1 => ofO (g a) τ1
def eC (g : List D → Option D) (m : MA) : ME := fun τ => (m τ).bind fun a τ1 => ofO (g a) τ1
theorem post_ofO {y : D → Env → Prop} {x : Str → Env → Prop} {o : Option D} {τ : Env} (h : post y x (ofO o τ)) : ∃ d, o = some d ∧ isFz d = true ∧ y d τ := by
  unfold ofO at h
  cases o with
  | none => exact h.elim
  | some d =>
    by_cases z : isFz d = true
    · simp only [z, if_true] at h; exact ⟨d, rfl, z, h⟩
    · simp only [z] at h; exact h.elim
theorem bind_some {α β : Type} {o : Option α} {k : α → Option β} {d : β} (h : o.bind k = some d) : ∃ a, o = some a ∧ k a = some d := by
  cases o with
  | none => cases h
  | some a => exact ⟨a, rfl, h⟩
theorem imp2Z {r : R2} {g : D → D → Option D} {m n : MZ} (hs : OpS X.K r g) (σ : L2.St) (H : Hp) (Q : VK) (h : rdZ X.K B (z2 g m n) σ H Q) : tOp r (rdZ X.K B m) (rdZ X.K B n) σ H Q := by
  obtain ⟨F, τ, vs, ds, s, d, e, k⟩ := h
  obtain ⟨a, ea, e⟩ := bind_some e
  obtain ⟨b, eb, e⟩ := bind_some e
  exact ⟨F, τ, vs, ds, s, a, ea, fun x f1 hx => ⟨F, τ, vs, ds, s, b, eb, fun y f2 hy => hs _ _ _ _ _ _ _ _ _ _ _ s.same hx hy e k⟩⟩
theorem imp2E {r : R2} {g : D → D → Option D} {m n : ME} (hs : OpS X.K r g) (σ : L2.St) (H : Hp) (Q : VK) (h : rdE X.K B W (e2 g m n) σ H Q) : tOp r (rdE X.K B W m) (rdE X.K B W n) σ H Q := by
  obtain ⟨F, τ, vs, ds, s, p⟩ := h
  refine ⟨F, τ, vs, ds, s, post_imp (post_bind p) (fun a τ1 q x F1 H1 s1 => ⟨F1, τ1, _, _, s1, post_imp (post_bind q) (fun b τ2 q y F2 H2 s2 => ?_) fun c τ2 q F2 H2 s2 => q F2 H2 s2.pop⟩) fun _ _ q => q⟩
  obtain ⟨d, e, z, q⟩ := post_ofO q
  obtain ⟨f2, hy⟩ := s2.top
  obtain ⟨f1, hx⟩ := s2.pop.top
  exact hs _ _ _ _ _ _ _ _ _ _ _ s2.same hx hy e fun v f hv => q v F2 H2 (s2.pop.pop.push ((repO_fz z).mp hv).1)
theorem imp1Z {r : V → Hp → VK → Prop} {g : D → Option D} {m : MZ} (hs : UnS X.K r g) (σ : L2.St) (H : Hp) (Q : VK) (h : rdZ X.K B (z1 g m) σ H Q) : tUn r (rdZ X.K B m) σ H Q := by
  obtain ⟨F, τ, vs, ds, s, d, e, k⟩ := h
  obtain ⟨a, ea, e⟩ := bind_some e
  exact ⟨F, τ, vs, ds, s, a, ea, fun x f1 hx => hs _ _ _ _ _ _ _ _ s.same hx e k⟩
theorem imp1E {r : V → Hp → VK → Prop} {g : D → Option D} {m : ME} (hs : UnS X.K r g) (σ : L2.St) (H : Hp) (Q : VK) (h : rdE X.K B W (e1 g m) σ H Q) : tUn r (rdE X.K B W m) σ H Q := by
  obtain ⟨F, τ, vs, ds, s, p⟩ := h
  refine ⟨F, τ, vs, ds, s, post_imp (post_bind p) (fun a τ1 q x F1 H1 s1 => ?_) fun _ _ q => q⟩
  obtain ⟨d, e, z, q⟩ := post_ofO q
  obtain ⟨f1, hx⟩ := s1.top
  exact hs _ _ _ _ _ _ _ _ s1.same hx e fun v f hv => q v F1 H1 (s1.pop.push ((repO_fz z).mp hv).1)
theorem z_op {op : Operator} {a b : Expr} {pos : Pos} {r : R2} {g : D → D → Option D} {m n : MZ} (ho : OpR X (binaryOp op) r) (hs : OpS X.K r g) (ha : PE X a (rdZ X.K B m)) (hb : PE X b (rdZ X.K B n)) : PE X (.BinOp a op b pos) (rdZ X.K B (z2 g m n)) := PE.imp (pe_op ho ha hb) (imp2Z hs)
theorem e_op {op : Operator} {a b : Expr} {pos : Pos} {r : R2} {g : D → D → Option D} {m n : ME} (ho : OpR X (binaryOp op) r) (hs : OpS X.K r g) (ha : PE X a (rdE X.K B W m)) (hb : PE X b (rdE X.K B W n)) : PE X (.BinOp a op b pos) (rdE X.K B W (e2 g m n)) := PE.imp (pe_op ho ha hb) (imp2E hs)
theorem z_un {op : UnaryOp} {a : Expr} {pos : Pos} {r : V → Hp → VK → Prop} {g : D → Option D} {m : MZ} (ho : UnR X (unaryOp op) r) (hs : UnS X.K r g) (ha : PE X a (rdZ X.K B m)) : PE X (.UnaryOp op a pos) (rdZ X.K B (z1 g m)) := PE.imp (pe_un ho ha) (imp1Z hs)
theorem e_un {op : UnaryOp} {a : Expr} {pos : Pos} {r : V → Hp → VK → Prop} {g : D → Option D} {m : ME} (ho : UnR X (unaryOp op) r) (hs : UnS X.K r g) (ha : PE X a (rdE X.K B W m)) : PE X (.UnaryOp op a pos) (rdE X.K B W (e1 g m)) := PE.imp (pe_un ho ha) (imp1E hs)
theorem z_ix {a b : Expr} {pos : Pos} {r : R2} {g : D → D → Option D} {m n : MZ} (ho : IxR X r) (hs : OpS X.K r g) (ha : PE X a (rdZ X.K B m)) (hb : PE X b (rdZ X.K B n)) (hp : PlainIx b := by exact fun _ _ => rfl) : PE X (.Subscript a b pos) (rdZ X.K B (z2 g m n)) := PE.imp (pe_ix ho ha hb hp) (imp2Z hs)
theorem e_ix {a b : Expr} {pos : Pos} {r : R2} {g : D → D → Option D} {m n : ME} (ho : IxR X r) (hs : OpS X.K r g) (ha : PE X a (rdE X.K B W m)) (hb : PE X b (rdE X.K B W n)) (hp : PlainIx b := by exact fun _ _ => rfl) : PE X (.Subscript a b pos) (rdE X.K B W (e2 g m n)) := PE.imp (pe_ix ho ha hb hp) (imp2E hs)
theorem z_cmp {op : CmpOp} {a b : Expr} {pos : Pos} {r : R2} {g : D → D → Option D} {m n : MZ} (ho : OpR X (compareOp op) r) (hs : OpS X.K r g) (ha : PE X a (rdZ X.K B m)) (hb : PE X b (rdZ X.K B n)) (hm : behindInMarks op b = false := by first | exact nomark _ | rfl) : PE X (.Compare a [op] [b] pos) (rdZ X.K B (z2 g m n)) := PE.imp (pe_cmpR ho ha hb hm) (imp2Z hs)
theorem e_cmp {op : CmpOp} {a b : Expr} {pos : Pos} {r : R2} {g : D → D → Option D} {m n : ME} (ho : OpR X (compareOp op) r) (hs : OpS X.K r g) (ha : PE X a (rdE X.K B W m)) (hb : PE X b (rdE X.K B W n)) (hm : behindInMarks op b = false := by first | exact nomark _ | rfl) : PE X (.Compare a [op] [b] pos) (rdE X.K B W (e2 g m n)) := PE.imp (pe_cmpR ho ha hb hm) (imp2E hs)

/-! ### tests -/
def tE (m : ME) : MT := fun τ => (m τ).bind fun d τ1 => match d with
  | .bl b => .ok b τ1
  | _ => .bad
def tZ (m : MZ) : MT := fun τ => match m τ with
  | some (.bl b) => .ok b τ
  | _ => .bad
theorem impTE {m : ME} (σ : L2.St) (H : Hp) (Q : Bool → Hp → Prop) (h : rdT X.K B W (tE m) σ H Q) : rdE X.K B W m σ H fun x H' => ∃ k, x = .bl k ∧ Q k H' := by
  obtain ⟨F, τ, vs, ds, s, p⟩ := h
  refine ⟨F, τ, vs, ds, s, post_imp (post_bind p) (fun d τ1 q x F1 H1 s1 => ?_) fun _ _ q => q⟩
  cases d with
  | bl b => exact ⟨b, s1.topF rfl, q F1 H1 s1.pop⟩
  | _ => exact False.elim q
theorem impTZ {m : MZ} (σ : L2.St) (H : Hp) (Q : Bool → Hp → Prop) (h : rdT X.K B W (tZ m) σ H Q) : rdZ X.K B m σ H fun x H' => ∃ k, x = .bl k ∧ Q k H' := by
  obtain ⟨F, τ, vs, ds, s, p⟩ := h
  unfold tZ at p
  cases e : m τ with
  | none => rw [e] at p; exact False.elim p
  | some d =>
    rw [e] at p
    cases d with
    | bl b => exact ⟨F, τ, vs, ds, s, _, e, fun v f r => ⟨b, r.1, p F H s⟩⟩
    | _ => exact False.elim p
theorem t_valZ {e : Expr} {m : MZ} (h : PE X e (rdZ X.K B m)) (he : ∀ whole, isTrue e X.env whole = (do let v ← whole; standAt e.pos; holding [v] (truthy v)) := by intro _; rfl) : PT X e (rdT X.K B W (tZ m)) := PT.imp (pt_val h he) impTZ
theorem t_valE {e : Expr} {m : ME} (h : PE X e (rdE X.K B W m)) (he : ∀ whole, isTrue e X.env whole = (do let v ← whole; standAt e.pos; holding [v] (truthy v)) := by intro _; rfl) : PT X e (rdT X.K B W (tE m)) := PT.imp (pt_val h he) impTE
theorem t_cmpZ {op : CmpOp} {a b : Expr} {pos : Pos} {r : R2} {g : D → D → Option D} {m n : MZ} (ho : OpR X (compareOp op) r) (hs : OpS X.K r g) (ha : PE X a (rdZ X.K B m)) (hb : PE X b (rdZ X.K B n)) (hm : behindInMarks op b = false := by first | exact nomark _ | rfl) : PT X (.Compare a [op] [b] pos) (rdT X.K B W (tZ (z2 g m n))) :=
  PT.imp (pt_cmpR ho ha hb hm) fun σ H Q h => imp2Z hs σ H _ (impTZ σ H Q h)
theorem t_cmpE {op : CmpOp} {a b : Expr} {pos : Pos} {r : R2} {g : D → D → Option D} {m n : ME} (ho : OpR X (compareOp op) r) (hs : OpS X.K r g) (ha : PE X a (rdE X.K B W m)) (hb : PE X b (rdE X.K B W n)) (hm : behindInMarks op b = false := by first | exact nomark _ | rfl) : PT X (.Compare a [op] [b] pos) (rdT X.K B W (tE (e2 g m n))) :=
  PT.imp (pt_cmpR ho ha hb hm) fun σ H Q h => imp2E hs σ H _ (impTE σ H Q h)
def tAnd (a b : MT) : MT := fun τ => (a τ).bind fun x τ1 => if x = true then b τ1 else .ok false τ1
def tOr (a b : MT) : MT := fun τ => (a τ).bind fun x τ1 => if x = true then .ok true τ1 else b τ1
def tNot (a : MT) : MT := fun τ => (a τ).bind fun x τ1 => .ok (!x) τ1
theorem t_and1 {a : Expr} {pos : Pos} {m : MT} (ha : PT X a (rdT X.K B W m)) : PW X (.BoolOp .And [a] pos) (rdT X.K B W m) := pw_and1 ha
theorem t_or1 {a : Expr} {pos : Pos} {m : MT} (ha : PT X a (rdT X.K B W m)) : PW X (.BoolOp .Or [a] pos) (rdT X.K B W m) := pw_or1 ha
theorem t_and {a b : Expr} {r : List Expr} {pos : Pos} {m n : MT} (ha : PT X a (rdT X.K B W m)) (hb : PW X (.BoolOp .And (b :: r) pos) (rdT X.K B W n)) : PW X (.BoolOp .And (a :: b :: r) pos) (rdT X.K B W (tAnd m n)) := PW.imp (pw_and ha hb) fun σ H Q h => by
  obtain ⟨F, τ, vs, ds, s, p⟩ := h
  refine ⟨F, τ, vs, ds, s, post_imp (post_bind p) (fun b τ1 q F1 H1 s1 => ?_) fun _ _ q => q⟩
  cases b with
  | true => exact ⟨F1, τ1, vs, ds, s1, q⟩
  | false => exact q F1 H1 s1
theorem t_or {a b : Expr} {r : List Expr} {pos : Pos} {m n : MT} (ha : PT X a (rdT X.K B W m)) (hb : PW X (.BoolOp .Or (b :: r) pos) (rdT X.K B W n)) : PW X (.BoolOp .Or (a :: b :: r) pos) (rdT X.K B W (tOr m n)) := PW.imp (pw_or ha hb) fun σ H Q h => by
  obtain ⟨F, τ, vs, ds, s, p⟩ := h
  refine ⟨F, τ, vs, ds, s, post_imp (post_bind p) (fun b τ1 q F1 H1 s1 => ?_) fun _ _ q => q⟩
  cases b with
  | false => exact ⟨F1, τ1, vs, ds, s1, q⟩
  | true => exact q F1 H1 s1
theorem t_not {a : Expr} {pos : Pos} {m : MT} (ha : PT X a (rdT X.K B W m)) : PT X (.UnaryOp .Not a pos) (rdT X.K B W (tNot m)) := PT.imp (pt_not ha) fun σ H Q h => by
  obtain ⟨F, τ, vs, ds, s, p⟩ := h
  exact ⟨F, τ, vs, ds, s, post_imp (post_bind p) (fun b τ1 q F1 H1 s1 => q F1 H1 s1) fun _ _ q => q⟩
/-- chains a < b < c -/
def zChain (g g' : D → D → Option D) (a b c : MZ) : MZ := fun τ => (a τ).bind fun x => (b τ).bind fun y => (g x y).bind fun z => match z with
  | .bl true => (c τ).bind fun w => g' y w
  | .bl false => some (.bl false)
  | _ => none
theorem impChZ {r r' : R2} {g g' : D → D → Option D} {l m n : MZ} (hs : OpS X.K r g) (hs' : OpS X.K r' g') (σ : L2.St) (H : Hp) (Q : VK) (h : rdZ X.K B (zChain g g' l m n) σ H Q) : tChain r r' (rdZ X.K B l) (rdZ X.K B m) (rdZ X.K B n) σ H Q := by
  obtain ⟨F, τ, vs, ds, s, d, e, k⟩ := h
  obtain ⟨a, ea, e⟩ := bind_some e
  obtain ⟨b, eb, e⟩ := bind_some e
  obtain ⟨z, ez, e⟩ := bind_some e
  refine ⟨F, τ, vs, ds, s, a, ea, fun x f1 hx => ⟨F, τ, vs, ds, s, b, eb, fun y f2 hy => hs _ _ _ _ _ _ _ _ _ _ _ s.same hx hy ez fun v f hv => ?_⟩⟩
  cases z with
  | bl t =>
    refine ⟨t, hv.1, ?_⟩
    cases t with
    | true =>
      obtain ⟨c, ec, e⟩ := bind_some e
      exact ⟨F, τ, vs, ds, s, c, ec, fun w f3 hw => hs' _ _ _ _ _ _ _ _ _ _ _ s.same hy hw e k⟩
    | false =>
      cases (show some (D.bl false) = some d from e)
      exact k (.bl false) _ (Rep.o (d := .bl false) rfl)
  | _ => cases e
theorem z_chain {op op' : CmpOp} {a b c : Expr} {pos : Pos} {r r' : R2} {g g' : D → D → Option D} {l m n : MZ} (ho : OpR X (compareOp op) r) (hs : OpS X.K r g) (ho' : OpR X (compareOp op') r') (hs' : OpS X.K r' g') (ha : PE X a (rdZ X.K B l)) (hb : PE X b (rdZ X.K B m)) (hc : PE X c (rdZ X.K B n))
    (hm : lastMarks [op, op'] [b, c] = false := by with_unfolding_all rfl) : PE X (.Compare a [op, op'] [b, c] pos) (rdZ X.K B (zChain g g' l m n)) := PE.imp (pe_chain ho ho' ha hb hc hm) (impChZ hs hs')
theorem t_chain {op op' : CmpOp} {a b c : Expr} {pos : Pos} {r r' : R2} {g g' : D → D → Option D} {l m n : MZ} (ho : OpR X (compareOp op) r) (hs : OpS X.K r g) (ho' : OpR X (compareOp op') r') (hs' : OpS X.K r' g') (ha : PE X a (rdZ X.K B l)) (hb : PE X b (rdZ X.K B m)) (hc : PE X c (rdZ X.K B n))
    (hm : lastMarks [op, op'] [b, c] = false := by with_unfolding_all rfl) : PT X (.Compare a [op, op'] [b, c] pos) (rdT X.K B W (tZ (zChain g g' l m n))) := PT.imp (pt_chain ho ho' ha hb hc hm) fun σ H Q h => impChZ hs hs' σ H _ (impTZ σ H Q h)

/-! ### and, or, not, if as values -/
def eAnd (a b : ME) : ME := fun τ => (a τ).bind fun x τ1 => match x with
  | .bl true => b τ1
  | .bl false => .ok (.bl false) τ1
  | _ => .bad
def eOr (a b : ME) : ME := fun τ => (a τ).bind fun x τ1 => match x with
  | .bl false => b τ1
  | .bl true => .ok (.bl true) τ1
  | _ => .bad
def eNot (a : ME) : ME := fun τ => (a τ).bind fun x τ1 => match x with
  | .bl b => .ok (.bl (!b)) τ1
  | _ => .bad
def eIf (c : MT) (a b : ME) : ME := fun τ => (c τ).bind fun x τ1 => if x = true then a τ1 else b τ1
theorem e_one {op : BoolOp} {a : Expr} {pos : Pos} {m : ME} (h : PE X a (rdE X.K B W m)) : PE X (.BoolOp op [a] pos) (rdE X.K B W m) := pe_one h
theorem e_and {a b : Expr} {r : List Expr} {pos : Pos} {m n : ME} (ha : PE X a (rdE X.K B W m)) (hb : PE X (.BoolOp .And (b :: r) pos) (rdE X.K B W n)) : PE X (.BoolOp .And (a :: b :: r) pos) (rdE X.K B W (eAnd m n)) := PE.imp (pe_and ha hb) fun σ H Q h => by
  obtain ⟨F, τ, vs, ds, s, p⟩ := h
  refine ⟨F, τ, vs, ds, s, post_imp (post_bind p) (fun d τ1 q x F1 H1 s1 => ?_) fun _ _ q => q⟩
  cases d with
  | bl b =>
    refine ⟨b, s1.topF rfl, ?_⟩
    cases b with
    | true => exact ⟨F1, τ1, vs, ds, s1.pop, q⟩
    | false => exact q _ F1 H1 (s1.pop.push (d := .bl false) rfl)
  | _ => exact False.elim q
theorem e_or {a b : Expr} {r : List Expr} {pos : Pos} {m n : ME} (ha : PE X a (rdE X.K B W m)) (hb : PE X (.BoolOp .Or (b :: r) pos) (rdE X.K B W n)) : PE X (.BoolOp .Or (a :: b :: r) pos) (rdE X.K B W (eOr m n)) := PE.imp (pe_or ha hb) fun σ H Q h => by
  obtain ⟨F, τ, vs, ds, s, p⟩ := h
  refine ⟨F, τ, vs, ds, s, post_imp (post_bind p) (fun d τ1 q x F1 H1 s1 => ?_) fun _ _ q => q⟩
  cases d with
  | bl b =>
    refine ⟨b, s1.topF rfl, ?_⟩
    cases b with
    | false => exact ⟨F1, τ1, vs, ds, s1.pop, q⟩
    | true => exact q _ F1 H1 (s1.pop.push (d := .bl true) rfl)
  | _ => exact False.elim q
theorem e_not {a : Expr} {pos : Pos} {m : ME} (ha : PE X a (rdE X.K B W m)) : PE X (.UnaryOp .Not a pos) (rdE X.K B W (eNot m)) := PE.imp (pe_not ha) fun σ H Q h => by
  obtain ⟨F, τ, vs, ds, s, p⟩ := h
  refine ⟨F, τ, vs, ds, s, post_imp (post_bind p) (fun d τ1 q x F1 H1 s1 => ?_) fun _ _ q => q⟩
  cases d with
  | bl b => exact ⟨b, s1.topF rfl, q _ F1 H1 (s1.pop.push (d := .bl (!b)) rfl)⟩
  | _ => exact False.elim q
theorem e_if {c a b : Expr} {pos : Pos} {t : MT} {m n : ME} (hc : PT X c (rdT X.K B W t)) (ha : PE X a (rdE X.K B W m)) (hb : PE X b (rdE X.K B W n)) : PE X (.IfExp c a b pos) (rdE X.K B W (eIf t m n)) := PE.imp (pe_ifExp hc ha hb) fun σ H Q h => by
  obtain ⟨F, τ, vs, ds, s, p⟩ := h
  refine ⟨F, τ, vs, ds, s, post_imp (post_bind p) (fun b τ1 q F1 H1 s1 => ?_) fun _ _ q => q⟩
  cases b with
  | true => exact ⟨F1, τ1, vs, ds, s1, q⟩
  | false => exact ⟨F1, τ1, vs, ds, s1, q⟩

/-! ### argument lists -/
def aNil : MA := fun τ => .ok [] τ
def aCons (m : ME) (n : MA) : MA := fun τ => (m τ).bind fun d τ1 => (n τ1).bind fun ds τ2 => .ok (d :: ds) τ2
theorem a_nil : PA X [] (rdA X.K B W aNil) := PA.imp pa_nil fun σ H Q ⟨F, τ, vs, ds, s, p⟩ => p [] F H rfl s
theorem a_cons {e : Expr} {es : List Expr} {m : ME} {n : MA} (ha : PE X e (rdE X.K B W m)) (hr : PA X es (rdA X.K B W n)) (hs : starEach (e :: es) X.env = (false, eval e X.env) :: starEach es X.env := by rfl) : PA X (e :: es) (rdA X.K B W (aCons m n)) := PA.imp (pa_cons ha hr hs) fun σ H Q h => by
  obtain ⟨F, τ, vs, ds, s, p⟩ := h
  refine ⟨F, τ, vs, ds, s, post_imp (post_bind p) (fun a τ1 q x F1 H1 s1 => ⟨F1, τ1, _, _, s1, post_imp (post_bind q) (fun es τ2 q us F2 H2 hl s2 => ?_) fun c τ2 q F2 H2 s2 => q F2 H2 s2.pop⟩) fun _ _ q => q⟩
  exact q (x :: us) F2 H2 (by rw [List.length_cons, List.length_cons, hl]) (s2.swap hl)
/-- with values that are only looked at -/
def rdZA (K : PySem.W.Frag) (B : Bx) (m : Env → Option (List D)) : TA := fun σ H Q => ∃ F τ vs ds, StT K B F H σ τ vs ds ∧ ∃ es, m τ = some es ∧ ∀ us f, RepOs K B.ca F H es us f → Q us H
def zaNil : Env → Option (List D) := fun _ => some []
def zaCons (m : MZ) (n : Env → Option (List D)) : Env → Option (List D) := fun τ => (m τ).bind fun d => (n τ).bind fun ds => some (d :: ds)
theorem za_nil : PA X [] (rdZA X.K B zaNil) := PA.imp pa_nil fun σ H Q ⟨F, τ, vs, ds, s, es, e, k⟩ => by
  cases (show some [] = some es from e)
  exact k [] (fun _ => 0) ⟨rfl, fun _ => rfl⟩
theorem za_cons {e : Expr} {es : List Expr} {m : MZ} {n : Env → Option (List D)} (ha : PE X e (rdZ X.K B m)) (hr : PA X es (rdZA X.K B n)) (hs : starEach (e :: es) X.env = (false, eval e X.env) :: starEach es X.env := by rfl) : PA X (e :: es) (rdZA X.K B (zaCons m n)) := PA.imp (pa_cons ha hr hs) fun σ H Q h => by
  obtain ⟨F, τ, vs, ds, s, es, e, k⟩ := h
  obtain ⟨a, ea, e⟩ := bind_some e
  obtain ⟨bs, eb, e⟩ := bind_some e
  cases (show some (a :: bs) = some es from e)
  exact ⟨F, τ, vs, ds, s, a, ea, fun x f1 hx => ⟨F, τ, vs, ds, s, bs, eb, fun us f2 hu => k (x :: us) (fun b => f1 b + f2 b) ⟨x, us, f1, f2, rfl, hx, hu, fun _ => rfl⟩⟩⟩
def zC' (g : List D → Option D) (m : Env → Option (List D)) : MZ := fun τ => (m τ).bind g
theorem impCZ {r : List V → Hp → VK → Prop} {g : List D → Option D} {m : Env → Option (List D)} (hs : CallS X.K r g) (σ : L2.St) (H : Hp) (Q : VK) (h : rdZ X.K B (zC' g m) σ H Q) : tCB r (rdZA X.K B m) σ H Q := by
  obtain ⟨F, τ, vs, ds, s, d, e, k⟩ := h
  obtain ⟨a, ea, e⟩ := bind_some e
  exact ⟨F, τ, vs, ds, s, a, ea, fun us f hu => hs _ _ _ _ _ _ _ _ s.same hu e k⟩
theorem impCE {r : List V → Hp → VK → Prop} {g : List D → Option D} {m : MA} (hs : CallS X.K r g) (σ : L2.St) (H : Hp) (Q : VK) (h : rdE X.K B W (eC g m) σ H Q) : tCB r (rdA X.K B W m) σ H Q := by
  obtain ⟨F, τ, vs, ds, s, p⟩ := h
  refine ⟨F, τ, vs, ds, s, post_imp (post_bind p) (fun es τ1 q us F1 H1 hl s1 => ?_) fun _ _ q => q⟩
  obtain ⟨d, e, z, q⟩ := post_ofO q
  obtain ⟨f1, hu⟩ := s1.tops hl
  exact hs _ _ _ _ _ _ _ _ s1.same hu e fun v f hv => q v F1 H1 ((s1.pops hl).push ((repO_fz z).mp hv).1)
section
variable {x : Str} {p pos : Pos} {e : Expr} {es : List Expr} {id T : String} {r : List V → Hp → VK → Prop} {g : List D → Option D}
theorem z_callB {m : Env → Option (List D)} (hc : CallR X (.builtin id) r) (hs : CallS X.K r g) (hg : Gl X x) (hm : X.mg x = none) (hv : bootBuiltins x = some (.builtin id)) (ha : PA X (e :: es) (rdZA X.K B m)) (hn : x ≠ "__name__" := by decide) (hdb : (x == ("__debug__" : Str)) = false := by decide)
    (he : starEach (e :: es) X.env = (false, eval e X.env) :: starEach es X.env := by rfl) (hpl : (backTo pos (starEach es X.env)).any (·.1) = false := by rfl) : PE X (.Call (.Name x p) (e :: es) [] pos) (rdZ X.K B (zC' g m)) := PE.imp (pe_callB hc hg hm hv ha hn hdb he hpl) (impCZ hs)
theorem e_callB {m : MA} (hc : CallR X (.builtin id) r) (hs : CallS X.K r g) (hg : Gl X x) (hm : X.mg x = none) (hv : bootBuiltins x = some (.builtin id)) (ha : PA X (e :: es) (rdA X.K B W m)) (hn : x ≠ "__name__" := by decide) (hdb : (x == ("__debug__" : Str)) = false := by decide)
    (he : starEach (e :: es) X.env = (false, eval e X.env) :: starEach es X.env := by rfl) (hpl : (backTo pos (starEach es X.env)).any (·.1) = false := by rfl) : PE X (.Call (.Name x p) (e :: es) [] pos) (rdE X.K B W (eC g m)) := PE.imp (pe_callB hc hg hm hv ha hn hdb he hpl) (impCE hs)
theorem e_callTy {m : MA} (hc : CallR X (.type T) r) (hs : CallS X.K r g) (hg : Gl X x) (hm : X.mg x = none) (hv : bootBuiltins x = some (.type T)) (ha : PA X (e :: es) (rdA X.K B W m)) (hn : x ≠ "__name__" := by decide) (hdb : (x == ("__debug__" : Str)) = false := by decide)
    (he : starEach (e :: es) X.env = (false, eval e X.env) :: starEach es X.env := by rfl) (hpl : (backTo pos (starEach es X.env)).any (·.1) = false := by rfl) : PE X (.Call (.Name x p) (e :: es) [] pos) (rdE X.K B W (eC g m)) := PE.imp (pe_callTy hc hg hm hv ha hn hdb he hpl) (impCE hs)
end

/-! ### displays -/
def eTup (m : MA) : ME := fun τ => (m τ).bind fun ds τ1 => if ds.length ≤ 1000000 then .ok (.tup (freezeL ds)) τ1 else .bad
def eLst (m : MA) : ME := fun τ => (m τ).bind fun ds τ1 => if ds.length ≤ 1000000 then .ok (.lst true ds) τ1 else .bad
theorem le_sizeLine {n : Nat} (h : n ≤ 1000000) : n ≤ sizeLine := by rw [sizeLine_eq]; omega
theorem e_tup {es : List Expr} {k : Nat} {pos : Pos} {m : MA} (h : PA X es (rdA X.K B W m)) : PE X (.Tuple es k pos) (rdE X.K B W (eTup m)) := PE.imp (pe_tup h) fun σ H Q h => by
  obtain ⟨F, τ, vs, ds, s, p⟩ := h
  refine ⟨F, τ, vs, ds, s, post_imp (post_bind p) (fun es τ1 q us F1 H1 hl s1 => ?_) fun _ _ q => q⟩
  by_cases z : es.length ≤ 1000000
  · simp only [z, if_true] at q
    refine ⟨le_sizeLine (hl ▸ z), fun p hp => ?_⟩
    obtain ⟨F2, sm, rl, s2⟩ := s1.freeze hl
    exact q _ _ _ (s2.newTup hp rl)
  · simp only [z] at q; exact False.elim q
theorem e_lst {es : List Expr} {pos : Pos} {m : MA} (h : PA X es (rdA X.K B W m)) : PE X (.List es pos) (rdE X.K B W (eLst m)) := PE.imp (pe_lst h) fun σ H Q h => by
  obtain ⟨F, τ, vs, ds, s, p⟩ := h
  refine ⟨F, τ, vs, ds, s, post_imp (post_bind p) (fun es τ1 q us F1 H1 hl s1 => ?_) fun _ _ q => q⟩
  by_cases z : es.length ≤ 1000000
  · simp only [z, if_true] at q
    exact ⟨le_sizeLine (hl ▸ z), fun p hp => q _ _ _ (s1.newLst hl hp)⟩
  · simp only [z] at q; exact False.elim q
end
end Bn

/-! Calls, statements, loops, try, comprehensions; a def by its function. -/
namespace Bn
open PySem PySem.Spec PyProof.Rows L2

structure XOk (X : Cx) (W : WX) : Prop where
  tk : Takes X W
  hp : PassesOwn (model X.prog X.w) X.A X.env X.xe
  calm : X.calm = true
abbrev W0 : WX := fun _ _ _ _ => False

/-! ### calls -/
def spP (K : PySem.W.Frag) (ca : Str → Addr) (g : List D → CR) : Sp := fun vs H Q E => ∃ F ds, Same F H ∧ RepL K ca F ds vs ∧
  match g ds with
  | .ok d => ∀ v F' H' f, Same F F' → Same F' H' → Same H H' → RepO K ca F' H' d v f → (∀ a, f a ≤ 1) → (∀ a, 0 < f a → F' a = none ∧ H a = none) → (∀ a, F' a ≠ none → F a ≠ none ∨ H a = none) → Q v H'
  | .ex c => ∀ H', Same H H' → E (.ref (ca c)) none H'
  | .bad => False
structure Fo (P : Program) (w : World) (K : PySem.W.Frag) (mg : Str → Option Value) (base : Heap) (ca : Str → Addr) (k : Nat) (x : Str) (g : List D → CR) : Prop where
  ex : ∃ f fd ps, mg x = some (.ref f) ∧ PySem.W.keepIn K (.ref f) = true ∧ Binds K fd ps [] ∧ FnOk P w K mg base (L2.CX P w) k f fd ps (spP K ca g)
def ofC (r : CR) (τ : Env) : R D := match r with
  | .ok d => .ok d τ
  | .ex c => .ex c τ
  | .bad => .bad
def eCall (g : List D → CR) (m : MA) : ME := fun τ => (m τ).bind fun ds τ1 => ofC (g (freezeL ds)) τ1
def eCall0 (g : List D → CR) : ME := fun τ => match g [] with
  | .ok d => .ok d τ
  | _ => .bad
section
variable {X : Cx} {B : Bx} {W : WX}
theorem e_call {x : Str} {p pos : Pos} {e : Expr} {es : List Expr} {m : MA} {g : List D → CR} {k j : Nat} (c : XOk X W) (G : Fo X.prog X.w X.K X.mg X.base B.ca k x g) (hr : Room j X.A) (hg : Gl X x) (ha : PA X (e :: es) (rdA X.K B W m)) (hk : k ≤ j := by decide) (hdb : (x == ("__debug__" : Str)) = false := by decide)
    (he : starEach (e :: es) X.env = (false, eval e X.env) :: starEach es X.env := by rfl) (hpl : (backTo pos (starEach es X.env)).any (·.1) = false := by rfl) : PE X (.Call (.Name x p) (e :: es) [] pos) (rdE X.K B W (eCall g m)) := by
  obtain ⟨f, fd, ps, h1, h2, h3, h4⟩ := G.ex
  refine PE.imp (pe_callS h4 (hr.mono hk) hg h1 h2 h3 (fun σ => passAt c.tk σ) ha hdb he hpl) fun σ H Q h => ?_
  obtain ⟨F, τ, vs, ds, s, p⟩ := h
  refine ⟨F, τ, vs, ds, s, post_imp (post_bind p) (fun as τ1 q us F1 H1 hl s1 => ?_) fun _ _ q => q⟩
  obtain ⟨F2, sm, rl, s2⟩ := s1.freeze hl
  refine ⟨F2, freezeL as, s2.same, rl, ?_⟩
  cases eg : g (freezeL as) with
  | ok d => rw [eg] at q; exact fun v F' H' f k1 k2 k3 k4 k5 k6 k7 => q v F' H' (s2.called k1 k2 k3 k4 k5 k6 k7)
  | ex c => rw [eg] at q; exact fun H' k1 => q F2 H' (s2.grown k1)
  | bad => rw [eg] at q; exact q
theorem e_call0 {x : Str} {p pos : Pos} {g : List D → CR} {k j : Nat} (G : Fo X.prog X.w X.K X.mg X.base B.ca k x g) (hr : Room j X.A) (hg : Gl X x) (hk : k ≤ j := by decide) (hdb : (x == ("__debug__" : Str)) = false := by decide) :
    PE X (.Call (.Name x p) [] [] pos) (rdE X.K B W (eCall0 g)) := by
  obtain ⟨f, fd, ps, h1, h2, h3, h4⟩ := G.ex
  refine PE.imp (pe_call0 h4 (hr.mono hk) hg h1 h2 h3 .nil passL hdb) fun σ H Q h => ?_
  obtain ⟨F, τ, vs, ds, s, p⟩ := h
  refine ⟨F, [], s.same, rfl, ?_⟩
  unfold eCall0 at p
  cases eg : g [] with
  | ok d => rw [eg] at p; exact fun v F' H' f k1 k2 k3 k4 k5 k6 k7 => p v F' H' (s.called k1 k2 k3 k4 k5 k6 k7)
  | ex c => rw [eg] at p; exact p.elim
  | bad => rw [eg] at p; exact p

/-! ### statements -/
def R.s {α : Type} : R α → (α → Env → SR) → SR
  | .ok a τ, k => k a τ
  | .ex c τ, _ => .ex c τ
  | .bad, _ => .bad
theorem post_s {α : Type} {K : PySem.W.Frag} {vs : List V} {ds : List D} {D' : Ends} {r : R α} {k : α → Env → SR} {σ : L2.St} (h : postS K B W vs ds D' (r.s k)) : post (fun a τ => postS K B W vs ds D' (k a τ)) (exW K B W σ vs ds) r := by
  cases r with
  | ok a τ => exact h
  | ex c τ => exact fun F H s => h σ F H s
  | bad => exact h
def sSeq (s r : MS) : MS := fun τ => match s τ with
  | .nx τ' => r τ'
  | .rt d τ' => .rt d τ'
  | .bk τ' => .bk τ'
  | .ct τ' => .ct τ'
  | .ex c τ' => .ex c τ'
  | .bad => .bad
def sNil : MS := fun τ => .nx τ
theorem s_nil : PSs X [] (rdS X.K B W sNil) := PSs.imp pss_nil fun D σ H ⟨F, τ, vs, ds, s, p⟩ => p σ F H s
theorem s_one {st : Stmt} {m : MS} (h : PS X st (rdS X.K B W m)) : PSs X [st] (rdS X.K B W m) := pss_one h
theorem s_cons {st : Stmt} {r : List Stmt} {m n : MS} (h : PS X st (rdS X.K B W m)) (hr : PSs X r (rdS X.K B W n)) : PSs X (st :: r) (rdS X.K B W (sSeq m n)) := PSs.imp (pss_cons h hr) fun D σ H ⟨F, τ, vs, ds, s, p⟩ => by
  refine ⟨F, τ, vs, ds, s, ?_⟩
  unfold sSeq at p
  cases e : m τ with
  | nx τ' => rw [e] at p; exact fun σ' F' H' s' => ⟨F', τ', vs, ds, s', p⟩
  | _ => rw [e] at p; exact p
def sRet (m : ME) : MS := fun τ => (m τ).s fun d τ1 => .rt d τ1
theorem s_ret {e : Expr} {pos : Pos} {m : ME} (h : PE X e (rdE X.K B W m)) : PS X (.Return (some e) pos) (rdS X.K B W (sRet m)) := PS.imp (ps_ret h) fun D σ H ⟨F, τ, vs, ds, s, p⟩ =>
  ⟨F, τ, vs, ds, s, post_imp (post_s (σ := σ) p) (fun d τ1 q v F1 H1 s1 => q v σ F1 H1 s1) fun _ _ q => q⟩
def sRetN : MS := fun τ => .rt .non τ
theorem s_retN {pos : Pos} : PS X (.Return none pos) (rdS X.K B W sRetN) := PS.imp ps_retN fun D σ H ⟨F, τ, vs, ds, s, p⟩ => p .non σ F H (s.push (d := .non) rfl)
def sDrop (m : ME) : MS := fun τ => (m τ).s fun _ τ1 => .nx τ1
theorem s_expr {e : Expr} {pos : Pos} {m : ME} (h : PE X e (rdE X.K B W m)) (hs : swapsWith e none pos.line X.env = pure false := by rfl) : PS X (.Expr e pos) (rdS X.K B W (sDrop m)) := PS.imp (ps_expr h hs) fun D σ H ⟨F, τ, vs, ds, s, p⟩ =>
  ⟨F, τ, vs, ds, s, post_imp (post_s (σ := σ) p) (fun d τ1 q v F1 H1 s1 => q σ F1 H1 s1.pop) fun _ _ q => q⟩
theorem s_doc {x j pos pos'} : PS X (.Expr (.Constant (.str x) j pos) pos') (rdS X.K B W sNil) := PS.imp ps_doc fun D σ H ⟨F, τ, vs, ds, s, p⟩ => p σ F H s
theorem s_pass {pos : Pos} : PS X (.Pass pos) (rdS X.K B W sNil) := PS.imp ps_pass fun D σ H ⟨F, τ, vs, ds, s, p⟩ => p σ F H s
def sBk : MS := fun τ => .bk τ
def sCt : MS := fun τ => .ct τ
theorem s_break {pos : Pos} : PS X (.Break pos) (rdS X.K B W sBk) := PS.imp ps_break fun D σ H ⟨F, τ, vs, ds, s, p⟩ => p σ F H s
theorem s_continue {pos : Pos} : PS X (.Continue pos) (rdS X.K B W sCt) := PS.imp ps_continue fun D σ H ⟨F, τ, vs, ds, s, p⟩ => p σ F H s
def sIf (c : MT) (a b : MS) : MS := fun τ => (c τ).s fun x τ1 => if x = true then a τ1 else b τ1
theorem s_if {c : Expr} {a b : List Stmt} {pos : Pos} {t : MT} {m n : MS} (hc : PT X c (rdT X.K B W t)) (ha : PSs X a (rdS X.K B W m)) (hb : PSs X b (rdS X.K B W n)) : PS X (.If c a b pos) (rdS X.K B W (sIf t m n)) := PS.imp (ps_if hc ha hb) fun D σ H ⟨F, τ, vs, ds, s, p⟩ => by
  refine ⟨F, τ, vs, ds, s, post_imp (post_s (σ := σ) p) (fun x τ1 q F1 H1 s1 => ?_) fun _ _ q => q⟩
  cases x with
  | true => exact ⟨F1, τ1, vs, ds, s1, q⟩
  | false => exact ⟨F1, τ1, vs, ds, s1, q⟩

/-! ### targets -/
def gN (i : Nat) : D → Env → Option Env := fun d τ => some (τ.set i (some d))
theorem StT.put' {K : PySem.W.Frag} {F H : Hp} {σ : L2.St} {τ : Env} {vs : List V} {ds : List D} {v : V} {d : D} {i : Nat} (s : StT K B F H σ τ (v :: vs) (d :: ds)) (hf : ioFree B i) : StT K B F H (σ.set i (some v)) (τ.set i (some d)) vs ds := by
  by_cases h : i < τ.length
  · exact s.put h hf
  · have hl : σ.length = τ.length := by obtain ⟨f1, f2, a, _⟩ := s; exact a.length
    rw [List.set_eq_of_length_le (by omega), List.set_eq_of_length_le (by omega)]
    exact s.pop
theorem g_name {i : Nat} {x : Str} {pos : Pos} (hN : X.N.Nodup) (hi : X.N[i]? = some x) (hx : Loc X.env.scope x) (hio : ioFree B i := by intro p hp; cases hp) (hf : X.fn x = true ∨ X.env.scope.names.lookup x = some .local := by first | exact .inl rfl | exact .inr rfl | assumption) : PG X (.Name x pos) (rdG X.K B [i] (gN i)) :=
  PG.imp (pg_name hN hi hx hf) fun v σ H Q ⟨F, τ, vs, ds, d, s, τ', e, k⟩ => by
    cases (show some (τ.set i (some d)) = some τ' from e)
    refine k _ F H (s.put' hio) (by rw [List.length_set]) fun j hj => ?_
    rw [List.getElem?_set_ne]
    exact fun e => hj (by simp [e])
def gNil' : List D → Env → Option Env := fun ds τ => match ds with
  | [] => some τ
  | _ => none
def gCons' (g : D → Env → Option Env) (h : List D → Env → Option Env) : List D → Env → Option Env := fun ds τ => match ds with
  | d :: r => (g d τ).bind (h r)
  | [] => none
def gT (n : Nat) (g : List D → Env → Option Env) : D → Env → Option Env := fun d τ => match d with
  | .tup es => if es.length = n then g es τ else none
  | _ => none
theorem gs_nil : PGs X [] (rdGs X.K B [] gNil') := PGs.imp pgs_nil fun ws σ H Q ⟨F, τ, vs, ds, es, hl, s, τ', e, k⟩ => by
  cases es with
  | nil =>
    cases (show some τ = some τ' from e)
    have : ws = [] := List.eq_nil_of_length_eq_zero hl
    subst this
    exact ⟨rfl, k σ F H s rfl fun _ _ => rfl⟩
  | cons a b => cases e
theorem gs_cons {e : Expr} {es : List Expr} {sl sl' : List Nat} {g : D → Env → Option Env} {h : List D → Env → Option Env} (h1 : PG X e (rdG X.K B sl g)) (h2 : PGs X es (rdGs X.K B sl' h))
    (hs : (assignEach (e :: es) X.env).map (·.2) = assign e X.env :: (assignEach es X.env).map (·.2) := by rfl) : PGs X (e :: es) (rdGs X.K B (sl ++ sl') (gCons' g h)) := PGs.imp (pgs_cons h1 h2 hs) fun ws σ H Q ⟨F, τ, vs, ds, es, hl, s, τ', e, k⟩ => by
  cases es with
  | nil => cases e
  | cons d r =>
    obtain ⟨τ1, e1, e⟩ := bind_some e
    cases ws with
    | nil => cases hl
    | cons v ws =>
      refine ⟨v, ws, rfl, F, τ, ws ++ vs, r ++ ds, d, s, τ1, e1, fun σ1 F1 H1 s1 l1 k1 => ⟨F1, τ1, vs, ds, r, by simpa using hl, s1, τ', e, fun σ2 F2 H2 s2 l2 k2 => k σ2 F2 H2 s2 (l2.trans l1) fun j hj => ?_⟩⟩
      rw [k2 j fun z => hj (List.mem_append_right _ z), k1 j fun z => hj (List.mem_append_left _ z)]
theorem g_tup {es : List Expr} {k : Nat} {pos : Pos} {sl : List Nat} {g : List D → Env → Option Env} {n : Nat} (hc : X.calm = true) (h : PGs X es (rdGs X.K B sl g)) (hn : (assignEach es X.env).length = n := by rfl) (hst : (assignEach es X.env).findIdx? (·.1) = none := by rfl) : PG X (.Tuple es k pos) (rdG X.K B sl (gT n g)) :=
  PG.imp (pg_tup hc h hn hst) fun v σ H Q ⟨F, τ, vs, ds, d, s, τ', e, k⟩ => by
    cases d with
    | tup xs =>
      obtain ⟨a, us, e1, h1, h2⟩ := s.topF rfl
      subst e1
      by_cases hl : xs.length = n
      · have e' : g xs τ = some τ' := by
          have e' : (if xs.length = n then g xs τ else none) = some τ' := e
          rw [if_pos hl] at e'; exact e'
        have hul := h2.length
        refine ⟨a, us, rfl, sqT_same s.same h1, hul.trans hl, F, τ, vs, ds, xs, hul, ?_, τ', e', k⟩
        obtain ⟨f1, f2, A, b, w, io⟩ := s.pop
        have b2 := (h2.os (H := H)).append b
        have e3 : (fun b => 0 + f2 b) = f2 := funext fun b => by omega
        rw [e3] at b2
        exact ⟨f1, f2, A, b2, w, io⟩
      · have e' : (if xs.length = n then g xs τ else none) = some τ' := e
        rw [if_neg hl] at e'; cases e'
    | _ => cases e
def sAsg (m : ME) (g : D → Env → Option Env) : MS := fun τ => (m τ).s fun d τ1 => match g d τ1 with
  | some τ2 => .nx τ2
  | none => .bad
theorem impAsg {m : ME} {sl : List Nat} {g : D → Env → Option Env} {D' : Ends} {σ : L2.St} {H : Hp} (h : rdS X.K B W (sAsg m g) D' σ H) : tAsg (rdE X.K B W m) (rdG X.K B sl g) D' σ H := by
  obtain ⟨F, τ, vs, ds, s, p⟩ := h
  refine ⟨F, τ, vs, ds, s, post_imp (post_s (σ := σ) p) (fun d τ1 q v F1 H1 s1 => ?_) fun _ _ q => q⟩
  cases e : g d τ1 with
  | none => simp only [e] at q; exact q.elim
  | some τ2 => simp only [e] at q; exact ⟨F1, τ1, vs, ds, d, s1, τ2, e, fun σ' F' H' s' _ _ => q σ' F' H' s'⟩
theorem s_asg {tg e : Expr} {pos : Pos} {m : ME} {sl : List Nat} {g : D → Env → Option Env} (he : PE X e (rdE X.K B W m)) (hg : PG X tg (rdG X.K B sl g)) (hs : swapsWithSole [tg] e pos.line X.env = pure false := by rfl) (hw : swappedStores [tg] e X.env = pure none := by rfl)
    (h1 : (assignEach [tg] X.env).map (·.2) = [assign tg X.env] := by rfl) : PS X (.Assign [tg] e pos) (rdS X.K B W (sAsg m g)) := PS.imp (ps_asg he hg hs hw h1) fun D σ H h => impAsg h
theorem s_set {i : Nat} {x : Str} {e : Expr} {pos pos' : Pos} {m : ME} (hN : X.N.Nodup) (hi : X.N[i]? = some x) (hx : Loc X.env.scope x) (he : PE X e (rdE X.K B W m)) (hio : ioFree B i := by intro p hp; cases hp) (hs : swapsWith e (some (.Name x pos')) pos.line X.env = pure false := by rfl)
    (hf : X.fn x = true ∨ X.env.scope.names.lookup x = some .local := by first | exact .inl rfl | exact .inr rfl | assumption) : PS X (.Assign [.Name x pos'] e pos) (rdS X.K B W (sAsg m (gN i))) := PS.imp (ps_set hN hi hx he hs hf) fun D σ H ⟨F, τ, vs, ds, s, p⟩ =>
  ⟨F, τ, vs, ds, s, post_imp (post_s (σ := σ) p) (fun d τ1 q v F1 H1 s1 => q _ F1 H1 (s1.put' hio)) fun _ _ q => q⟩

/-! ### raise, try -/
structure Ec (K : PySem.W.Frag) (mg : Str → Option Value) (ca : Str → Addr) (x : Str) : Prop where
  g : mg x = some (.ref (ca x))
  k : PySem.W.keepIn K (.ref (ca x)) = true
  q : PySem.W.excIn K (ca x) [.type "ValueError", .type "Exception", .type "BaseException", .type "object"] "ValueError.__new__" = true
  b : PySem.W.subIn K (.ref (ca x)) (.type "BaseException") = some true
  t : PySem.W.typeIn K (.ref (ca x)) = some (.type "type")
def sRaise (x : Str) : MS := fun τ => .ex x τ
theorem s_raise {x m : Str} {j} {p p2 pos1 pos : Pos} (c : XOk X W) (E : Ec X.K X.mg B.ca x) (hg : Gl X x) (hdb : (x == ("__debug__" : Str)) = false := by decide) : PS X (.Raise (some (.Call (.Name x p) [.Constant (.str m) j p2] [] pos1)) none pos) (rdS X.K B W (sRaise x)) :=
  PS.imp (ps_raise c.calm c.tk (pmk_own PySem.F.excBase_ValueError E.q E.g E.k (raises_own E.b E.t) hg hdb)) fun D σ H ⟨F, τ, vs, ds, s, p⟩ => p σ F H s
def noEx (r : SR) : SR := match r with
  | .ex _ _ => .bad
  | r => r
def sTry (sub : Str → Option Bool) (b su : MS) : MS := fun τ => match b τ with
  | .ex c τ' => (match sub c with
    | some true => noEx (su τ')
    | some false => .ex c τ'
    | none => .bad)
  | .nx τ' => .nx τ'
  | .rt d τ' => .rt d τ'
  | .bk τ' => .bk τ'
  | .ct τ' => .ct τ'
  | .bad => .bad
theorem s_try {x : Str} {cv : Value} {body suite : List Stmt} {b₀ : Stmt} {np pos pos' : Pos} {b su : MS} (c : XOk X W) (sub : Str → Option Bool) (hn : Names X x cv) (hsub : ∀ y t, sub y = some t → PySem.W.exmOne X.K (.ref (B.ca y)) cv = some t) (hs : X.stack = X.env :: X.outer) (hf : X.env.frame = some X.env.locals)
    (hb : ∀ (W' : WX) (pn : List (Addr × Obj)) (xe : Value → Shared → Prop), XOk (X.tr pn xe) W' → PSs (X.tr pn xe) body (rdS X.K B W' b))
    (hsu : ∀ (a : Addr) (oe : Obj) (cls : Value) (d : Option Addr) (pn : List (Addr × Obj)), PSs (X.suite a ((a, oe) :: pn)) (b₀ :: suite) (rdS X.K B W0 su)) :
    PS X (.Try body [.ExceptHandler (some (.Name x np)) none (b₀ :: suite) pos'] [] [] pos) (rdS X.K B W (sTry sub b su)) :=
  PS.imp (ps_try_only (tb := fun W' => rdS X.K B W' b) (ts := fun _ _ _ => rdS X.K B W0 su) hs hf hn c.tk (fun W' pn xe tk hp => hb W' pn xe ⟨tk, hp, c.calm⟩) fun a oe cls d pn _ _ => hsu a oe cls d pn) fun D σ H ⟨F, τ, vs, ds, s, p⟩ => by
    refine ⟨F, τ, vs, ds, s, ?_⟩
    unfold sTry at p
    cases e : b τ with
    | ex y τ' =>
      rw [e] at p
      intro σ' F' H' s'
      cases es : sub y with
      | none => simp only [es] at p; exact p.elim
      | some t =>
        simp only [es] at p
        refine ⟨t, hsub y t es, fun ht a ha => ?_, fun ht => ?_⟩
        · subst ht
          refine ⟨F', τ', vs, ds, s', ?_⟩
          cases e2 : su τ' with
          | ex y2 τ2 => simp only [e2] at p; exact False.elim p
          | _ => simp only [e2] at p; exact p
        · subst ht; exact p σ' F' H' s'
    | _ => rw [e] at p; exact p

/-! ### what is walked -/
theorem sqOf {K : PySem.W.Frag} {H : Hp} {a : Addr} {xs : List V} (h : H a = some (.lst xs)) : SqL K H a xs := .inl (.inl h)
structure ItOk (K : PySem.W.Frag) (B : Bx) (J : It) (items : List D) (tv : List V) (td : List D) : Prop where
  go : ∀ i F H σ τ, StT K B F H σ τ tv td → i < items.length → J.go i H
  st : ∀ F H σ τ, StT K B F H σ τ tv td → J.stop items.length H
  y : ∀ i d F H σ τ x H' us es, us.length = es.length → items[i]? = some d → StT K B F H σ τ (us ++ tv) (es ++ td) → J.yld i H x H' → ∃ F', StT K B F' H' σ τ (x :: (us ++ tv)) (d :: (es ++ td))
def rdI (K : PySem.W.Frag) (B : Bx) (W : WX) (m : MA) : TI := fun σ H R => ∃ F τ vs ds, StT K B F H σ τ vs ds ∧ post (fun items τ1 => ∀ J us es F' H', us.length = es.length → StT K B F' H' σ τ1 (us ++ vs) (es ++ ds) → ItOk K B J items (us ++ vs) (es ++ ds) → R J H') (exW K B W σ vs ds) (m τ)
theorem PI.imp {tg it : Expr} {t t' : TI} (h : PI X tg it t) (k : ∀ σ H R, t' σ H R → t σ H R) : PI X tg it t' := ⟨fun p s σ H R I q => h.run p s σ H R I (k _ _ _ q)⟩
def iL (m : ME) : MA := fun τ => (m τ).bind fun d τ1 => match freeze d with
  | .lst _ es => .ok es τ1
  | _ => .bad
theorem freeze_fz : ∀ d : D, isFz (freeze d) = true
  | .lst true _ => rfl | .lst false _ => rfl | .obj true _ _ _ => rfl | .obj false _ _ _ => rfl
  | .non => rfl | .bl _ => rfl | .int _ => rfl | .str _ => rfl | .ty _ => rfl | .tup _ => rfl | .cst _ => rfl
theorem StT.freeze1 {K : PySem.W.Frag} {F H : Hp} {σ : L2.St} {τ : Env} {vs : List V} {ds : List D} {v : V} {d : D} (s : StT K B F H σ τ (v :: vs) (d :: ds)) : ∃ F', StT K B F' H σ τ (v :: vs) (Bn.freeze d :: ds) := by
  obtain ⟨F2, sm, ⟨_, _, e2, r, _⟩, s2⟩ := StT.freeze (us := [v]) (es := [d]) s rfl
  cases e2
  exact ⟨F2, s2.push r⟩
theorem itOk_list {K : PySem.W.Frag} {a : Addr} {es : List D} {vs : List V} {ds : List D} : ItOk K B (Itl K a) es (.ref a :: vs) (.lst false es :: ds) := by
  have look : ∀ {F H σ τ}, StT K B F H σ τ (.ref a :: vs) (.lst false es :: ds) → ∃ us, SqL K H a us ∧ RepL K B.ca F es us := fun {F H σ τ} s => by
    obtain ⟨a', us, e, h1, h2⟩ := s.topF rfl
    cases e
    exact ⟨us, sqOf (s.same _ _ h1), h2⟩
  refine ⟨fun i F H σ τ s hi => ?_, fun F H σ τ s => ?_, fun i d F H σ τ x H' us' es' hl hd s y => ?_⟩
  · obtain ⟨us, h1, h2⟩ := look s
    exact ⟨us, us[i]'(by rw [h2.length]; exact hi), h1, by simp [h2.length, hi]⟩
  · obtain ⟨us, h1, h2⟩ := look s
    exact ⟨us, h1, by rw [h2.length]; exact Nat.le_refl _⟩
  · obtain ⟨rfl, y⟩ := y
    obtain ⟨us, h1, h2⟩ := look (s.pops hl)
    obtain ⟨v, e, r⟩ := h2.get hd
    rw [y us h1] at e; cases e
    exact ⟨F, s.push r⟩
theorem itOk_tup {K : PySem.W.Frag} {a : Addr} {es : List D} {vs : List V} {ds : List D} : ItOk K B (Itt K a) es (.ref a :: vs) (.tup es :: ds) := by
  have look : ∀ {F H σ τ}, StT K B F H σ τ (.ref a :: vs) (.tup es :: ds) → ∃ us, SqT K H a us ∧ RepL K B.ca F es us := fun {F H σ τ} s => by
    obtain ⟨a', us, e, h1, h2⟩ := s.topF rfl
    cases e
    exact ⟨us, sqT_same s.same h1, h2⟩
  refine ⟨fun i F H σ τ s hi => ?_, fun F H σ τ s => ?_, fun i d F H σ τ x H' us' es' hl hd s y => ?_⟩
  · obtain ⟨us, h1, h2⟩ := look s
    exact ⟨us, us[i]'(by rw [h2.length]; exact hi), h1, by simp [h2.length, hi]⟩
  · obtain ⟨us, h1, h2⟩ := look s
    exact ⟨us, h1, by rw [h2.length]; exact Nat.le_refl _⟩
  · obtain ⟨rfl, y⟩ := y
    obtain ⟨us, h1, h2⟩ := look (s.pops hl)
    obtain ⟨v, e, r⟩ := h2.get hd
    rw [y us h1] at e; cases e
    exact ⟨F, s.push r⟩
def enumD : Nat → List D → List D
  | _, [] => []
  | i, d :: ds => .tup [.int (i : Nat), d] :: enumD (i + 1) ds
theorem enumD_len : ∀ (i : Nat) (ds : List D), (enumD i ds).length = ds.length
  | _, [] => rfl
  | i, d :: ds => by show (enumD (i + 1) ds).length + 1 = ds.length + 1; rw [enumD_len]
theorem enumD_get : ∀ (i j : Nat) (ds : List D), (enumD i ds)[j]? = ds[j]?.map fun d => .tup [.int ((i + j : Nat) : Int), d]
  | _, j, [] => by simp [enumD]
  | i, 0, d :: ds => by simp [enumD]
  | i, j + 1, d :: ds => by
    show (enumD (i + 1) ds)[j]? = _
    rw [enumD_get (i + 1) j ds]
    simp [Nat.add_assoc, Nat.add_comm 1 j]
theorem itOk_enum {K : PySem.W.Frag} {a : Addr} {es : List D} {vs : List V} {ds : List D} : ItOk K B (Ite K a) (enumD 0 es) (.ref a :: vs) (.lst false es :: ds) := by
  have look : ∀ {F H σ τ}, StT K B F H σ τ (.ref a :: vs) (.lst false es :: ds) → ∃ us, SqL K H a us ∧ RepL K B.ca F es us := fun {F H σ τ} s => by
    obtain ⟨a', us, e, h1, h2⟩ := s.topF rfl
    cases e
    exact ⟨us, sqOf (s.same _ _ h1), h2⟩
  refine ⟨fun i F H σ τ s hi => ?_, fun F H σ τ s => ?_, fun i d F H σ τ x H' us' es' hl hd s y => ?_⟩
  · obtain ⟨us, h1, h2⟩ := look s
    rw [enumD_len] at hi
    exact ⟨us, us[i]'(by rw [h2.length]; exact hi), h1, by simp [h2.length, hi]⟩
  · obtain ⟨us, h1, h2⟩ := look s
    exact ⟨us, h1, by rw [enumD_len, h2.length]; exact Nat.le_refl _⟩
  · obtain ⟨T, x', rfl, hT, rfl, y⟩ := y
    obtain ⟨us, h1, h2⟩ := look (s.pops hl)
    rw [enumD_get] at hd
    cases e : es[i]? with
    | none => rw [e] at hd; cases hd
    | some d' =>
      rw [e] at hd
      obtain ⟨v, ev, r⟩ := h2.get e
      rw [y us h1] at ev; cases ev
      have hd' : D.tup [.int ((0 + i : Nat) : Int), d'] = d := Option.some.inj hd
      subst hd'
      rw [Nat.zero_add]
      exact ⟨_, s.newTup hT ⟨.int (i : Nat), [x'], rfl, rfl, x', [], rfl, r, rfl⟩⟩
def zipD : List D → List D → List D
  | x :: xs, y :: ys => .tup [x, y] :: zipD xs ys
  | _, _ => []
theorem zipD_len : ∀ xs ys : List D, (zipD xs ys).length = min xs.length ys.length
  | [], ys => by simp [zipD]
  | x :: xs, [] => by simp [zipD]
  | x :: xs, y :: ys => by
    show (zipD xs ys).length + 1 = min (xs.length + 1) (ys.length + 1)
    rw [zipD_len]; omega
theorem zipD_get : ∀ (i : Nat) (xs ys : List D) (d : D), (zipD xs ys)[i]? = some d → ∃ x y, xs[i]? = some x ∧ ys[i]? = some y ∧ d = .tup [x, y]
  | _, [], ys, d, h => by simp [zipD] at h
  | _, x :: xs, [], d, h => by simp [zipD] at h
  | 0, x :: xs, y :: ys, d, h => ⟨x, y, rfl, rfl, (Option.some.inj h).symm⟩
  | i + 1, x :: xs, y :: ys, d, h => by simpa using zipD_get i xs ys d h
theorem itOk_zip {K : PySem.W.Frag} {a b : Addr} {es fs : List D} {vs : List V} {ds : List D} : ItOk K B (Itz K a b) (zipD es fs) (.ref b :: .ref a :: vs) (.lst false fs :: .lst false es :: ds) := by
  have look : ∀ {F H σ τ}, StT K B F H σ τ (.ref b :: .ref a :: vs) (.lst false fs :: .lst false es :: ds) → ∃ us ws, SqL K H a us ∧ RepL K B.ca F es us ∧ SqL K H b ws ∧ RepL K B.ca F fs ws := fun {F H σ τ} s => by
    obtain ⟨a', us, e, h1, h2⟩ := s.topF rfl
    obtain ⟨a'', ws, e', h1', h2'⟩ := s.pop.topF rfl
    cases e; cases e'
    exact ⟨ws, us, sqOf (s.same _ _ h1'), h2', sqOf (s.same _ _ h1), h2⟩
  refine ⟨fun i F H σ τ s hi => ?_, fun F H σ τ s => ?_, fun i d F H σ τ x H' us' es' hl hd s y => ?_⟩
  · obtain ⟨us, ws, h1, h2, h3, h4⟩ := look s
    rw [zipD_len] at hi
    have i1 : i < us.length := by rw [h2.length]; omega
    have i2 : i < ws.length := by rw [h4.length]; omega
    exact ⟨us, ws, us[i], ws[i], h1, h3, by simp [i1], by simp [i2]⟩
  · obtain ⟨us, ws, h1, h2, h3, h4⟩ := look s
    refine ⟨us, ws, h1, h3, ?_⟩
    rw [zipD_len, h2.length, h4.length]; omega
  · obtain ⟨T, x', y', rfl, hT, rfl, y1, y2⟩ := y
    obtain ⟨us, ws, h1, h2, h3, h4⟩ := look (s.pops hl)
    obtain ⟨d1, d2, g1, g2, rfl⟩ := zipD_get i es fs d hd
    obtain ⟨v1, k1, r1⟩ := h2.get g1
    obtain ⟨v2, k2, r2⟩ := h4.get g2
    rw [y1 us h1] at k1; cases k1
    rw [y2 ws h3] at k2; cases k2
    exact ⟨_, s.newTup hT ⟨x', [y'], rfl, r1, y', [], rfl, r2, rfl⟩⟩
theorem itOk_rev {K : PySem.W.Frag} {a : Addr} {es : List D} {vs : List V} {ds : List D} {n : Nat} (hn : n = es.length) : ItOk K B (Itv K a n) es.reverse (.ref a :: vs) (.lst false es :: ds) := by
  subst hn
  have look : ∀ {F H σ τ}, StT K B F H σ τ (.ref a :: vs) (.lst false es :: ds) → ∃ us, SqL K H a us ∧ RepL K B.ca F es us := fun {F H σ τ} s => by
    obtain ⟨a', us, e, h1, h2⟩ := s.topF rfl
    cases e
    exact ⟨us, sqOf (s.same _ _ h1), h2⟩
  refine ⟨fun i F H σ τ s hi => ?_, fun F H σ τ s => ?_, fun i d F H σ τ x H' us' es' hl hd s y => ?_⟩
  · obtain ⟨us, h1, h2⟩ := look s
    rw [List.length_reverse] at hi
    have i2 : es.length - 1 - i < us.length := by rw [h2.length]; omega
    exact ⟨hi, us, us[es.length - 1 - i], h1, by simp [i2]⟩
  · show es.length ≤ es.reverse.length
    rw [List.length_reverse]; exact Nat.le_refl _
  · obtain ⟨rfl, y⟩ := y
    obtain ⟨us, h1, h2⟩ := look (s.pops hl)
    have hi : i < es.length := by
      have := (List.getElem?_eq_some_iff.mp hd).1
      rwa [List.length_reverse] at this
    rw [List.getElem?_reverse hi] at hd
    obtain ⟨v, e, r⟩ := h2.get hd
    rw [y us h1] at e; cases e
    exact ⟨F, s.push r⟩
def rangeD (lo : Int) (n : Nat) : List D := (List.range n).map fun k => D.int (lo + (k : Nat))
theorem itOk_range {K : PySem.W.Frag} {lo : Int} {n : Nat} {vs : List V} {ds : List D} : ItOk K B (Itr lo n) (rangeD lo n) vs ds := by
  refine ⟨fun i F H σ τ s hi => ?_, fun F H σ τ s => ?_, fun i d F H σ τ x H' us' es' hl hd s y => ?_⟩
  · show i < n; simpa [rangeD] using hi
  · show n ≤ (rangeD lo n).length; simp [rangeD]
  · obtain ⟨rfl, rfl⟩ := y
    have hi : i < n := by simpa [rangeD] using (List.getElem?_eq_some_iff.mp hd).1
    have e : d = .int (lo + (i : Nat)) := by
      unfold rangeD at hd
      rw [List.getElem?_map, List.getElem?_range hi] at hd
      exact (Option.some.inj hd).symm
    subst e
    exact ⟨F, s.push (d := .int _) rfl⟩
def strD (s : Str) : List D := s.cps.toList.map fun c => D.str ⟨#[c]⟩
theorem itOk_str {K : PySem.W.Frag} {z : Str} {vs : List V} {ds : List D} : ItOk K B (Its z) (strD z) vs ds := by
  refine ⟨fun i F H σ τ s hi => ?_, fun F H σ τ s => ?_, fun i d F H σ τ x H' us' es' hl hd s y => ?_⟩
  · show i < z.cps.size; simpa [strD] using hi
  · show z.cps.size ≤ (strD z).length; simp [strD]
  · obtain ⟨rfl, c, hc, rfl⟩ := y
    have e : d = .str ⟨#[c]⟩ := by
      unfold strD at hd
      rw [List.getElem?_map, Array.getElem?_toList, hc] at hd
      exact (Option.some.inj hd).symm
    subst e
    exact ⟨F, s.push (d := .str _) rfl⟩

theorem i_list {tg l : Expr} {m : ME} (hl : PE X l (rdE X.K B W m)) : PI X tg l (rdI X.K B W (iL m)) := PI.imp (pi_list hl) fun σ H R ⟨F, τ, vs, ds, s, p⟩ => by
  refine ⟨F, τ, vs, ds, s, post_imp (post_bind p) (fun d τ1 q v F1 H1 s1 => ?_) fun _ _ q => q⟩
  obtain ⟨F2, s2⟩ := s1.freeze1
  have hz := freeze_fz d
  cases e : freeze d with
  | lst m es =>
    cases m with
    | true => rw [e] at hz; cases hz
    | false =>
      simp only [e] at q
      rw [e] at s2
      obtain ⟨a, us, ev, h1, h2⟩ := s2.topF rfl
      subst ev
      exact ⟨a, rfl, ⟨us, sqOf (s2.same _ _ h1)⟩, q (Itl X.K a) [.ref a] [.lst false es] F2 H1 rfl s2 itOk_list⟩
  | _ => simp only [e] at q; exact False.elim q
def iT (m : ME) : MA := fun τ => (m τ).bind fun d τ1 => match d with
  | .tup es => .ok es τ1
  | _ => .bad
theorem i_tup {tg l : Expr} {m : ME} (hl : PE X l (rdE X.K B W m)) : PI X tg l (rdI X.K B W (iT m)) := PI.imp (pi_tup hl) fun σ H R ⟨F, τ, vs, ds, s, p⟩ => by
  refine ⟨F, τ, vs, ds, s, post_imp (post_bind p) (fun d τ1 q v F1 H1 s1 => ?_) fun _ _ q => q⟩
  cases d with
  | tup es =>
    obtain ⟨a, us, ev, h1, h2⟩ := s1.topF rfl
    subst ev
    exact ⟨a, rfl, ⟨us, sqT_same s1.same h1⟩, q (Itt X.K a) [.ref a] [.tup es] F1 H1 rfl s1 itOk_tup⟩
  | _ => exact False.elim q
def iS (m : ME) : MA := fun τ => (m τ).bind fun d τ1 => match d with
  | .str z => .ok (strD z) τ1
  | _ => .bad
theorem i_str {tg l : Expr} {m : ME} (hl : PE X l (rdE X.K B W m)) : PI X tg l (rdI X.K B W (iS m)) := PI.imp (pi_str hl) fun σ H R ⟨F, τ, vs, ds, s, p⟩ => by
  refine ⟨F, τ, vs, ds, s, post_imp (post_bind p) (fun d τ1 q v F1 H1 s1 => ?_) fun _ _ q => q⟩
  cases d with
  | str z => exact ⟨z, s1.topF rfl, q (Its z) [] [] F1 H1 rfl s1.pop itOk_str⟩
  | _ => exact False.elim q
def iR1 (m : MA) : MA := fun τ => (m τ).bind fun ds τ1 => match ds with
  | [.int j] => if -(2 ^ 62) ≤ j ∧ j < 2 ^ 62 then .ok (rangeD 0 j.toNat) τ1 else .bad
  | _ => .bad
def iR2 (m : MA) : MA := fun τ => (m τ).bind fun ds τ1 => match ds with
  | [.int i, .int j] => if -(2 ^ 62) ≤ i ∧ i < 2 ^ 62 ∧ -(2 ^ 62) ≤ j ∧ j < 2 ^ 62 then .ok (rangeD i (j - i).toNat) τ1 else .bad
  | _ => .bad
theorem i_range1 {tg a : Expr} {p pos : Pos} {m : MA} (hg : Gl X "range") (hm : X.mg "range" = none) (ha : PA X [a] (rdA X.K B W m)) (hs : starEach [a] X.env = [(false, eval a X.env)] := by rfl) : PI X tg (.Call (.Name "range" p) [a] [] pos) (rdI X.K B W (iR1 m)) := PI.imp (pi_range1 hg hm ha hs) fun σ H R ⟨F, τ, vs, ds, s, p⟩ => by
  refine ⟨F, τ, vs, ds, s, post_imp (post_bind p) (fun es τ1 q us F1 H1 hl s1 => ?_) fun _ _ q => q⟩
  have g := s1.pops hl
  match es, q, s1, hl with
  | [.int j], q, s1, hl =>
    match us, s1, hl with
    | [v], s1, _ =>
      cases (show v = .int j from s1.topF rfl)
      by_cases z : -(2 ^ 62) ≤ j ∧ j < 2 ^ 62
      · simp only [z, and_self, if_true] at q
        exact ⟨j, rfl, z.1, z.2, q (Itr 0 j.toNat) [] [] F1 H1 rfl g itOk_range⟩
      · simp only [z, if_false] at q; exact False.elim q
theorem i_range2 {tg a b : Expr} {p pos : Pos} {m : MA} (hg : Gl X "range") (hm : X.mg "range" = none) (ha : PA X [a, b] (rdA X.K B W m)) (hs : starEach [a, b] X.env = [(false, eval a X.env), (false, eval b X.env)] := by rfl) (hs2 : starEach [b] X.env = [(false, eval b X.env)] := by rfl) :
    PI X tg (.Call (.Name "range" p) [a, b] [] pos) (rdI X.K B W (iR2 m)) := PI.imp (pi_range2 hg hm ha hs hs2) fun σ H R ⟨F, τ, vs, ds, s, p⟩ => by
  refine ⟨F, τ, vs, ds, s, post_imp (post_bind p) (fun es τ1 q us F1 H1 hl s1 => ?_) fun _ _ q => q⟩
  have g := s1.pops hl
  match es, q, s1, hl with
  | [.int i, .int j], q, s1, hl =>
    match us, s1, hl with
    | [u, v], s1, _ =>
      cases (show u = .int i from s1.topF rfl)
      cases (show v = .int j from s1.pop.topF rfl)
      by_cases z : -(2 ^ 62) ≤ i ∧ i < 2 ^ 62 ∧ -(2 ^ 62) ≤ j ∧ j < 2 ^ 62
      · simp only [z, and_self, if_true] at q
        exact ⟨i, j, rfl, z, q (Itr i (j - i).toNat) [] [] F1 H1 rfl g itOk_range⟩
      · simp only [z, if_false] at q; exact False.elim q
def iE (m : MA) : MA := fun τ => (m τ).bind fun ds τ1 => match freezeL ds with
  | [.lst _ es] => .ok (enumD 0 es) τ1
  | _ => .bad
def iV (m : MA) : MA := fun τ => (m τ).bind fun ds τ1 => match freezeL ds with
  | [.lst _ es] => .ok es.reverse τ1
  | _ => .bad
def iZ (m : MA) : MA := fun τ => (m τ).bind fun ds τ1 => match freezeL ds with
  | [.lst _ es, .lst _ fs] => .ok (zipD es fs) τ1
  | _ => .bad
theorem StT.pushL {K : PySem.W.Frag} {F H : Hp} {σ : L2.St} {τ : Env} {vs us : List V} {ds es : List D} (s : StT K B F H σ τ vs ds) (h : RepL K B.ca F es us) : StT K B F H σ τ (us ++ vs) (es ++ ds) := by
  obtain ⟨f1, f2, A, b, w, io⟩ := s
  have b2 := (h.os (H := H)).append b
  have e3 : (fun b => 0 + f2 b) = f2 := funext fun b => by omega
  rw [e3] at b2
  exact ⟨f1, f2, A, b2, w, io⟩
theorem i_enum {e : Expr} {p pos tpos : Pos} {elts : List Expr} {kk : Nat} {m : MA} (hg : Gl X "enumerate") (hm : X.mg "enumerate" = none) (ha : PA X [e] (rdA X.K B W m)) (hs : starEach [e] X.env = [(false, eval e X.env)] := by rfl) :
    PI X (.Tuple elts kk tpos) (.Call (.Name "enumerate" p) [e] [] pos) (rdI X.K B W (iE m)) := PI.imp (pi_enum hg hm ha hs) fun σ H R ⟨F, τ, vs, ds, s, p⟩ => by
  refine ⟨F, τ, vs, ds, s, post_imp (post_bind p) (fun es τ1 q us F1 H1 hl s1 => ?_) fun _ _ q => q⟩
  obtain ⟨F2, sm, rl, s2⟩ := s1.freeze hl
  match h : freezeL es, q, rl with
  | [.lst b xs], q, rl =>
    obtain ⟨v, r, rfl, r1, r2⟩ := rl
    cases (show r = [] from r2)
    cases b with
    | true => exact r1.elim
    | false =>
      have s3 := s2.push r1
      obtain ⟨a, ws, rfl, h1, h2⟩ := r1
      exact ⟨a, ws, rfl, sqOf (s2.same _ _ h1), q (Ite X.K a) [.ref a] [.lst false xs] F2 H1 rfl s3 itOk_enum⟩
theorem i_rev {tg e : Expr} {p pos : Pos} {m : MA} (hg : Gl X "reversed") (hm : X.mg "reversed" = none) (ha : PA X [e] (rdA X.K B W m)) (hs : starEach [e] X.env = [(false, eval e X.env)] := by rfl) :
    PI X tg (.Call (.Name "reversed" p) [e] [] pos) (rdI X.K B W (iV m)) := PI.imp (pi_reversed hg hm ha hs) fun σ H R ⟨F, τ, vs, ds, s, p⟩ => by
  refine ⟨F, τ, vs, ds, s, post_imp (post_bind p) (fun es τ1 q us F1 H1 hl s1 => ?_) fun _ _ q => q⟩
  obtain ⟨F2, sm, rl, s2⟩ := s1.freeze hl
  match h : freezeL es, q, rl with
  | [.lst b xs], q, rl =>
    obtain ⟨v, r, rfl, r1, r2⟩ := rl
    cases (show r = [] from r2)
    cases b with
    | true => exact r1.elim
    | false =>
      have s3 := s2.push r1
      obtain ⟨a, ws, rfl, h1, h2⟩ := r1
      exact ⟨a, ws, rfl, sqOf (s2.same _ _ h1), q (Itv X.K a ws.length) [.ref a] [.lst false xs] F2 H1 rfl s3 (itOk_rev h2.length)⟩
theorem i_zip {e e2 : Expr} {p pos tpos : Pos} {elts : List Expr} {kk : Nat} {m : MA} (hg : Gl X "zip") (hm : X.mg "zip" = none) (ha : PA X [e, e2] (rdA X.K B W m))
    (hs : starEach [e, e2] X.env = (false, eval e X.env) :: starEach [e2] X.env := by rfl) (hpl : (backTo pos (starEach [e2] X.env)).any (·.1) = false := by rfl) :
    PI X (.Tuple elts kk tpos) (.Call (.Name "zip" p) [e, e2] [] pos) (rdI X.K B W (iZ m)) := PI.imp (pi_zip hg hm ha hs hpl) fun σ H R ⟨F, τ, vs, ds, s, p⟩ => by
  refine ⟨F, τ, vs, ds, s, post_imp (post_bind p) (fun es τ1 q us F1 H1 hl s1 => ?_) fun _ _ q => q⟩
  obtain ⟨F2, sm, rl, s2⟩ := s1.freeze hl
  match h : freezeL es, q, rl with
  | [.lst b xs, .lst b2 ys], q, rl =>
    obtain ⟨v, r, rfl, r1, v2, r', rfl, r2, r3⟩ := rl
    cases (show r' = [] from r3)
    cases b with
    | true => exact r1.elim
    | false =>
      cases b2 with
      | true => exact r2.elim
      | false =>
        have s3 := (s2.push r1).push r2
        obtain ⟨a, ws, rfl, h1, h2⟩ := r1
        obtain ⟨a', ws', rfl, h1', h2'⟩ := r2
        exact ⟨a, a', ws, ws', rfl, sqOf (s2.same _ _ h1), sqOf (s2.same _ _ h1'), q (Itz X.K a a') [.ref a', .ref a] [.lst false ys, .lst false xs] F2 H1 rfl s3 itOk_zip⟩
end
end Bn

/-! Loops, comprehensions; a def by its function. -/
namespace Bn
open PySem PySem.Spec PyProof.Rows L2

/-! ### for, while -/
def forL (g : D → Env → Option Env) (b : MS) : List D → Env → SR
  | [], τ => .nx τ
  | d :: r, τ => match g d τ with
    | none => .bad
    | some τ1 => match b τ1 with
      | .nx τ2 => forL g b r τ2
      | .ct τ2 => forL g b r τ2
      | .bk τ2 => .nx τ2
      | .rt d τ2 => .rt d τ2
      | .ex c τ2 => .ex c τ2
      | .bad => .bad
def sFor (m : MA) (g : D → Env → Option Env) (b : MS) : MS := fun τ => (m τ).s fun items τ1 => forL g b items τ1
def whileM (c : MT) (b : MS) : Nat → Env → SR
  | 0, _ => .bad
  | n + 1, τ => match c τ with
    | .ok true τ1 => (match b τ1 with
      | .nx τ2 => whileM c b n τ2
      | .ct τ2 => whileM c b n τ2
      | .bk τ2 => .nx τ2
      | .rt d τ2 => .rt d τ2
      | .ex e τ2 => .ex e τ2
      | .bad => .bad)
    | .ok false τ1 => .nx τ1
    | .ex e τ1 => .ex e τ1
    | .bad => .bad
def sWhile (fuel : Env → Nat) (c : MT) (b : MS) : MS := fun τ => whileM c b (fuel τ) τ
section
variable {X : Cx} {B : Bx} {W : WX}
theorem postS_pops {K : PySem.W.Frag} {us vs : List V} {es ds : List D} {D' : Ends} {r : SR} (hl : us.length = es.length) (h : postS K B W vs ds D' r) : postS K B W (us ++ vs) (es ++ ds) D' r := by
  cases r with
  | nx τ => exact fun σ F H s => h σ F H (s.pops hl)
  | rt d τ => exact fun v σ F H s => h v σ F H (StT.pops (us := us) (es := es) (by
      obtain ⟨f1, f2, A, ⟨v', r', g1, g2, e, b1, b2, q⟩, w, io⟩ := s
      cases e
      obtain ⟨g3, g4, c1, c2, q2⟩ := b2.split' hl
      exact ⟨f1, f2, A, c1.append (us := v :: vs) (es := d :: ds) (g := fun b => g1 b + g4 b) ⟨v, vs, g1, g4, rfl, b1, c2, fun _ => rfl⟩ |> fun z => by
        have e : (fun b => g3 b + (g1 b + g4 b)) = f2 := funext fun b => by rw [q, q2]; omega
        rw [e] at z; exact z, w, io⟩) hl)
  | bk τ => exact fun σ F H s => h σ F H (s.pops hl)
  | ct τ => exact fun σ F H s => h σ F H (s.pops hl)
  | ex c τ => exact fun σ F H s => h σ F H (s.pops hl)
  | bad => exact h
theorem for_core {J : It} {items : List D} {tv : List V} {td : List D} {g : D → Env → Option Env} {sl : List Nat} {b : MS} {K : PySem.W.Frag} {σ : L2.St} {H F : Hp} {τ : Env} {D' : Ends} (ok : ItOk K B J items tv td) (s : StT K B F H σ τ tv td) (p : postS K B W tv td D' (forL g b items τ)) :
    ∃ W' : Nat → Nat → L2.St → Hp → Prop, (∃ m, W' 0 m σ H) ∧ ∀ i m σ H, W' i m σ H → (J.stop i H ∧ D'.nx σ H) ∨ (J.go i H ∧ ∃ N : L2.St → Hp → Prop, (∀ σ' H', N σ' H' → ∃ m', m' < m ∧ W' (i + 1) m' σ' H') ∧
      ∀ x H', J.yld i H x H' → rdG K B sl g x σ H' fun σ2 H2 => rdS K B W b { D' with nx := N, ct := N, bk := D'.nx } σ2 H2) := by
  refine ⟨fun i m σ H => m = items.length - i ∧ i ≤ items.length ∧ ∃ F τ, StT K B F H σ τ tv td ∧ postS K B W tv td D' (forL g b (items.drop i) τ), ⟨_, rfl, Nat.zero_le _, F, τ, s, p⟩, ?_⟩
  rintro i m σ H ⟨rfl, hi, F, τ, s, p⟩
  by_cases h : i < items.length
  · refine .inr ⟨ok.go i F H σ τ s h, fun σ' H' => ∃ F τ, StT K B F H' σ' τ tv td ∧ postS K B W tv td D' (forL g b (items.drop (i + 1)) τ), fun σ' H' ⟨F', τ', s', p'⟩ => ⟨items.length - (i + 1), by omega, rfl, h, F', τ', s', p'⟩, fun x H' y => ?_⟩
    have e : items[i]? = some items[i] := by simp [h]
    obtain ⟨F', s'⟩ := ok.y i _ F H σ τ x H' [] [] rfl e s y
    rw [List.drop_eq_getElem_cons h] at p
    unfold forL at p
    cases eg : g items[i] τ with
    | none => rw [eg] at p; exact p.elim
    | some τ1 =>
      rw [eg] at p
      refine ⟨F', τ, tv, td, _, s', τ1, eg, fun σ2 F2 H2 s2 _ _ => ⟨F2, τ1, tv, td, s2, ?_⟩⟩
      cases eb : b τ1 with
      | nx τ2 => simp only [eb] at p; exact fun σ3 F3 H3 s3 => ⟨F3, τ2, s3, p⟩
      | ct τ2 => simp only [eb] at p; exact fun σ3 F3 H3 s3 => ⟨F3, τ2, s3, p⟩
      | bk τ2 => simp only [eb] at p; exact p
      | rt d τ2 => simp only [eb] at p; exact p
      | ex c τ2 => simp only [eb] at p; exact p
      | bad => simp only [eb] at p; exact p
  · have e : i = items.length := by omega
    subst e
    rw [List.drop_length] at p
    exact .inl ⟨ok.st F H σ τ s, p σ F H s⟩
theorem s_for {tg it : Expr} {body : List Stmt} {pos : Pos} {m : MA} {sl : List Nat} {g : D → Env → Option Env} {b : MS} (c : XOk X W) (hi : PI X tg it (rdI X.K B W m)) (hg : PG X tg (rdG X.K B sl g)) (hb : PSs X body (rdS X.K B W b))
    (hs : ∀ x, foldedSetIterable it X.env x = pure x := by intro _; rfl) : PS X (.For tg it body [] pos) (rdS X.K B W (sFor m g b)) := PS.imp (ps_for c.hp c.calm hi hg hb hs) fun D' σ H ⟨F, τ, vs, ds, s, p⟩ =>
  ⟨F, τ, vs, ds, s, post_imp (post_s (σ := σ) p) (fun items τ1 q J us es F' H' hl s' ok => for_core ok s' (postS_pops hl q)) fun _ _ q => q⟩
theorem s_while {c : Expr} {body : List Stmt} {pos : Pos} {t : MT} {b : MS} (k : XOk X W) (fuel : Env → Nat) (hc : PT X c (rdT X.K B W t)) (hb : PSs X body (rdS X.K B W b)) : PS X (.While c body [] pos) (rdS X.K B W (sWhile fuel t b)) := PS.imp (ps_while k.hp hc hb) fun D' σ H ⟨F, τ, vs, ds, s, p⟩ => by
  refine ⟨fun m σ H => ∃ F τ, StT X.K B F H σ τ vs ds ∧ postS X.K B W vs ds D' (whileM t b m τ), ⟨_, F, τ, s, p⟩, ?_⟩
  rintro m σ H ⟨F, τ, s, p⟩
  cases m with
  | zero => exact False.elim p
  | succ m =>
    unfold whileM at p
    refine ⟨F, τ, vs, ds, s, ?_⟩
    cases et : t τ with
    | bad => rw [et] at p; exact p
    | ex e τ1 => rw [et] at p; exact fun F1 H1 s1 => p σ F1 H1 s1
    | ok x τ1 =>
      rw [et] at p
      intro F1 H1 s1
      cases x with
      | false => exact p σ F1 H1 s1
      | true =>
        refine ⟨fun σ' H' => ∃ F τ, StT X.K B F H' σ' τ vs ds ∧ postS X.K B W vs ds D' (whileM t b m τ), fun σ' H' ⟨F', τ', s', p'⟩ => ⟨m, Nat.lt_succ_self m, F', τ', s', p'⟩, F1, τ1, vs, ds, s1, ?_⟩
        cases eb : b τ1 with
        | nx τ2 => simp only [eb] at p; exact fun σ3 F3 H3 s3 => ⟨F3, τ2, s3, p⟩
        | ct τ2 => simp only [eb] at p; exact fun σ3 F3 H3 s3 => ⟨F3, τ2, s3, p⟩
        | bk τ2 => simp only [eb] at p; exact p
        | rt d τ2 => simp only [eb] at p; exact p
        | ex c τ2 => simp only [eb] at p; exact p
        | bad => simp only [eb] at p; exact p

/-! ### list comprehensions -/
def wipeE (τ : Env) : List Nat → Env
  | [] => τ
  | v :: vs => (wipeE τ vs).set v none
def lcL (own : List Nat) (g : D → Env → Option Env) (t : MT) (m : ME) : List D → List D → Env → R (List D)
  | [], acc, τ => .ok acc τ
  | d :: r, acc, τ => match g d τ with
    | none => .bad
    | some τ1 => (t τ1).bind fun b τ2 => if b = true then (m τ2).bind fun e τ3 => if acc.length < 1000000 then lcL own g t m r (acc ++ [e]) (wipeE τ3 own) else .bad else lcL own g t m r acc (wipeE τ2 own)
def eLc (own : List Nat) (it : MA) (g : D → Env → Option Env) (t : MT) (m : ME) : ME := fun τ => (it τ).bind fun items τ1 => match lcL own g t m items [] (wipeE τ1 own) with
  | .ok acc τ2 => .ok (.lst true acc) τ2
  | _ => .bad
theorem Sl.reset {K : PySem.W.Frag} {ca : Str → Addr} {F H : Hp} : ∀ {τ : Env} {σ σ' : L2.St} {f : Ct}, Sl K ca F H τ σ f → σ'.length = σ.length → (∀ (j : Nat) (d : D), τ[j]? = some (some d) → σ'[j]? = σ[j]?) → Sl K ca F H τ σ' f
  | [], σ, σ', f, h, hl, k => by
    obtain ⟨rfl, h2⟩ := h
    exact ⟨List.eq_nil_of_length_eq_zero hl, h2⟩
  | none :: τ, _, σ', f, ⟨x, r, h1, h2⟩, hl, k => by
    subst h1
    cases σ' with
    | nil => cases hl
    | cons y r' => exact ⟨y, r', rfl, h2.reset (by simpa using hl) fun j d hj => by simpa using k (j + 1) d (by simpa using hj)⟩
  | some d :: τ, _, σ', f, ⟨v, r, f1, f2, h1, h2, h3, h4⟩, hl, k => by
    subst h1
    cases σ' with
    | nil => cases hl
    | cons y r' =>
      have e : some y = some (some v) := by simpa using k 0 d (by simp)
      cases e
      exact ⟨v, r', f1, f2, rfl, h2, h3.reset (by simpa using hl) fun j d hj => by simpa using k (j + 1) d (by simpa using hj), h4⟩
theorem wipe_out {σ : L2.St} {j : Nat} : ∀ {own : List Nat}, j ∉ own → (wipe σ own)[j]? = σ[j]?
  | [], _ => rfl
  | v :: vs, h => by
    unfold wipe
    rw [List.getElem?_set_ne (fun e => h (by simp [e]))]
    exact wipe_out fun z => h (List.mem_cons_of_mem _ z)
theorem wipeE_in {τ : Env} {j : Nat} {d : D} : ∀ {own : List Nat}, (wipeE τ own)[j]? = some (some d) → j ∉ own
  | [], _ => by simp
  | v :: vs, h => by
    unfold wipeE at h
    by_cases e : v = j
    · subst e
      by_cases hv : v < (wipeE τ vs).length
      · rw [List.getElem?_set_self hv] at h; cases h
      · rw [List.getElem?_eq_none (by simpa using hv)] at h; cases h
    · rw [List.getElem?_set_ne e] at h
      simp only [List.mem_cons, not_or]
      exact ⟨fun z => e z.symm, wipeE_in h⟩
theorem wipe_in {σ : L2.St} {j : Nat} : ∀ {own : List Nat}, j ∈ own → j < σ.length → (wipe σ own)[j]? = some none
  | [], h, _ => by simp at h
  | v :: vs, h, hl => by
    unfold wipe
    by_cases e : v = j
    · subst e; rw [List.getElem?_set_self (by rw [wipe_length]; exact hl)]
    · rw [List.getElem?_set_ne e]
      exact wipe_in (by rcases List.mem_cons.mp h with z | z; exact absurd z.symm e; exact z) hl
theorem wipe_eq {a b : L2.St} {own : List Nat} (hl : a.length = b.length) (h : ∀ j, j ∉ own → a[j]? = b[j]?) : wipe a own = wipe b own := by
  apply List.ext_getElem?
  intro j
  by_cases e : j ∈ own
  · by_cases hj : j < a.length
    · rw [wipe_in e hj, wipe_in e (by omega)]
    · rw [List.getElem?_eq_none (by rw [wipe_length]; omega), List.getElem?_eq_none (by rw [wipe_length]; omega)]
  · rw [wipe_out e, wipe_out e]; exact h j e
theorem wipe_wipe {σ : L2.St} {own : List Nat} : wipe (wipe σ own) own = wipe σ own := wipe_eq (wipe_length σ own) fun j h => wipe_out h
theorem StT.reset {K : PySem.W.Frag} {F H : Hp} {σ σ' : L2.St} {τ : Env} {vs : List V} {ds : List D} (s : StT K B F H σ τ vs ds) (hl : σ'.length = σ.length) (k : ∀ (j : Nat) (d : D), τ[j]? = some (some d) → σ'[j]? = σ[j]?) (io : IoOk B σ') : StT K B F H σ' τ vs ds := by
  obtain ⟨f1, f2, a, b, w, _⟩ := s
  exact ⟨f1, f2, a.reset hl k, b, w, io⟩
theorem StT.wipeE {K : PySem.W.Frag} {F H : Hp} {σ : L2.St} {τ : Env} {vs : List V} {ds : List D} (s : StT K B F H σ τ vs ds) : ∀ own : List Nat, StT K B F H σ (Bn.wipeE τ own) vs ds
  | [] => s
  | _ :: own => (s.wipeE own).forget
def ioFreeL (B : Bx) (own : List Nat) : Prop := ∀ p ∈ B.io, p.1 ∉ own
theorem StT.wiped {K : PySem.W.Frag} {F H : Hp} {σ : L2.St} {τ : Env} {vs : List V} {ds : List D} {own : List Nat} (s : StT K B F H σ τ vs ds) (hio : ioFreeL B own) : StT K B F H (wipe σ own) (Bn.wipeE τ own) vs ds := by
  have io : IoOk B σ := by obtain ⟨_, _, _, _, _, io⟩ := s; exact io
  exact (s.wipeE own).reset (wipe_length _ _) (fun j d h => wipe_out (wipeE_in h)) fun p hp => by rw [wipe_out (hio p hp)]; exact io p hp
theorem StT.unwiped {K : PySem.W.Frag} {F H : Hp} {σ : L2.St} {τ : Env} {vs : List V} {ds : List D} {own : List Nat} (s : StT K B F H (wipe σ own) (Bn.wipeE τ own) vs ds) (hio : ioFreeL B own) : StT K B F H σ (Bn.wipeE τ own) vs ds := by
  have io : IoOk B (wipe σ own) := by obtain ⟨_, _, _, _, _, io⟩ := s; exact io
  exact s.reset (wipe_length _ _).symm (fun j d h => (wipe_out (wipeE_in h)).symm) fun p hp => by rw [← wipe_out (hio p hp)]; exact io p hp
theorem wipeE_wipeE {τ : Env} {own : List Nat} : ∀ own2 : List Nat, (∀ j ∈ own2, j ∈ own) → Bn.wipeE (Bn.wipeE τ own) own2 = Bn.wipeE τ own
  | [], _ => rfl
  | v :: vs, h => by
    show (Bn.wipeE (Bn.wipeE τ own) vs).set v none = Bn.wipeE τ own
    rw [wipeE_wipeE vs fun j hj => h j (List.mem_cons_of_mem _ hj)]
    apply List.ext_getElem?
    intro j
    show ((Bn.wipeE τ own).set v none)[j]? = (Bn.wipeE τ own)[j]?
    rw [List.getElem?_set]
    split
    · rename_i e
      subst e
      split
      · cases e2 : (Bn.wipeE τ own)[v]? with
        | none => rw [List.getElem?_eq_none_iff] at e2; omega
        | some x =>
          cases x with
          | none => rfl
          | some d => exact absurd (h v List.mem_cons_self) (wipeE_in e2)
      · rename_i hl; rw [List.getElem?_eq_none (by omega)]
    · rfl
theorem lc_core' {J : It} {items : List D} {tv : List V} {td : List D} {g : D → Env → Option Env} {sl own : List Nat} {t : MT} {m : ME} {K : PySem.W.Frag} {σ : L2.St} {H F : Hp} {τ τ2 : Env} {acc2 : List D} {Q : VK} (ok : ItOk K B J items tv td) (hsl : ∀ j ∈ sl, j ∈ own) (hio : ioFreeL B own) (s : StT K B F H σ τ tv td)
    (e : lcL own g t m items [] (Bn.wipeE τ own) = .ok acc2 τ2) (k : ∀ v F H, StT K B F H σ τ2 (v :: tv) (.lst true acc2 :: td) → Q v H) : ∀ D, H D = none → ∃ W' : Nat → Nat → Hp → Prop, (∃ m, W' 0 m (upd H D (.lst []))) ∧ ∀ i n H, W' i n H →
      (J.stop i H ∧ Q (.ref D) H) ∨ (J.go i H ∧ ∃ Nx : Hp → Prop, (∀ H', Nx H' → ∃ m', m' < n ∧ W' (i + 1) m' H') ∧ ∀ x H', J.yld i H x H' → rdG K B sl g x (wipe σ own) H' fun σ2 H2 => wipe σ2 own = wipe σ own ∧ rdT K B W0 t σ2 H2 fun b H3 =>
        if b = true then rdE K B W0 m σ2 H3 fun y H4 => ∃ acc, H4 D = some (.lst acc) ∧ acc.length < sizeLine ∧ Nx (upd H4 D (.lst (acc ++ [y]))) else Nx H3) := by
  intro D hD
  have s0 : StT K B F (upd H D (.lst [])) σ τ (.ref D :: tv) (.lst true [] :: td) := s.newLst (us := []) (es := []) rfl hD
  have s1 := s0.wiped (own := own) hio
  -- the items are walked with the new list on top
  refine ⟨fun i n H => n = items.length - i ∧ i ≤ items.length ∧ ∃ F τ acc, StT K B F H (wipe σ own) (Bn.wipeE τ own) (.ref D :: tv) (.lst true acc :: td) ∧ lcL own g t m (items.drop i) acc (Bn.wipeE τ own) = .ok acc2 τ2, ⟨_, rfl, Nat.zero_le _, F, τ, [], s1, e⟩, ?_⟩
  rintro i n H ⟨rfl, hi, F, τ, acc, s, e⟩
  by_cases h : i < items.length
  · refine .inr ⟨ok.go i F H _ _ s.pop h, fun H' => ∃ F τ acc, StT K B F H' (wipe σ own) (Bn.wipeE τ own) (.ref D :: tv) (.lst true acc :: td) ∧ lcL own g t m (items.drop (i + 1)) acc (Bn.wipeE τ own) = .ok acc2 τ2,
      fun H' ⟨F', τ', acc', s', e'⟩ => ⟨items.length - (i + 1), by omega, rfl, h, F', τ', acc', s', e'⟩, fun x H' y => ?_⟩
    have ei : items[i]? = some items[i] := by simp [h]
    obtain ⟨F', s'⟩ := ok.y i _ F H _ _ x H' [.ref D] [.lst true acc] rfl ei s y
    rw [List.drop_eq_getElem_cons h] at e
    unfold lcL at e
    cases eg : g items[i] (Bn.wipeE τ own) with
    | none => rw [eg] at e; cases e
    | some τ1 =>
      rw [eg] at e
      refine ⟨F', _, _, _, _, s', τ1, eg, fun σ2 F2 H2 s2 l2 k2 => ⟨?_, F2, τ1, _, _, s2, ?_⟩⟩
      · rw [← wipe_wipe (σ := σ)]
        exact wipe_eq l2 fun j hj => k2 j fun z => hj (hsl j z)
      · have w2 : wipe σ2 own = wipe σ own := by
          rw [← wipe_wipe (σ := σ)]
          exact wipe_eq l2 fun j hj => k2 j fun z => hj (hsl j z)
        cases et : t τ1 with
        | bad => simp only [et, R.bind] at e; cases e
        | ex c τ3 => simp only [et, R.bind] at e; cases e
        | ok b τ3 =>
          simp only [et, R.bind] at e
          intro F3 H3 s3
          cases b with
          | false =>
            simp only [Bool.false_eq_true, if_false] at e
            rw [if_neg Bool.false_ne_true]
            have s4 := s3.wiped (own := own) hio
            rw [w2] at s4
            exact ⟨F3, τ3, acc, s4, e⟩
          | true =>
            simp only [if_true] at e
            rw [if_pos rfl]
            refine ⟨F3, τ3, _, _, s3, ?_⟩
            cases em : m τ3 with
            | bad => simp only [em] at e; cases e
            | ex c τ4 => simp only [em] at e; cases e
            | ok d τ4 =>
              simp only [em] at e
              intro v F4 H4 s4
              by_cases hacc : acc.length < 1000000
              · rw [if_pos hacc] at e
                obtain ⟨ff, q⟩ := s4.pop.top
                obtain ⟨a', vs', g', ea, hx, hg, hq⟩ := q
                cases ea
                refine ⟨vs', hx, ?_, F4, τ4, acc ++ [d], ?_, e⟩
                · rw [hg.length, sizeLine_eq]; omega
                · have s5 := (StT.swap (us := [v]) (es := [d]) s4 rfl).change (us := [v]) (ds := [d]) (ys := vs' ++ [v]) (es2 := acc ++ [d]) rfl hx fun g1 g2 r1 r2 => ⟨_, r1.append r2, fun b => Nat.le_refl _⟩
                  have s6 := s5.wiped (own := own) hio
                  rw [w2] at s6
                  exact s6
              · rw [if_neg hacc] at e; cases e
  · have ei : i = items.length := by omega
    subst ei
    rw [List.drop_length] at e
    cases (show R.ok acc (Bn.wipeE τ own) = R.ok acc2 τ2 from e)
    exact .inl ⟨ok.st F H _ _ s.pop, k _ F H (s.unwiped hio)⟩
end
end Bn

/-! Comprehensions; a def by its function; operators. -/
namespace Bn
open PySem PySem.Spec PyProof.Rows L2
section
variable {X : Cx} {B : Bx} {W : WX}
theorem StT.under {K : PySem.W.Frag} {F H : Hp} {σ : L2.St} {τ : Env} {vs us : List V} {ds es : List D} {v : V} {d : D} (s : StT K B F H σ τ (v :: (us ++ vs)) (d :: (es ++ ds))) (hl : us.length = es.length) : StT K B F H σ τ (v :: vs) (d :: ds) := by
  obtain ⟨f1, f2, A, ⟨v', r', g1, g2, e, b1, b2, q⟩, w, io⟩ := s
  cases e
  obtain ⟨g3, g4, c1, c2, q2⟩ := b2.split' hl
  exact ⟨f1, fun b => g1 b + g4 b, A, ⟨v, vs, g1, g4, rfl, b1, c2, fun _ => rfl⟩, w.less fun b => by show f1 b + (g1 b + g4 b) ≤ f1 b + f2 b; rw [q, q2]; omega, io⟩
theorem PTs.imp {e : List Expr} {t t' : TT} (h : PTs X e t) (k : ∀ σ H Q, t' σ H Q → t σ H Q) : PTs X e t' := ⟨fun p s σ H Q I q => h.run p s σ H Q I (k _ _ _ q)⟩
def tTrue : MT := fun τ => .ok true τ
theorem ts_nil : PTs X [] (rdT X.K B W tTrue) := PTs.imp pts_nil fun σ H Q ⟨F, τ, vs, ds, s, p⟩ => p F H s
theorem ts_one {c : Expr} {t : MT} (h : PT X c (rdT X.K B W t)) : PTs X [c] (rdT X.K B W t) := pts_one h
theorem impLc {own : List Nat} {it : MA} {g : D → Env → Option Env} {sl : List Nat} {t : MT} {m : ME} (hsl : ∀ j ∈ sl, j ∈ own) (hio : ioFreeL B own) (σ : L2.St) (H : Hp) (Q : VK) (h : rdE X.K B W (eLc own it g t m) σ H Q) : tLc (rdI X.K B W it) (rdG X.K B sl g) (rdT X.K B W0 t) (rdE X.K B W0 m) own σ H Q := by
  obtain ⟨F, τ, vs, ds, s, p⟩ := h
  refine ⟨F, τ, vs, ds, s, post_imp (post_bind p) (fun items τ1 q J us es F' H' hl s' ok => ?_) fun _ _ q => q⟩
  cases e : lcL own g t m items [] (Bn.wipeE τ1 own) with
  | ok acc τ2 =>
    simp only [e] at q
    exact lc_core' ok hsl hio s' e fun v F2 H2 s2 => q v F2 H2 (s2.under hl)
  | _ => simp only [e] at q; exact False.elim q
theorem e_lc {elt tg iter : Expr} {ifs : List Expr} {scope : Scope} {own : List (Str × Nat)} {pos : Pos} {it : MA} {g : D → Env → Option Env} {sl : List Nat} {t : MT} {m : ME} (c : XOk X W) (hN : X.N.Nodup) (hi : PI X tg iter (rdI X.K B W it)) (ok : BlkOk X.N X.env.scope scope own)
    (hg : ∀ (s : Shared) (H : Hp) (C : Addr) (cl : List (Str × Addr)) (fp : List Addr), PG (X.blk s H scope (compEnvC scope cl C X.env) fp) tg (rdG X.K B sl g)) (ht : ∀ (s : Shared) (H : Hp) (C : Addr) (cl : List (Str × Addr)) (fp : List Addr), PTs (X.blk s H scope (compEnvC scope cl C X.env) fp) ifs (rdT X.K B W0 t))
    (he : ∀ (s : Shared) (H : Hp) (C : Addr) (cl : List (Str × Addr)) (fp : List Addr), XOk (X.blk s H scope (compEnvC scope cl C X.env) fp) W0 → PE (X.blk s H scope (compEnvC scope cl C X.env) fp) elt (rdE X.K B W0 m))
    (hsl : ∀ j ∈ sl, j ∈ own.map (·.2) := by decide) (hio : ioFreeL B (own.map (·.2)) := by intro p hp; cases hp) (hs : ∀ x, foldedSetIterable iter X.env x = pure x := by intro _; rfl) :
    PE X (.ListComp elt [⟨tg, iter, ifs, 0⟩] scope pos) (rdE X.K B W (eLc (own.map (·.2)) it g t m)) :=
  PE.imp (pe_lc c.calm hN hi ok hg ht (fun s H C cl fp => he s H C cl fp ⟨takes0, PassesOwn.never, c.calm⟩) hs) (impLc hsl hio)
theorem s_setLc {i : Nat} {y : Str} {py : Pos} {elt tg iter : Expr} {ifs : List Expr} {scope : Scope} {own : List (Str × Nat)} {pos spos : Pos} {it : MA} {g : D → Env → Option Env} {sl : List Nat} {t : MT} {m : ME} (c : XOk X W) (hN : X.N.Nodup) (hy : X.N[i]? = some y) (hyl : X.env.scope.names.lookup y = some .local)
    (hsw : swapsWith (.ListComp elt [⟨tg, iter, ifs, 0⟩] scope pos) (some (.Name y py)) spos.line X.env = pure true) (hi : PI X tg iter (rdI X.K B W it)) (ok : BlkOk X.N X.env.scope scope own)
    (hg : ∀ (s : Shared) (H : Hp) (C : Addr) (cl : List (Str × Addr)) (fp : List Addr), PG (X.blk s H scope (compEnvC scope cl C X.env) fp) tg (rdG X.K B sl g)) (ht : ∀ (s : Shared) (H : Hp) (C : Addr) (cl : List (Str × Addr)) (fp : List Addr), PTs (X.blk s H scope (compEnvC scope cl C X.env) fp) ifs (rdT X.K B W0 t))
    (he : ∀ (s : Shared) (H : Hp) (C : Addr) (cl : List (Str × Addr)) (fp : List Addr), XOk (X.blk s H scope (compEnvC scope cl C X.env) fp) W0 → PE (X.blk s H scope (compEnvC scope cl C X.env) fp) elt (rdE X.K B W0 m))
    (hsl : ∀ j ∈ sl, j ∈ own.map (·.2) := by decide) (hio : ioFreeL B (own.map (·.2)) := by intro p hp; cases hp) (hio2 : ioFree B i := by intro p hp; cases hp) (hs : ∀ x, foldedSetIterable iter X.env x = pure x := by intro _; rfl) :
    PS X (.Assign [.Name y py] (.ListComp elt [⟨tg, iter, ifs, 0⟩] scope pos) spos) (rdS X.K B W (sAsg (eLc (own.map (·.2)) it g t m) (gN i))) :=
  PS.imp (ps_setLc c.calm hN hy hyl hsw hi ok hg ht (fun s H C cl fp => he s H C cl fp ⟨takes0, PassesOwn.never, c.calm⟩) hs) fun D σ H ⟨F, τ, vs, ds, s, p⟩ =>
    impLc hsl hio σ H _ ⟨F, τ, vs, ds, s, post_imp (post_s (σ := σ) p) (fun d τ1 q v F1 H1 s1 => q _ F1 H1 (s1.put' hio2)) fun _ _ q => q⟩
end

/-! ### a def -/
def callF (n N : Nat) (b : MS) : List D → CR := fun ds => if ds.length = n then (match b (ds.map some ++ List.replicate (N - n) none) with
  | .nx _ => .ok .non
  | .rt d _ => .ok d
  | .ex c _ => .ex c
  | _ => .bad) else .bad
theorem sl_start {K : PySem.W.Frag} {ca : Str → Addr} {F H : Hp} {k : Nat} : ∀ {ds : List D} {vs : List V}, RepL K ca F ds vs → Sl K ca F H (ds.map some ++ List.replicate k none) (vs.map some ++ List.replicate k none) (fun _ => 0)
  | [], vs, h => by
    cases (show vs = [] from h)
    show Sl K ca F H (List.replicate k none) (List.replicate k none) _
    induction k with
    | zero => exact ⟨rfl, fun _ => rfl⟩
    | succ k ih => exact ⟨none, _, rfl, ih⟩
  | d :: ds, _, ⟨v, r, h1, h2, h3⟩ => by
    subst h1
    exact ⟨v, _, _, _, rfl, h2.o, sl_start h3, fun _ => rfl⟩
section
variable {P : Program} {w : World} {K : PySem.W.Frag} {mg : Str → Option Value} {base : Heap} {ca : Str → Addr}
theorem fn_ok {x qual : Str} {st : Stmt} {f : Addr} {fd : FuncData} {N ps : List Str} {k : Nat} {b : MS} (F : Fun K x qual st f fd) (S : FnScope N ps (defScope st))
    (hb : ∀ (cdv : Value) (A : Around) (outer : List PySem.Env) (s : Shared) (H : Hp) (E : XK) (F0 R : Hp), Room k (A.deeper (envOfC qual (defScope st) s.heap.objs.size f cdv)) →
      XOk (cxOf (L2.CX P w) P w K mg base N qual (defScope st) f cdv A outer s H E) (fun cls d _ H => E cls d H) →
      PSs (cxOf (L2.CX P w) P w K mg base N qual (defScope st) f cdv A outer s H E) (defBody st) (rdS K ⟨ca, F0, R, []⟩ (fun cls d _ H => E cls d H) b)) :
    FnOk P w K mg base (L2.CX P w) (k + 1) f fd ps (spP K ca (callF ps.length N.length b)) := by
  refine F.okX S (fun vs H Q E h => ?_) (fun cdv A outer s H vs Q E hr h => ?_)
  · obtain ⟨F0, ds, _, rl, h⟩ := h
    rw [rl.length]
    by_cases e : ds.length = ps.length
    · exact e
    · unfold callF at h
      rw [if_neg e] at h
      exact h.elim
  · obtain ⟨F0, ds, sm, rl, h⟩ := h
    refine ⟨_, hb cdv A outer s H E F0 H hr ⟨takes_of rfl rfl rfl rfl, passes_of rfl, rfl⟩, ?_⟩
    have hl : ds.length = ps.length := by
      by_cases e : ds.length = ps.length
      · exact e
      · unfold callF at h
        rw [if_neg e] at h
        exact h.elim
    unfold callF at h
    rw [if_pos hl] at h
    have st0 : StT K ⟨ca, F0, H, []⟩ F0 H (L2.start N vs) (ds.map some ++ List.replicate (N.length - ps.length) none) [] [] := by
      refine ⟨fun _ => 0, fun _ => 0, ?_, ⟨rfl, fun _ => rfl⟩, ⟨fun _ => Nat.zero_le _, fun a q => absurd q (Nat.lt_irrefl _), fun a q => absurd q (Nat.lt_irrefl _), sm, Same.refl _, Same.refl _, fun a q => .inl q⟩, fun p hp => by cases hp⟩
      unfold L2.start
      rw [rl.length, hl]
      exact sl_start rl
    refine ⟨F0, _, [], [], st0, ?_⟩
    cases e : b (ds.map some ++ List.replicate (N.length - ps.length) none) with
    | nx τ =>
      rw [e] at h
      intro σ' F' H' s'
      obtain ⟨f1, f2, _, _, w', _⟩ := s'
      exact h .non F' H' (fun _ => 0) w'.s0 w'.sF w'.sR (Rep.o (d := .non) rfl) (fun _ => Nat.zero_le _) (fun a q => absurd q (Nat.lt_irrefl _)) w'.fr
    | rt d τ =>
      rw [e] at h
      intro v σ' F' H' s'
      obtain ⟨f1, f2, _, ⟨_, _, g1, g2, ee, hv, _, q⟩, w', _⟩ := s'
      cases ee
      have le : ∀ a, g1 a ≤ f1 a + f2 a := fun a => by rw [q]; omega
      exact h v F' H' g1 w'.s0 w'.sF w'.sR hv (fun a => Nat.le_trans (le a) (w'.nd a)) (fun a z => ⟨w'.dF a (Nat.lt_of_lt_of_le z (le a)), w'.dR a (Nat.lt_of_lt_of_le z (le a))⟩) w'.fr
    | ex c τ =>
      rw [e] at h
      intro σ' F' H' s'
      obtain ⟨f1, f2, _, _, w', _⟩ := s'
      exact h H' w'.sR
    | bk τ => rw [e] at h; exact h.elim
    | ct τ => rw [e] at h; exact h.elim
    | bad => rw [e] at h; exact h.elim
theorem fo_of {x qual : Str} {st : Stmt} {f : Addr} {fd : FuncData} {ps : List Str} {k : Nat} {g : List D → CR} (F : Fun K x qual st f fd) (hm : mg x = some (.ref f)) (hb : Binds K fd ps []) (h : FnOk P w K mg base (L2.CX P w) k f fd ps (spP K ca g)) : Fo P w K mg base ca k x g := ⟨f, fd, ps, hm, F.kp, hb, h⟩
end
end Bn

/-! Operators and built-in calls by trees. -/
namespace Bn
open PySem PySem.Spec PyProof.Rows L2
section
variable {K : PySem.W.Frag}
def gI (k : Int → Int → D) : D → D → Option D
  | .int i, .int j => some (k i j)
  | _, _ => none
def gIC (C : Int → Int → Prop) [∀ i j, Decidable (C i j)] (k : Int → Int → D) : D → D → Option D
  | .int i, .int j => if C i j then some (k i j) else none
  | _, _ => none
theorem opS_I0 {f : Int → Int → V} {k : Int → Int → D} (h : ∀ ca F i j, Rep K ca F (k i j) (f i j)) : OpS K (rI0 f) (gI k) := by
  intro ca F H x y a b d f1 f2 Q sm hx hy e q
  cases a with
  | int i =>
    cases b with
    | int j =>
      cases (show some (k i j) = some d from e)
      exact ⟨i, j, hx.1, hy.1, q _ _ (h ca F i j).o⟩
    | _ => cases e
  | _ => cases e
theorem opS_IC {C : Int → Int → Prop} [∀ i j, Decidable (C i j)] {f : Int → Int → V} {k : Int → Int → D} (h : ∀ ca F i j, Rep K ca F (k i j) (f i j)) : OpS K (rI C f) (gIC C k) := by
  intro ca F H x y a b d f1 f2 Q sm hx hy e q
  cases a with
  | int i =>
    cases b with
    | int j =>
      by_cases c : C i j
      · have e' : (if C i j then some (k i j) else none) = some d := e
        rw [if_pos c] at e'
        cases e'
        exact ⟨i, j, hx.1, hy.1, c, q _ _ (h ca F i j).o⟩
      · have e' : (if C i j then some (k i j) else none) = some d := e
        rw [if_neg c] at e'; cases e'
    | _ => cases e
  | _ => cases e
def gAdd : D → D → Option D := gI fun i j => .int (i + j)
def gSub : D → D → Option D := gI fun i j => .int (i - j)
instance {i j : Int} : Decidable (CMulW i j) := by unfold CMulW; infer_instance
instance {i j : Int} : Decidable (CDivW i j) := by unfold CDivW; infer_instance
instance {i j : Int} : Decidable (CPow i j) := by unfold CPow; infer_instance
def gMul : D → D → Option D := gIC CMulW fun i j => .int (i * j)
def gDiv : D → D → Option D := gIC CDivW fun i j => .int (i / j)
def gMod : D → D → Option D := gIC (fun _ j => 0 < j) fun i j => .int (i % j)
def gPow : D → D → Option D := gIC CPow fun i j => .int (i ^ j.toNat)
def gLt : D → D → Option D := gI fun i j => .bl (decide (i < j))
def gLe : D → D → Option D := gI fun i j => .bl (decide (i ≤ j))
def gGt : D → D → Option D := gI fun i j => .bl (decide (j < i))
def gGe : D → D → Option D := gI fun i j => .bl (decide (j ≤ i))
theorem sAdd : OpS K (rI0 fun i j => .int (i + j)) gAdd := opS_I0 fun _ _ _ _ => rfl
theorem sSub : OpS K (rI0 fun i j => .int (i - j)) gSub := opS_I0 fun _ _ _ _ => rfl
theorem sMul : OpS K (rI CMulW fun i j => .int (i * j)) gMul := opS_IC fun _ _ _ _ => rfl
theorem sDiv : OpS K (rI CDivW fun i j => .int (i / j)) gDiv := opS_IC fun _ _ _ _ => rfl
theorem sMod : OpS K (rI (fun _ j => 0 < j) fun i j => .int (i % j)) gMod := opS_IC fun _ _ _ _ => rfl
theorem sPow : OpS K (rI CPow fun i j => .int (i ^ j.toNat)) gPow := opS_IC fun _ _ _ _ => rfl
theorem sLt : OpS K (rI0 fun i j => .bl (decide (i < j))) gLt := opS_I0 fun _ _ _ _ => rfl
theorem sLe : OpS K (rI0 fun i j => .bl (decide (i ≤ j))) gLe := opS_I0 fun _ _ _ _ => rfl
theorem sGt : OpS K (rI0 fun i j => .bl (decide (j < i))) gGt := opS_I0 fun _ _ _ _ => rfl
theorem sGe : OpS K (rI0 fun i j => .bl (decide (j ≤ i))) gGe := opS_I0 fun _ _ _ _ => rfl
def gNeg : D → Option D
  | .int i => some (.int (-i))
  | _ => none
theorem sNeg : UnS K (rU fun i => .int (-i)) gNeg := by
  intro ca F H x a d f1 Q sm hx e q
  cases a with
  | int i =>
    cases (show some (D.int (-i)) = some d from e)
    exact ⟨i, hx.1, q (.int (-i)) _ (Rep.o (d := .int (-i)) rfl)⟩
  | _ => cases e
def gAddS : D → D → Option D
  | .str i, .str j => if i.length + j.length ≤ 1000000 then some (.str (i ++ j)) else none
  | _, _ => none
theorem sAddS : OpS K (fun x y H Q => ∃ i j, x = .str i ∧ y = .str j ∧ i.length + j.length ≤ sizeLine ∧ Q (.str (i ++ j)) H) gAddS := by
  intro ca F H x y a b d f1 f2 Q sm hx hy e q
  cases a with
  | str i =>
    cases b with
    | str j =>
      by_cases c : i.length + j.length ≤ 1000000
      · have e' : (if i.length + j.length ≤ 1000000 then some (D.str (i ++ j)) else none) = some d := e
        rw [if_pos c] at e'
        cases e'
        exact ⟨i, j, hx.1, hy.1, le_sizeLine c, q (.str (i ++ j)) _ (Rep.o (d := .str (i ++ j)) rfl)⟩
      · have e' : (if i.length + j.length ≤ 1000000 then some (D.str (i ++ j)) else none) = some d := e
        rw [if_neg c] at e'; cases e'
    | _ => cases e
  | _ => cases e

/-! ### == of data -/
mutual
def toP : D → PyData
  | .bl b => .bool b
  | .int i => .int i
  | .str s => .str s
  | .tup xs => .tuple (toPs xs)
  | .lst _ xs => .list (toPs xs)
  | .cst xs => .list (toPs xs)
  | .non => .none
  | .ty _ => .none
  | .obj _ _ _ _ => .none
def toPs : List D → List PyData
  | [] => []
  | x :: xs => toP x :: toPs xs
end
mutual
def hasP : D → Bool
  | .tup xs => hasPs xs
  | .lst _ xs => hasPs xs
  | .cst xs => hasPs xs
  | .ty _ => false
  | .obj _ _ _ _ => false
  | .bl _ => true | .int _ => true | .str _ => true | .non => true
def hasPs : List D → Bool
  | [] => true
  | x :: xs => hasP x && hasPs xs
end
section
variable {ca : Str → Addr} {F H : Hp}
mutual
theorem Rep.dp (sm : Same F H) : ∀ (d : D) (v : V), hasP d = true → Rep K ca F d v → Dp K H v (toP d)
  | .non, v, _, h => by cases (show v = .non from h); exact .non
  | .bl b, v, _, h => by cases (show v = .bl b from h); exact .bl b
  | .int b, v, _, h => by cases (show v = .int b from h); exact .int b
  | .str b, v, _, h => by cases (show v = .str b from h); exact .str b
  | .tup ds, v, z, h => by
    obtain ⟨a, vs, rfl, h1, h2⟩ := h
    exact .tup (sqT_same sm h1) (RepL.dp sm ds vs z h2)
  | .lst true _, _, _, h => h.elim
  | .lst false ds, v, z, h => by
    obtain ⟨a, vs, rfl, h1, h2⟩ := h
    exact .lst (sqOf (sm _ _ h1)) (RepL.dp sm ds vs z h2)
  | .cst ds, v, z, h => by
    obtain ⟨a, vs, rfl, h1, h2⟩ := h
    exact .lst (sm.seq h1) (RepL.dp sm ds vs z h2)
theorem RepL.dp (sm : Same F H) : ∀ (ds : List D) (vs : List V), hasPs ds = true → RepL K ca F ds vs → DpAll K H vs (toPs ds)
  | [], vs, _, h => by cases (show vs = [] from h); exact .nil
  | d :: ds, _, z, ⟨v, r, h1, h2, h3⟩ => by
    subst h1
    have z' : (hasP d && hasPs ds) = true := z
    rw [Bool.and_eq_true] at z'
    exact .cons (Rep.dp sm d v z'.1 h2) (RepL.dp sm ds r z'.2 h3)
end
mutual
theorem RepO.dp (sm : Same F H) : ∀ (d : D) (v : V) (f : Ct), hasP d = true → RepO K ca F H d v f → Dp K H v (toP d)
  | .lst true ds, v, f, z, h => by
    obtain ⟨a, vs, g, rfl, h1, h2, _⟩ := h
    exact .lst (sqOf h1) (RepOs.dp sm ds vs g z h2)
  | .lst false ds, v, f, z, h => Rep.dp sm _ _ z h.1
  | .non, v, f, z, h => Rep.dp sm _ _ z h.1
  | .bl _, v, f, z, h => Rep.dp sm _ _ z h.1
  | .int _, v, f, z, h => Rep.dp sm _ _ z h.1
  | .str _, v, f, z, h => Rep.dp sm _ _ z h.1
  | .tup _, v, f, z, h => Rep.dp sm _ _ z h.1
  | .cst _, v, f, z, h => Rep.dp sm _ _ z h.1
theorem RepOs.dp (sm : Same F H) : ∀ (ds : List D) (vs : List V) (f : Ct), hasPs ds = true → RepOs K ca F H ds vs f → DpAll K H vs (toPs ds)
  | [], vs, _, _, h => by cases (show vs = [] from h.1); exact .nil
  | d :: ds, _, f, z, ⟨v, r, f1, f2, h1, h2, h3, _⟩ => by
    subst h1
    have z' : (hasP d && hasPs ds) = true := z
    rw [Bool.and_eq_true] at z'
    exact .cons (RepO.dp sm d v f1 z'.1 h2) (RepOs.dp sm ds r f2 z'.2 h3)
end
end
def okP (d : D) : Bool := hasP d && SeqAt.shaped (toP d)
def eqP (a b : D) : Bool := PyData.eqv (toP a) (toP b)
def gEq (a b : D) : Option D := if okP a = true ∧ okP b = true then some (.bl (eqP a b)) else none
def gNe (a b : D) : Option D := if okP a = true ∧ okP b = true then some (.bl (!eqP a b)) else none
theorem sEq : OpS K (rEqD K) gEq := by
  intro ca F H x y a b d f1 f2 Q sm hx hy e q
  unfold gEq at e
  by_cases c : okP a = true ∧ okP b = true
  · rw [if_pos c] at e
    cases e
    have c1 := c.1
    have c2 := c.2
    unfold okP at c1 c2
    rw [Bool.and_eq_true] at c1 c2
    exact ⟨_, _, RepO.dp sm a x f1 c1.1 hx, RepO.dp sm b y f2 c2.1 hy, c1.2, c2.2, q (.bl _) _ (Rep.o (d := .bl _) rfl)⟩
  · rw [if_neg c] at e; cases e
theorem sNe : OpS K (rNeD K) gNe := by
  intro ca F H x y a b d f1 f2 Q sm hx hy e q
  unfold gNe at e
  by_cases c : okP a = true ∧ okP b = true
  · rw [if_pos c] at e
    cases e
    have c1 := c.1
    have c2 := c.2
    unfold okP at c1 c2
    rw [Bool.and_eq_true] at c1 c2
    exact ⟨_, _, RepO.dp sm a x f1 c1.1 hx, RepO.dp sm b y f2 c2.1 hy, c1.2, c2.2, q (.bl _) _ (Rep.o (d := .bl _) rfl)⟩
  · rw [if_neg c] at e; cases e
def isNonD : D → Bool
  | .non => true
  | _ => false
def gIsN (a b : D) : Option D := match b with
  | .non => some (.bl (isNonD a))
  | _ => none
def gNotN (a b : D) : Option D := match b with
  | .non => some (.bl (!isNonD a))
  | _ => none
theorem isN_of {ca : Str → Addr} {F H : Hp} {a : D} {x : V} {f : Ct} (h : RepO K ca F H a x f) : decide (x = .non) = isNonD a := by
  cases a with
  | non => cases (show x = .non from h.1); rfl
  | bl b => cases (show x = .bl b from h.1); rfl
  | int b => cases (show x = .int b from h.1); rfl
  | str b => cases (show x = .str b from h.1); rfl
  | ty b => cases (show x = .ty b from h.1); rfl
  | tup ds => obtain ⟨⟨a, vs, rfl, _⟩, _⟩ := h; rfl
  | cst ds => obtain ⟨⟨a, vs, rfl, _⟩, _⟩ := h; rfl
  | lst m ds => cases m with
    | true => obtain ⟨a, vs, g, rfl, _⟩ := h; rfl
    | false => obtain ⟨⟨a, vs, rfl, _⟩, _⟩ := h; rfl
  | obj m c ns ds => cases m with
    | true => obtain ⟨a, dx, fs, vs, g, rfl, _⟩ := h; rfl
    | false => obtain ⟨⟨a, dx, fs, vs, rfl, _⟩, _⟩ := h; rfl
theorem sIsN : OpS K (fun x y H Q => y = .non ∧ Q (.bl (decide (x = .non))) H) gIsN := by
  intro ca F H x y a b d f1 f2 Q sm hx hy e q
  cases b with
  | non =>
    cases (show some (D.bl (isNonD a)) = some d from e)
    refine ⟨hy.1, ?_⟩
    rw [isN_of hx]
    exact q (.bl _) _ (Rep.o (d := .bl _) rfl)
  | _ => cases e
theorem sNotN : OpS K (fun x y H Q => y = .non ∧ Q (.bl (!decide (x = .non))) H) gNotN := by
  intro ca F H x y a b d f1 f2 Q sm hx hy e q
  cases b with
  | non =>
    cases (show some (D.bl (!isNonD a)) = some d from e)
    refine ⟨hy.1, ?_⟩
    rw [isN_of hx]
    exact q (.bl _) _ (Rep.o (d := .bl _) rfl)
  | _ => cases e

/-! ### subscripts, len -/
def itemsD : D → Option (List D)
  | .lst _ xs => some xs
  | .cst xs => some xs
  | .tup xs => some xs
  | _ => none
def gIx (a b : D) : Option D := match b with
  | .int i => (match a with
    | .str z => if z.length ≤ 1000000 then (atI z.cps.toList i).map fun c => .str ⟨#[c]⟩ else none
    | .lst _ xs => atI xs i
    | .cst xs => atI xs i
    | .tup xs => atI xs i
    | _ => none)
  | _ => none
theorem atI_get {α β : Type} {xs : List α} {ys : List β} {i : Int} {y : β} (hl : xs.length = ys.length) (h : atI ys i = some y) : ∃ (j : Nat) (x : α), ys[j]? = some y ∧ xs[j]? = some x ∧ atI xs i = some x := by
  unfold atI at h ⊢
  obtain ⟨j, e, h⟩ := bind_some h
  have hj : j < ys.length := (List.getElem?_eq_some_iff.mp h).1
  obtain ⟨x, hx⟩ : ∃ x, xs[j]? = some x := ⟨xs[j]'(by omega), by simp [hl, hj]⟩
  refine ⟨j, x, h, hx, ?_⟩
  rw [hl, e]
  exact hx
theorem seq_of {ca : Str → Addr} {F H : Hp} {a : D} {x : V} {f : Ct} {xs : List D} (sm : Same F H) (h : RepO K ca F H a x f) (e : itemsD a = some xs) : ∃ p vs g, x = .ref p ∧ (SqL K H p vs ∨ SqT K H p vs) ∧ RepOs K ca F H xs vs g := by
  cases a with
  | tup ds =>
    cases (show some ds = some xs from e)
    obtain ⟨⟨a, vs, rfl, h1, h2⟩, _⟩ := h
    exact ⟨a, vs, _, rfl, .inr (sqT_same sm h1), h2.os⟩
  | cst ds =>
    cases (show some ds = some xs from e)
    obtain ⟨⟨a, vs, rfl, h1, h2⟩, _⟩ := h
    exact ⟨a, vs, _, rfl, .inl (sm.seq h1), h2.os⟩
  | lst m ds =>
    cases (show some ds = some xs from e)
    cases m with
    | true =>
      obtain ⟨a, vs, g, rfl, h1, h2, _⟩ := h
      exact ⟨a, vs, g, rfl, .inl (sqOf h1), h2⟩
    | false =>
      obtain ⟨⟨a, vs, rfl, h1, h2⟩, _⟩ := h
      exact ⟨a, vs, _, rfl, .inl (sqOf (sm _ _ h1)), h2.os⟩
  | _ => cases e
theorem gIx_seq {a d : D} {i : Int} (e : gIx a (.int i) = some d) : (∃ xs, itemsD a = some xs ∧ atI xs i = some d) ∨ ∃ z c, a = .str z ∧ z.length ≤ 1000000 ∧ atI z.cps.toList i = some c ∧ d = .str ⟨#[c]⟩ := by
  cases a with
  | tup xs => exact .inl ⟨xs, rfl, e⟩
  | cst xs => exact .inl ⟨xs, rfl, e⟩
  | lst m xs => exact .inl ⟨xs, rfl, e⟩
  | str z =>
    have e' : (if z.length ≤ 1000000 then (atI z.cps.toList i).map fun c => D.str ⟨#[c]⟩ else none) = some d := e
    by_cases c : z.length ≤ 1000000
    · rw [if_pos c] at e'
      cases e2 : atI z.cps.toList i with
      | none => rw [e2] at e'; cases e'
      | some c' =>
        rw [e2] at e'
        exact .inr ⟨z, c', rfl, c, e2, (Option.some.inj e').symm⟩
    · rw [if_neg c] at e'; cases e'
  | _ => cases e
theorem sIx : OpS K (rIx K) gIx := by
  intro ca F H x y a b d f1 f2 Q sm hx hy e q
  cases b with
  | int i =>
    rcases gIx_seq e with ⟨xs, e1, e2⟩ | ⟨z, c, rfl, hz, e2, rfl⟩
    · obtain ⟨p, vs, g, rfl, h1, h2⟩ := seq_of sm hx e1
      obtain ⟨j, v, g1, g2, g3⟩ := atI_get h2.length e2
      obtain ⟨v', g', k1, k2⟩ := h2.get g1
      rw [g2] at k1; cases k1
      rcases h1 with h1 | h1
      · exact .inl ⟨p, vs, i, v, rfl, hy.1, h1, g3, q v _ k2⟩
      · exact .inr (.inl ⟨p, vs, i, v, rfl, hy.1, h1, g3, q v _ k2⟩)
    · exact .inr (.inr ⟨z, i, c, hx.1, hy.1, le_sizeLine hz, e2, q (.str ⟨#[c]⟩) _ (Rep.o (d := .str _) rfl)⟩)
  | _ => cases e
def gLen : List D → Option D
  | [.str z] => if z.length ≤ 1000000 then some (.int (z.length : Nat)) else none
  | [a] => (itemsD a).map fun xs => .int (xs.length : Nat)
  | _ => none
theorem repOs1 {ca : Str → Addr} {F H : Hp} {a : D} {xs : List V} {f : Ct} (h : RepOs K ca F H [a] xs f) : ∃ x g, xs = [x] ∧ RepO K ca F H a x g := by
  obtain ⟨x, r, f1, f2, rfl, h1, ⟨rfl, _⟩, _⟩ := h
  exact ⟨x, f1, rfl, h1⟩
theorem repOs2 {ca : Str → Addr} {F H : Hp} {a b : D} {xs : List V} {f : Ct} (h : RepOs K ca F H [a, b] xs f) : ∃ x y g g', xs = [x, y] ∧ RepO K ca F H a x g ∧ RepO K ca F H b y g' := by
  obtain ⟨x, r, f1, f2, rfl, h1, h2, _⟩ := h
  obtain ⟨y, g', rfl, h3⟩ := repOs1 h2
  exact ⟨x, y, f1, g', rfl, h1, h3⟩
theorem sLen : CallS K (fun xs H Q => ∃ x n, xs = [x] ∧ LenV K x H n ∧ Q (.int n) H) gLen := by
  intro ca F H xs as d f1 Q sm hx e q
  unfold gLen at e
  split at e
  · rename_i z
    obtain ⟨x, g, rfl, h⟩ := repOs1 hx
    cases (show x = .str z from h.1)
    by_cases c : z.length ≤ 1000000
    · rw [if_pos c] at e; cases e
      exact ⟨_, z.length, rfl, ⟨le_sizeLine c, rfl⟩, q (.int _) _ (Rep.o (d := .int _) rfl)⟩
    · rw [if_neg c] at e; cases e
  · rename_i a _
    obtain ⟨x, g, rfl, h⟩ := repOs1 hx
    cases ei : itemsD a with
    | none => rw [ei] at e; cases e
    | some ys =>
      rw [ei] at e
      cases (show some (D.int (ys.length : Nat)) = some d from e)
      obtain ⟨p, vs, g, rfl, h1, h2⟩ := seq_of sm h ei
      refine ⟨_, ys.length, rfl, ?_, q (.int _) _ (Rep.o (d := .int _) rfl)⟩
      rcases h1 with h1 | h1
      · exact .inl ⟨vs, h1, h2.length.symm⟩
      · exact .inr ⟨vs, h1, h2.length.symm⟩
  · cases e

/-! ### abs, min, max -/
def gAbs : List D → Option D
  | [.int i] => some (.int (if i < 0 then -i else i))
  | _ => none
def gMin2 : List D → Option D
  | [.int i, .int j] => some (.int (if j < i then j else i))
  | _ => none
def gMax2 : List D → Option D
  | [.int i, .int j] => some (.int (if j > i then j else i))
  | _ => none
theorem sAbs : CallS K (fun xs H Q => ∃ i, xs = [.int i] ∧ Q (.int (if i < 0 then -i else i)) H) gAbs := by
  intro ca F H xs as d f1 Q sm hx e q
  unfold gAbs at e
  split at e
  · rename_i i
    cases e
    obtain ⟨x, g, rfl, h⟩ := repOs1 hx
    cases (show x = .int i from h.1)
    exact ⟨i, rfl, q (.int _) _ (Rep.o (d := .int _) rfl)⟩
  · cases e

theorem sMin2 : CallS K (fun xs H Q => ∃ i j, xs = [.int i, .int j] ∧ Q (.int (if j < i then j else i)) H) gMin2 := by
  intro ca F H xs as d f1 Q sm hx e q
  unfold gMin2 at e
  split at e
  · rename_i i j
    cases e
    obtain ⟨x, y, g, g', rfl, h, h'⟩ := repOs2 hx
    cases (show x = .int i from h.1)
    cases (show y = .int j from h'.1)
    exact ⟨i, j, rfl, q (.int _) _ (Rep.o (d := .int _) rfl)⟩
  · cases e

theorem sMax2 : CallS K (fun xs H Q => ∃ i j, xs = [.int i, .int j] ∧ Q (.int (if j > i then j else i)) H) gMax2 := by
  intro ca F H xs as d f1 Q sm hx e q
  unfold gMax2 at e
  split at e
  · rename_i i j
    cases e
    obtain ⟨x, y, g, g', rfl, h, h'⟩ := repOs2 hx
    cases (show x = .int i from h.1)
    cases (show y = .int j from h'.1)
    exact ⟨i, j, rfl, q (.int _) _ (Rep.o (d := .int _) rfl)⟩
  · cases e

/-- the ints of a list of ints -/
def intsOf : List D → Option (List Int)
  | [] => some []
  | .int i :: r => (intsOf r).map (i :: ·)
  | _ => none
theorem ints_map : ∀ ns : List Int, intsOf (ns.map D.int) = some ns
  | [] => rfl
  | i :: r => by show (intsOf (r.map D.int)).map (i :: ·) = _; rw [ints_map r]; rfl
theorem repOs_ints {ca : Str → Addr} {F H : Hp} : ∀ {ds : List D} {vs : List V} {f : Ct} {ns : List Int}, RepOs K ca F H ds vs f → intsOf ds = some ns → vs = ns.map V.int
  | [], vs, f, ns, h, e => by
    cases (show some [] = some ns from e)
    exact h.1
  | d :: r, vs, f, ns, h, e => by
    obtain ⟨v, r', f1, f2, h1, h2, h3, _⟩ := h
    cases d with
    | int i =>
      have e' : (intsOf r).map (i :: ·) = some ns := e
      cases e2 : intsOf r with
      | none => rw [e2] at e'; cases e'
      | some ms =>
        rw [e2] at e'
        cases (show some (i :: ms) = some ns from e')
        rw [h1, repOs_ints h3 e2, (show v = .int i from h2.1)]
        rfl
    | _ => cases e
def minI : Int → List Int → Int
  | m, [] => m
  | m, x :: xs => minI (if x < m then x else m) xs
def maxI : Int → List Int → Int
  | m, [] => m
  | m, x :: xs => maxI (if m < x then x else m) xs
theorem minI_le : ∀ (m : Int) (xs : List Int), minI m xs ≤ m ∧ (∀ x ∈ xs, minI m xs ≤ x) ∧ (minI m xs = m ∨ minI m xs ∈ xs)
  | m, [] => ⟨Int.le_refl _, by simp, .inl rfl⟩
  | m, x :: xs => by
    obtain ⟨h1, h2, h3⟩ := minI_le (if x < m then x else m) xs
    show minI (if x < m then x else m) xs ≤ m ∧ (∀ y ∈ x :: xs, minI (if x < m then x else m) xs ≤ y) ∧ (minI (if x < m then x else m) xs = m ∨ minI (if x < m then x else m) xs ∈ x :: xs)
    have a0 : (if x < m then x else m) ≤ m ∧ (if x < m then x else m) ≤ x := by split <;> omega
    have a : minI (if x < m then x else m) xs ≤ m ∧ minI (if x < m then x else m) xs ≤ x := ⟨Int.le_trans h1 a0.1, Int.le_trans h1 a0.2⟩
    refine ⟨a.1, fun y hy => ?_, ?_⟩
    · rcases List.mem_cons.mp hy with rfl | hy
      · exact a.2
      · exact h2 y hy
    · rcases h3 with h3 | h3
      · rw [h3]
        split
        · exact .inr List.mem_cons_self
        · exact .inl rfl
      · exact .inr (List.mem_cons_of_mem _ h3)
theorem maxI_le : ∀ (m : Int) (xs : List Int), m ≤ maxI m xs ∧ (∀ x ∈ xs, x ≤ maxI m xs) ∧ (maxI m xs = m ∨ maxI m xs ∈ xs)
  | m, [] => ⟨Int.le_refl _, by simp, .inl rfl⟩
  | m, x :: xs => by
    obtain ⟨h1, h2, h3⟩ := maxI_le (if m < x then x else m) xs
    show m ≤ maxI (if m < x then x else m) xs ∧ (∀ y ∈ x :: xs, y ≤ maxI (if m < x then x else m) xs) ∧ (maxI (if m < x then x else m) xs = m ∨ maxI (if m < x then x else m) xs ∈ x :: xs)
    have a0 : m ≤ (if m < x then x else m) ∧ x ≤ (if m < x then x else m) := by split <;> omega
    have a : m ≤ maxI (if m < x then x else m) xs ∧ x ≤ maxI (if m < x then x else m) xs := ⟨Int.le_trans a0.1 h1, Int.le_trans a0.2 h1⟩
    refine ⟨a.1, fun y hy => ?_, ?_⟩
    · rcases List.mem_cons.mp hy with rfl | hy
      · exact a.2
      · exact h2 y hy
    · rcases h3 with h3 | h3
      · rw [h3]
        split
        · exact .inr List.mem_cons_self
        · exact .inl rfl
      · exact .inr (List.mem_cons_of_mem _ h3)
def lstD : D → Option (List D)
  | .lst _ xs => some xs
  | .cst xs => some xs
  | _ => none
theorem lst_of {ca : Str → Addr} {F H : Hp} {a : D} {x : V} {f : Ct} {xs : List D} (sm : Same F H) (h : RepO K ca F H a x f) (e : lstD a = some xs) : ∃ p vs g, x = .ref p ∧ SqL K H p vs ∧ RepOs K ca F H xs vs g := by
  cases a with
  | cst ds =>
    cases (show some ds = some xs from e)
    obtain ⟨⟨a, vs, rfl, h1, h2⟩, _⟩ := h
    exact ⟨a, vs, _, rfl, sm.seq h1, h2.os⟩
  | lst m ds =>
    cases (show some ds = some xs from e)
    cases m with
    | true =>
      obtain ⟨a, vs, g, rfl, h1, h2, _⟩ := h
      exact ⟨a, vs, g, rfl, sqOf h1, h2⟩
    | false =>
      obtain ⟨⟨a, vs, rfl, h1, h2⟩, _⟩ := h
      exact ⟨a, vs, _, rfl, sqOf (sm _ _ h1), h2.os⟩
  | _ => cases e
def gMinL : List D → Option D
  | [a] => match (lstD a).bind intsOf with
    | some (m :: r) => some (.int (minI m r))
    | _ => none
  | _ => none
def gMaxL : List D → Option D
  | [a] => match (lstD a).bind intsOf with
    | some (m :: r) => some (.int (maxI m r))
    | _ => none
  | _ => none
def gSum : List D → Option D
  | [a] => match (lstD a).bind intsOf with
    | some ns => some (.int ns.sum)
    | _ => none
  | _ => none
theorem sMinL : CallS K (rMin K) gMinL := by
  intro ca F H xs as d f1 Q sm hx e q
  unfold gMinL at e
  split at e
  · rename_i a
    split at e
    · rename_i m r e1
      cases e
      obtain ⟨x, g, rfl, h⟩ := repOs1 hx
      obtain ⟨ds, e2, e3⟩ := bind_some e1
      obtain ⟨p, vs, g, rfl, h1, h2⟩ := lst_of sm h e2
      refine ⟨p, m :: r, rfl, by rw [← repOs_ints h2 e3]; exact h1, by simp, fun n hn hle => ?_⟩
      have k := minI_le m r
      have : n = minI m r := by
          have a1 : minI m r ≤ n := by
            rcases List.mem_cons.mp hn with rfl | z
            · exact k.1
            · exact k.2.1 n z
          have a2 : n ≤ minI m r := by
            rcases k.2.2 with z | z
            · rw [z]; exact hle m List.mem_cons_self
            · exact hle _ (List.mem_cons_of_mem _ z)
          omega
      subst this
      exact q (.int _) _ (Rep.o (d := .int _) rfl)
    · cases e
  · cases e

theorem sMaxL : CallS K (rMax K) gMaxL := by
  intro ca F H xs as d f1 Q sm hx e q
  unfold gMaxL at e
  split at e
  · rename_i a
    split at e
    · rename_i m r e1
      cases e
      obtain ⟨x, g, rfl, h⟩ := repOs1 hx
      obtain ⟨ds, e2, e3⟩ := bind_some e1
      obtain ⟨p, vs, g, rfl, h1, h2⟩ := lst_of sm h e2
      refine ⟨p, m :: r, rfl, by rw [← repOs_ints h2 e3]; exact h1, by simp, fun n hn hle => ?_⟩
      have k := maxI_le m r
      have : n = maxI m r := by
          have a1 : n ≤ maxI m r := by
            rcases List.mem_cons.mp hn with rfl | z
            · exact k.1
            · exact k.2.1 n z
          have a2 : maxI m r ≤ n := by
            rcases k.2.2 with z | z
            · rw [z]; exact hle m List.mem_cons_self
            · exact hle _ (List.mem_cons_of_mem _ z)
          omega
      subst this
      exact q (.int _) _ (Rep.o (d := .int _) rfl)
    · cases e
  · cases e

theorem sSum : CallS K (rSum K) gSum := by
  intro ca F H xs as d f1 Q sm hx e q
  unfold gSum at e
  split at e
  · rename_i a
    split at e
    · rename_i ns e1
      cases e
      obtain ⟨x, g, rfl, h⟩ := repOs1 hx
      obtain ⟨ds, e2, e3⟩ := bind_some e1
      obtain ⟨p, vs, g, rfl, h1, h2⟩ := lst_of sm h e2
      exact ⟨p, ns, rfl, by rw [← repOs_ints h2 e3]; exact h1, q (.int _) _ (Rep.o (d := .int _) rfl)⟩
    · cases e
  · cases e

/-- the boolsOf of a list of boolsOf -/
def boolsOf : List D → Option (List Bool)
  | [] => some []
  | .bl i :: r => (boolsOf r).map (i :: ·)
  | _ => none
theorem bools_map : ∀ ns : List Bool, boolsOf (ns.map D.bl) = some ns
  | [] => rfl
  | i :: r => by show (boolsOf (r.map D.bl)).map (i :: ·) = _; rw [bools_map r]; rfl
theorem repOs_bools {ca : Str → Addr} {F H : Hp} : ∀ {ds : List D} {vs : List V} {f : Ct} {ns : List Bool}, RepOs K ca F H ds vs f → boolsOf ds = some ns → vs = ns.map V.bl
  | [], vs, f, ns, h, e => by
    cases (show some [] = some ns from e)
    exact h.1
  | d :: r, vs, f, ns, h, e => by
    obtain ⟨v, r', f1, f2, h1, h2, h3, _⟩ := h
    cases d with
    | bl i =>
      have e' : (boolsOf r).map (i :: ·) = some ns := e
      cases e2 : boolsOf r with
      | none => rw [e2] at e'; cases e'
      | some ms =>
        rw [e2] at e'
        cases (show some (i :: ms) = some ns from e')
        rw [h1, repOs_bools h3 e2, (show v = .bl i from h2.1)]
        rfl
    | _ => cases e
def gAll : List D → Option D
  | [a] => match (lstD a).bind boolsOf with
    | some ns => some (.bl (ns.all id))
    | _ => none
  | _ => none
def gAny : List D → Option D
  | [a] => match (lstD a).bind boolsOf with
    | some ns => some (.bl (ns.any id))
    | _ => none
  | _ => none
theorem sAll : CallS K (rAll K) gAll := by
  intro ca F H xs as d f1 Q sm hx e q
  unfold gAll at e
  split at e
  · rename_i a
    split at e
    · rename_i ns e1
      cases e
      obtain ⟨x, g, rfl, h⟩ := repOs1 hx
      obtain ⟨ds, e2, e3⟩ := bind_some e1
      obtain ⟨p, vs, g, rfl, h1, h2⟩ := lst_of sm h e2
      exact ⟨p, ns, rfl, by rw [← repOs_bools h2 e3]; exact h1, q (.bl _) _ (Rep.o (d := .bl _) rfl)⟩
    · cases e
  · cases e

theorem sAny : CallS K (rAny K) gAny := by
  intro ca F H xs as d f1 Q sm hx e q
  unfold gAny at e
  split at e
  · rename_i a
    split at e
    · rename_i ns e1
      cases e
      obtain ⟨x, g, rfl, h⟩ := repOs1 hx
      obtain ⟨ds, e2, e3⟩ := bind_some e1
      obtain ⟨p, vs, g, rfl, h1, h2⟩ := lst_of sm h e2
      exact ⟨p, ns, rfl, by rw [← repOs_bools h2 e3]; exact h1, q (.bl _) _ (Rep.o (d := .bl _) rfl)⟩
    · cases e
  · cases e

/-! ### isinstance -/
def tyOfD : D → Option String
  | .non => none | .bl _ => some "bool" | .int _ => some "int" | .str _ => some "str"
  | .tup _ => some "tuple" | .lst _ _ => some "list" | .cst _ => some "list" | .ty _ => none | .obj _ _ _ _ => none
def isiT (t u : String) : Option Bool := if t = u then some true else if t = "bool" ∧ u = "int" then some true else if t ∈ ["bool", "int", "str", "tuple", "list"] ∧ u ∈ ["bool", "int", "str", "tuple", "list"] then some false else none
def gIsi : List D → Option D
  | [a, .ty u] => match tyOfD a with
    | some t => if t ∈ ["bool", "int", "str", "tuple", "list"] ∧ u ∈ ["bool", "int", "str", "tuple", "list"] then some (.bl (decide (t = u) || (decide (t = "bool") && decide (u = "int")))) else none
    | none => none
  | _ => none
theorem kitOne_isi {K : PySem.W.Frag} {t u : String} (h : t ∈ ["bool", "int", "str", "tuple", "list"]) (k : u ∈ ["bool", "int", "str", "tuple", "list"]) : PySem.W.kitOne K (.type t) (.type u) = some (decide (t = u) || (decide (t = "bool") && decide (u = "int"))) := by
  simp only [List.mem_cons, List.not_mem_nil, or_false] at h k
  rcases h with rfl | rfl | rfl | rfl | rfl <;> rcases k with rfl | rfl | rfl | rfl | rfl <;> exact kit_ty (by decide +kernel)
theorem ty_of {ca : Str → Addr} {F H : Hp} {a : D} {x : V} {f : Ct} {t : String} (sm : Same F H) (h : RepO K ca F H a x f) (e : tyOfD a = some t) : TyX K H x (.type t) := by
  have L : ∀ {p vs}, SqL K H p vs → TyX K H (.ref p) (.type "list") := fun {p vs} s => by
    rcases s with (s | ⟨o, s⟩) | ⟨o, its, n, k1, k2, _⟩
    · exact .base (.lst s)
    · exact .base (.frz s)
    · exact .kList k1 k2
  have T : ∀ {p vs}, SqT K H p vs → TyX K H (.ref p) (.type "tuple") := fun {p vs} s => by
    rcases s with (s | ⟨o, s⟩) | ⟨o, its, n, k1, k2, _⟩
    · exact .base (.tup s)
    · exact .fTuple s
    · exact .kTuple k1 k2
  cases a with
  | bl b => cases (show x = .bl b from h.1); cases (show some "bool" = some t from e); exact .base (.bl b)
  | int b => cases (show x = .int b from h.1); cases (show some "int" = some t from e); exact .base (.int b)
  | str b => cases (show x = .str b from h.1); cases (show some "str" = some t from e); exact .base (.str b)
  | tup ds =>
    cases (show some "tuple" = some t from e)
    obtain ⟨⟨a, vs, rfl, h1, h2⟩, _⟩ := h
    exact T (sqT_same sm h1)
  | cst ds =>
    cases (show some "list" = some t from e)
    obtain ⟨p, vs, g, rfl, h1, h2⟩ := lst_of sm h rfl
    exact L h1
  | lst m ds =>
    cases (show some "list" = some t from e)
    obtain ⟨p, vs, g, rfl, h1, h2⟩ := lst_of sm h rfl
    exact L h1
  | _ => cases e
theorem sIsi : CallS K (rIsi K) gIsi := by
  intro ca F H xs as d f1 Q sm hx e q
  unfold gIsi at e
  split at e
  · rename_i a u
    obtain ⟨x, y, g, g', rfl, h, h'⟩ := repOs2 hx
    cases (show y = .ty u from h'.1)
    split at e
    · rename_i t et
      by_cases c : t ∈ ["bool", "int", "str", "tuple", "list"] ∧ u ∈ ["bool", "int", "str", "tuple", "list"]
      · rw [if_pos c] at e
        cases e
        exact ⟨x, .ty u, _, _, _, rfl, .ty u, ty_of sm h et, kitOne_isi c.1 c.2, q (.bl _) _ (Rep.o (d := .bl _) rfl)⟩
      · rw [if_neg c] at e; cases e
    · cases e
  · cases e

/-! ### in -/
def flatD : D → Bool
  | .non => true | .bl _ => true | .int _ => true | .str _ => true | _ => false
def toV : D → V
  | .non => .non | .bl b => .bl b | .int i => .int i | .str s => .str s | _ => .non
theorem flat_of {ca : Str → Addr} {F H : Hp} {a : D} {x : V} {f : Ct} (h : RepO K ca F H a x f) (e : flatD a = true) : x = toV a ∧ flatV x = true := by
  cases a with
  | non => cases (show x = .non from h.1); exact ⟨rfl, rfl⟩
  | bl b => cases (show x = .bl b from h.1); exact ⟨rfl, rfl⟩
  | int b => cases (show x = .int b from h.1); exact ⟨rfl, rfl⟩
  | str b => cases (show x = .str b from h.1); exact ⟨rfl, rfl⟩
  | _ => cases e
theorem flats_of {ca : Str → Addr} {F H : Hp} : ∀ {ds : List D} {vs : List V} {f : Ct}, RepOs K ca F H ds vs f → ds.all flatD = true → vs = ds.map toV ∧ vs.all flatV = true
  | [], vs, f, h, e => by cases (show vs = [] from h.1); exact ⟨rfl, rfl⟩
  | d :: ds, vs, f, ⟨v, r, f1, f2, h1, h2, h3, _⟩, e => by
    rw [List.all_cons, Bool.and_eq_true] at e
    obtain ⟨k1, k2⟩ := flat_of h2 e.1
    obtain ⟨k3, k4⟩ := flats_of h3 e.2
    subst h1
    refine ⟨by rw [List.map_cons, ← k1, ← k3], ?_⟩
    rw [List.all_cons, k2, k4]; rfl
def gIn (neg : Bool) (a b : D) : Option D := match itemsD b with
  | some xs => if flatD a = true ∧ xs.all flatD = true then some (.bl (if neg then !inV (toV a) (xs.map toV) else inV (toV a) (xs.map toV))) else none
  | none => none
theorem sIn {neg : Bool} : OpS K (rIn K neg) (gIn neg) := by
  intro ca F H x y a b d f1 f2 Q sm hx hy e q
  unfold gIn at e
  cases ei : itemsD b with
  | none => rw [ei] at e; cases e
  | some xs =>
    rw [ei] at e
    by_cases c : flatD a = true ∧ xs.all flatD = true
    · simp only [c, and_self, if_true] at e
      cases e
      obtain ⟨p, vs, g, rfl, h1, h2⟩ := seq_of sm hy ei
      obtain ⟨k1, k2⟩ := flat_of hx c.1
      obtain ⟨k3, k4⟩ := flats_of h2 c.2
      refine ⟨p, vs, rfl, h1, k2, k4, ?_⟩
      rw [k1, k3]
      exact q (.bl _) _ (Rep.o (d := .bl _) rfl)
    · simp only [c, if_false] at e; cases e
/-- a sign in a text -/
def gInS (neg : Bool) (a b : D) : Option D := match a, b with
  | .str c, .str z => match c.cps.toList with
    | [k] => some (.bl (if neg then !decide (k ∈ z.cps.toList) else decide (k ∈ z.cps.toList)))
    | _ => none
  | _, _ => none
theorem str_one {c : Str} {k : Nat} (h : c.cps.toList = [k]) : c = ⟨#[k]⟩ := by
  cases c with
  | mk cps =>
    have : cps = #[k] := by
      apply Array.toList_inj.mp
      exact h
    rw [this]
theorem sInS : OpS K (fun x y H Q => ∃ (c : Nat) (z : Str), x = .str ⟨#[c]⟩ ∧ y = .str z ∧ Q (.bl (decide (c ∈ z.cps.toList))) H) (gInS false) := by
  intro ca F H x y a b d f1 f2 Q sm hx hy e q
  unfold gInS at e
  split at e
  · rename_i c z
    split at e
    · rename_i k h
      cases e
      exact ⟨k, z, by rw [(show x = .str c from hx.1), str_one h], hy.1, q (.bl _) _ (Rep.o (d := .bl _) rfl)⟩
    · cases e
  · cases e

theorem sNotInS : OpS K (fun x y H Q => ∃ (c : Nat) (z : Str), x = .str ⟨#[c]⟩ ∧ y = .str z ∧ Q (.bl (!decide (c ∈ z.cps.toList))) H) (gInS true) := by
  intro ca F H x y a b d f1 f2 Q sm hx hy e q
  unfold gInS at e
  split at e
  · rename_i c z
    split at e
    · rename_i k h
      cases e
      exact ⟨k, z, by rw [(show x = .str c from hx.1), str_one h], hy.1, q (.bl _) _ (Rep.o (d := .bl _) rfl)⟩
    · cases e
  · cases e

end
end Bn

/-! Append, slices, join, the module's constants. -/
namespace Bn
open PySem PySem.Spec PyProof.Rows L2
section
variable {X : Cx} {B : Bx} {W : WX}
def sApp (i : Nat) (m : ME) : MS := fun τ => match τ.getD i none with
  | some (.lst true _) => (m τ).s fun d τ1 => (match τ1.getD i none with
    | some (.lst true es) => if es.length < 1000000 then .nx (τ1.set i (some (.lst true (es ++ [d])))) else .bad
    | _ => .bad)
  | _ => .bad
theorem s_app {i : Nat} {o e : Expr} {apos cpos pos : Pos} {m : ME} (ho : PE X o (tVar i)) (he : PE X e (rdE X.K B W m))
    (hbase : attributeBase o "append" X.env (eval o X.env) = eval o X.env := by rfl)
    (hfew : ((backTo cpos (starEach [e] X.env)).all (fun x => !x.1) && (backToKw cpos (keywordEach [] X.env)).all (fun x => x.1.isSome)
      && decide ([e].length + ([] : List Keyword).length + (if ([] : List Keyword).isEmpty then 0 else 1) < 30)) = true := by rfl)
    (hline : (apos.endLine == cpos.line) = true := by rfl) (hs : starEach [e] X.env = (false, eval e X.env) :: starEach [] X.env := by rfl) (hplain : (backTo cpos (starEach [] X.env)).any (·.1) = false := by rfl)
    (hsw : swapsWith (.Call (.Attribute o "append" apos) [e] [] cpos) none pos.line X.env = pure false := by rfl) : PS X (.Expr (.Call (.Attribute o "append" apos) [e] [] cpos) pos) (rdS X.K B W (sApp i m)) :=
  PS.imp (ps_expr (pe_bm PySem.F.plainAttrs_list PySem.F.slot_list_append PySem.F.type_list_append mt_append ho (pa_cons he pa_nil hs) hbase hfew hline hs hplain) hsw) fun D σ H ⟨F, τ, vs, ds, s, p⟩ => by
    unfold sApp at p
    split at p
    · rename_i es0 e0
      obtain ⟨v, f, h1, a, us, g, rfl, h2, _⟩ := s.get (getD_some e0)
      refine ⟨.ref a, h1, .inl ⟨rfl, us, sqOf h2⟩, F, τ, vs, ds, s, post_imp (post_s (σ := σ) p) (fun d τ1 q y F1 H1 s1 => ?_) fun _ _ q => q⟩
      split at q
      · rename_i es e1
        have e1' := getD_some e1
        obtain ⟨v, k1, s2⟩ := s1.take e1'
        rw [h1] at k1
        cases k1
        by_cases hl : es.length < 1000000
        · rw [if_pos hl] at q
          obtain ⟨f, a', us', g, ea, hx, hg, _⟩ := s2.top
          cases ea
          refine ⟨a, us', y, rfl, rfl, hx, by rw [hg.length, sizeLine_eq]; omega, ?_⟩
          have s3 := s2.change (us := [y]) (ds := [d]) (ys := us' ++ [y]) (es2 := es ++ [d]) rfl hx fun g1 g2 r1 r2 => ⟨_, r1.append r2, fun b => Nat.le_refl _⟩
          have s4 := s3.putBack (i := i) (by rw [List.length_set]; exact (List.getElem?_eq_some_iff.mp e1').1) h1
          rw [List.set_set] at s4
          exact q σ F1 _ s4
        · rw [if_neg hl] at q; exact q.elim
      · exact q.elim
    · exact p.elim

/-! ### slices -/
def rdP (K : PySem.W.Frag) (B : Bx) (W : WX) (p : Env → R (Option Int)) : TO := fun σ H Q => ∃ F τ vs ds, StT K B F H σ τ vs ds ∧ post (fun o τ' => ∀ F' H', StT K B F' H' σ τ' vs ds → Q o H') (exW K B W σ vs ds) (p τ)
theorem PO.imp {e : Option Expr} {t t' : TO} (h : PO X e t) (k : ∀ σ H Q, t' σ H Q → t σ H Q) : PO X e t' := ⟨fun p s σ H Q I q => h.run p s σ H Q I (k _ _ _ q)⟩
def pNone : Env → R (Option Int) := fun τ => .ok none τ
def pSome (m : ME) : Env → R (Option Int) := fun τ => (m τ).bind fun d τ1 => match d with
  | .int i => .ok (some i) τ1
  | _ => .bad
theorem pe_none : PO X none (rdP X.K B W pNone) := PO.imp po_none fun σ H Q ⟨F, τ, vs, ds, s, k⟩ => k F H s
theorem pe_some {e : Expr} {m : ME} (h : PE X e (rdE X.K B W m)) : PO X (some e) (rdP X.K B W (pSome m)) := PO.imp (po_some h) fun σ H Q ⟨F, τ, vs, ds, s, k⟩ => by
  refine ⟨F, τ, vs, ds, s, post_imp (post_bind k) (fun d τ1 q v F1 H1 s1 => ?_) fun _ _ q => q⟩
  cases d with
  | int i => exact ⟨i, s1.topF rfl, q F1 H1 s1.pop⟩
  | _ => exact False.elim q
def cutL {α : Type} (xs : List α) (lo hi : Option Int) : List α := (xs.drop (HT.sIx xs.length 0 lo)).take (HT.sIx xs.length xs.length hi - HT.sIx xs.length 0 lo)
theorem RepL.drop {K : PySem.W.Frag} {ca : Str → Addr} {F : Hp} : ∀ {ds : List D} {vs : List V} (n : Nat), RepL K ca F ds vs → RepL K ca F (ds.drop n) (vs.drop n)
  | [], vs, n, h => by cases (show vs = [] from h); simp; exact rfl
  | d :: ds, vs, 0, h => h
  | d :: ds, _, n + 1, ⟨v, r, h1, h2, h3⟩ => by subst h1; exact h3.drop n
theorem RepL.take {K : PySem.W.Frag} {ca : Str → Addr} {F : Hp} : ∀ {ds : List D} {vs : List V} (n : Nat), RepL K ca F ds vs → RepL K ca F (ds.take n) (vs.take n)
  | [], vs, n, h => by cases (show vs = [] from h); simp; exact rfl
  | d :: ds, vs, 0, h => rfl
  | d :: ds, _, n + 1, ⟨v, r, h1, h2, h3⟩ => by subst h1; exact ⟨v, r.take n, rfl, h2, h3.take n⟩
theorem RepL.cut {K : PySem.W.Frag} {ca : Str → Addr} {F : Hp} {ds : List D} {vs : List V} (h : RepL K ca F ds vs) (lo hi : Option Int) : RepL K ca F (cutL ds lo hi) (cutV vs lo hi) := by
  unfold cutL cutV
  rw [h.length]
  exact (h.drop _).take _
def slR (d : D) (p r : Env → R (Option Int)) (f : D → Option Int → Option Int → Option D) (τ : Env) : R D := (p τ).bind fun lo τ1 => (r τ1).bind fun hi τ2 => match f d lo hi with
  | some x => .ok x τ2
  | none => .bad
def cutLd (d : D) (lo hi : Option Int) : Option D := match d with
  | .lst _ es => some (.lst true (cutL es lo hi))
  | .cst es => some (.lst true (cutL es lo hi))
  | _ => none
def cutSd (d : D) (lo hi : Option Int) : Option D := match d with
  | .str z => if z.length ≤ 1000000 then some (.str (cutS z lo hi)) else none
  | _ => none
def cutTd (d : D) (lo hi : Option Int) : Option D := match d with
  | .tup es => if HT.sIx es.length 0 lo = 0 ∧ HT.sIx es.length es.length hi = es.length then none else some (.tup (cutL es lo hi))
  | _ => none
def eSlice (f : D → Option Int → Option Int → Option D) (m : ME) (p r : Env → R (Option Int)) : ME := fun τ => (m τ).bind fun d τ1 => slR (freeze d) p r f τ1
theorem e_slice {e : Expr} {lo hi : Option Expr} {p2 pos : Pos} {m : ME} {p r : Env → R (Option Int)} {rd : V → Option Int → Option Int → Hp → VK → Prop} {f : D → Option Int → Option Int → Option D} (hr : SlR X rd)
    (hf : ∀ {F H σ τ v vs d ds l h x Q}, isFz d = true → f d l h = some x → StT X.K B F H σ τ (v :: vs) (d :: ds) → (∀ u F' H', StT X.K B F' H' σ τ (u :: vs) (x :: ds) → Q u H') → rd v l h H Q)
    (he : PE X e (rdE X.K B W m)) (hl : PO X lo (rdP X.K B W p)) (hu : PO X hi (rdP X.K B W r)) : PE X (.Subscript e (.Slice lo hi none p2) pos) (rdE X.K B W (eSlice f m p r)) :=
  PE.imp (pe_slice hr he hl hu) fun σ H Q ⟨F, τ, vs, ds, s, k⟩ => by
    refine ⟨F, τ, vs, ds, s, post_imp (post_bind k) (fun d τ1 q v F1 H1 s1 => ?_) fun _ _ q => q⟩
    obtain ⟨F2, s2⟩ := s1.freeze1
    refine ⟨F2, τ1, _, _, s2, post_imp (post_bind q) (fun l τ2 q F3 H3 s3 => ?_) fun c τ2 q F3 H3 s3 => q F3 H3 s3.pop⟩
    refine ⟨F3, τ2, _, _, s3, post_imp (post_bind q) (fun h τ3 q F4 H4 s4 => ?_) fun c τ2 q F3 H3 s3 => q F3 H3 s3.pop⟩
    cases ef : f (freeze d) l h with
    | none => rw [ef] at q; exact False.elim q
    | some x =>
      rw [ef] at q
      exact hf (freeze_fz d) ef s4 q
theorem e_sliceL {e : Expr} {lo hi : Option Expr} {p2 pos : Pos} {m : ME} {p r : Env → R (Option Int)} (he : PE X e (rdE X.K B W m)) (hl : PO X lo (rdP X.K B W p)) (hu : PO X hi (rdP X.K B W r)) : PE X (.Subscript e (.Slice lo hi none p2) pos) (rdE X.K B W (eSlice cutLd m p r)) :=
  e_slice sl_list (fun {F H σ τ v vs d ds l h x Q} z e s k => by
    cases d with
    | lst b es =>
      cases b with
      | true => cases z
      | false =>
        cases (show some (D.lst true (cutL es l h)) = some x from e)
        obtain ⟨a, us, ev, h1, h2⟩ := s.topF rfl
        subst ev
        exact ⟨a, us, rfl, sqOf (s.same _ _ h1), fun np hnp => k _ _ _ (((s.pop).pushL (h2.cut l h)).newLst (h2.cut l h).length hnp)⟩
    | cst es =>
      cases (show some (D.lst true (cutL es l h)) = some x from e)
      obtain ⟨a, us, ev, h1, h2⟩ := s.topF rfl
      subst ev
      exact ⟨a, us, rfl, s.same.seq h1, fun np hnp => k _ _ _ (((s.pop).pushL (h2.cut l h)).newLst (h2.cut l h).length hnp)⟩
    | _ => cases e) he hl hu
theorem e_sliceS {e : Expr} {lo hi : Option Expr} {p2 pos : Pos} {m : ME} {p r : Env → R (Option Int)} (he : PE X e (rdE X.K B W m)) (hl : PO X lo (rdP X.K B W p)) (hu : PO X hi (rdP X.K B W r)) : PE X (.Subscript e (.Slice lo hi none p2) pos) (rdE X.K B W (eSlice cutSd m p r)) :=
  e_slice sl_str (fun {F H σ τ v vs d ds l h x Q} z e s k => by
    cases d with
    | str zz =>
      by_cases hz : zz.length ≤ 1000000
      · have e' : (if zz.length ≤ 1000000 then some (D.str (cutS zz l h)) else none) = some x := e
        rw [if_pos hz] at e'
        cases e'
        exact ⟨zz, s.topF rfl, le_sizeLine hz, k _ _ _ (s.pop.push (d := .str _) rfl)⟩
      · have e' : (if zz.length ≤ 1000000 then some (D.str (cutS zz l h)) else none) = some x := e
        rw [if_neg hz] at e'; cases e'
    | _ => cases e) he hl hu
theorem e_sliceT {e : Expr} {lo hi : Option Expr} {p2 pos : Pos} {m : ME} {p r : Env → R (Option Int)} (he : PE X e (rdE X.K B W m)) (hl : PO X lo (rdP X.K B W p)) (hu : PO X hi (rdP X.K B W r)) : PE X (.Subscript e (.Slice lo hi none p2) pos) (rdE X.K B W (eSlice cutTd m p r)) :=
  e_slice sl_tup (fun {F H σ τ v vs d ds l h x Q} z e s k => by
    cases d with
    | tup es =>
      by_cases hw : HT.sIx es.length 0 l = 0 ∧ HT.sIx es.length es.length h = es.length
      · have e' : (if HT.sIx es.length 0 l = 0 ∧ HT.sIx es.length es.length h = es.length then none else some (D.tup (cutL es l h))) = some x := e
        rw [if_pos hw] at e'; cases e'
      · have e' : (if HT.sIx es.length 0 l = 0 ∧ HT.sIx es.length es.length h = es.length then none else some (D.tup (cutL es l h))) = some x := e
        rw [if_neg hw] at e'
        cases e'
        obtain ⟨a, us, ev, h1, h2⟩ := s.topF rfl
        subst ev
        exact ⟨a, us, rfl, sqT_same s.same h1, by rw [h2.length]; exact hw, fun np hnp => k _ _ _ (s.pop.newTup hnp (h2.cut l h))⟩
    | _ => cases e) he hl hu

/-! ### join -/
def strsOf : List D → Option (List Str)
  | [] => some []
  | .str i :: r => (strsOf r).map (i :: ·)
  | _ => none
theorem strs_map : ∀ ns : List Str, strsOf (ns.map D.str) = some ns
  | [] => rfl
  | i :: r => by show (strsOf (r.map D.str)).map (i :: ·) = _; rw [strs_map r]; rfl
theorem repOs_strs {K : PySem.W.Frag} {ca : Str → Addr} {F H : Hp} : ∀ {ds : List D} {vs : List V} {f : Ct} {ns : List Str}, RepOs K ca F H ds vs f → strsOf ds = some ns → vs = ns.map V.str
  | [], vs, f, ns, h, e => by
    cases (show some [] = some ns from e)
    exact h.1
  | d :: r, vs, f, ns, h, e => by
    obtain ⟨v, r', f1, f2, h1, h2, h3, _⟩ := h
    cases d with
    | str i =>
      have e' : (strsOf r).map (i :: ·) = some ns := e
      cases e2 : strsOf r with
      | none => rw [e2] at e'; cases e'
      | some ms =>
        rw [e2] at e'
        cases (show some (i :: ms) = some ns from e')
        rw [h1, repOs_strs h3 e2, (show v = .str i from h2.1)]
        rfl
    | _ => cases e
def eJoin (a b : ME) : ME := fun τ => (a τ).bind fun x τ1 => match x with
  | .str z => (b τ1).bind fun y τ2 => (match (itemsD y).bind strsOf with
    | some ys => if (ys.map (·.length)).sum + ys.length * z.length ≤ 1000000 then .ok (.str (Txt.join z ys)) τ2 else .bad
    | none => .bad)
  | _ => .bad
theorem e_join {o e : Expr} {apos pos : Pos} {a b : ME} (ho : PE X o (rdE X.K B W a)) (he : PE X e (rdE X.K B W b)) (hs : starEach [e] X.env = [(false, eval e X.env)] := by rfl) (hbase : attributeBase o "join" X.env (eval o X.env) = eval o X.env := by rfl) (hline : (apos.endLine == pos.line) = true := by rfl) :
    PE X (.Call (.Attribute o "join" apos) [e] [] pos) (rdE X.K B W (eJoin a b)) := PE.imp (pe_join ho he hs hbase hline) fun σ H Q ⟨F, τ, vs, ds, s, k⟩ => by
  refine ⟨F, τ, vs, ds, s, post_imp (post_bind k) (fun d τ1 q v F1 H1 s1 => ?_) fun _ _ q => q⟩
  cases d with
  | str z =>
    refine ⟨⟨z, s1.topF rfl⟩, F1, τ1, _, _, s1, post_imp (post_bind q) (fun d τ2 q w F2 H2 s2 => ?_) fun c τ2 q F2 H2 s2 => q F2 H2 s2.pop⟩
    split at q
    · rename_i ys ey
      obtain ⟨es, e1, e2⟩ := bind_some ey
      obtain ⟨f, hw⟩ := s2.top
      obtain ⟨p, us, g, rfl, h1, h2⟩ := seq_of s2.same hw e1
      by_cases hz : (ys.map (·.length)).sum + ys.length * z.length ≤ 1000000
      · rw [if_pos hz] at q
        refine ⟨z, p, ys, s1.topF rfl, rfl, by rw [← repOs_strs h2 e2]; exact h1, by omega, q _ _ _ (s2.pop.pop.push (d := .str _) rfl)⟩
      · rw [if_neg hz] at q; exact False.elim q
    · exact False.elim q
  | _ => exact False.elim q

/-! ### the module's constants -/
structure Kc (K : PySem.W.Frag) (mg : Str → Option Value) (x : Str) (d : D) : Prop where
  ex : ∃ v u, mg x = some u ∧ RelV v u ∧ ∀ ca F, Rep K ca F d v
theorem z_k {x : Str} {d : D} {pos : Pos} (k : Kc X.K X.mg x d) (hg : Gl X x) (hd : (x == ("__debug__" : Str)) = false := by decide) : PE X (.Name x pos) (rdZ X.K B (zC d)) := by
  obtain ⟨v, u, h1, h2, h3⟩ := k.ex
  exact z_c (pe_glob hg h1 h2 hd) fun F => h3 _ F
theorem kc_str {K : PySem.W.Frag} {mg : Str → Option Value} {x s : Str} {t : Tok} (h : mg x = some (.str s t)) : Kc K mg x (.str s) := ⟨.str s, _, h, ⟨t, rfl⟩, fun _ _ => rfl⟩
theorem kc_int {K : PySem.W.Frag} {mg : Str → Option Value} {x : Str} {s : Int} {t : Tok} (h : mg x = some (.int s t)) : Kc K mg x (.int s) := ⟨.int s, _, h, ⟨t, rfl⟩, fun _ _ => rfl⟩
/-- a tuple of texts -/
theorem repL_strs {K : PySem.W.Frag} {ca : Str → Addr} {F : Hp} : ∀ ss : List Str, RepL K ca F (ss.map D.str) (ss.map V.str)
  | [] => rfl
  | s :: r => ⟨.str s, r.map V.str, rfl, rfl, repL_strs r⟩
theorem kc_tupS {K : PySem.W.Frag} {mg : Str → Option Value} {x : Str} {a : Addr} {ss : List Str} (h : mg x = some (.ref a)) (hs : ∀ H, SqT K H a (ss.map V.str)) : Kc K mg x (.tup (ss.map D.str)) := ⟨.ref a, _, h, rfl, fun ca F => ⟨a, _, rfl, hs F, repL_strs ss⟩⟩
end
end Bn

/-! try .. except X as e: a suite that asks isinstance of e. -/
namespace Bn
open PySem PySem.Spec PyProof.Rows L2
abbrev Bx.withE (B : Bx) (i : Nat) (a : Addr) : Bx := { B with io := (i, .ref a) :: B.io }
theorem ioE {B : Bx} {i j : Nat} {a : Addr} (h : i ≠ j) (k : ioFree B j := by intro p hp; cases hp) : ioFree (B.withE i a) j := fun p hp => by
  rcases List.mem_cons.mp hp with rfl | hp
  · exact h
  · exact k p hp
def endAs (i : Nat) (r : SR) : SR := match r with
  | .nx τ => .nx (τ.set i none)
  | .rt d τ => .rt d τ
  | .bk τ => .bk (τ.set i none)
  | .ct τ => .ct (τ.set i none)
  | _ => .bad
def tryAs (i : Nat) (o : Option Bool) (c : Str) (τ : Env) (su : Str → MS) : SR := match o with
  | some true => if i < τ.length then endAs i (su c (τ.set i none)) else .bad
  | some false => .ex c τ
  | none => .bad
def sTryAs (i : Nat) (sub : Str → Option Bool) (b : MS) (su : Str → MS) : MS := fun τ => match b τ with
  | .ex c τ' => tryAs i (sub c) c τ' su
  | .nx τ' => .nx τ'
  | .rt d τ' => .rt d τ'
  | .bk τ' => .bk τ'
  | .ct τ' => .ct τ'
  | .bad => .bad
section
variable {X : Cx} {B : Bx} {W : WX}
theorem StT.withE {K : PySem.W.Frag} {F H : Hp} {σ : L2.St} {τ : Env} {vs : List V} {ds : List D} {i : Nat} {a : Addr} (s : StT K B F H σ τ vs ds) (hi : i < τ.length) (hf : ioFree B i) : StT K (B.withE i a) F H (σ.set i (some (.ref a))) (τ.set i none) vs ds := by
  have s1 := s.forget (i := i)
  have io : IoOk B σ := by obtain ⟨_, _, _, _, _, io⟩ := s; exact io
  have hl : σ.length = τ.length := by obtain ⟨_, _, A, _⟩ := s; exact A.length
  have s2 : StT K B F H (σ.set i (some (.ref a))) (τ.set i none) vs ds := s1.reset (by simp) (fun j d h => by
    have : j ≠ i := fun e => by
      subst e
      rw [List.getElem?_set_self hi] at h; cases h
    rw [List.getElem?_set_ne this.symm]) fun p hp => by rw [List.getElem?_set_ne (fun e => hf p hp e.symm)]; exact io p hp
  obtain ⟨f1, f2, A, b, w, io2⟩ := s2
  refine ⟨f1, f2, A, b, ⟨w.nd, w.dF, w.dR, w.sF, w.sR, w.s0, w.fr⟩, fun p hp => ?_⟩
  rcases List.mem_cons.mp hp with rfl | hp
  · rw [List.getElem?_set_self (by omega)]
  · exact io2 p hp
theorem StT.outE {K : PySem.W.Frag} {F H : Hp} {σ : L2.St} {τ : Env} {vs : List V} {ds : List D} {i : Nat} {a : Addr} (s : StT K (B.withE i a) F H σ τ vs ds) : StT K B F H σ τ vs ds := by
  obtain ⟨f1, f2, A, b, w, io2⟩ := s
  exact ⟨f1, f2, A, b, ⟨w.nd, w.dF, w.dR, w.sF, w.sR, w.s0, w.fr⟩, fun p hp => io2 p (List.mem_cons_of_mem _ hp)⟩
theorem StT.clearE {K : PySem.W.Frag} {F H : Hp} {σ : L2.St} {τ : Env} {vs : List V} {ds : List D} {i : Nat} (s : StT K B F H σ τ vs ds) (hf : ioFree B i) : StT K B F H (σ.set i none) (τ.set i none) vs ds := by
  have s1 := s.forget (i := i)
  have io : IoOk B σ := by obtain ⟨_, _, _, _, _, io⟩ := s; exact io
  have hl : σ.length = τ.length := by obtain ⟨_, _, A, _⟩ := s; exact A.length
  exact s1.reset (by simp) (fun j d h => by
    have : j ≠ i := fun e => by
      subst e
      by_cases hj : j < τ.length
      · rw [List.getElem?_set_self hj] at h; cases h
      · rw [List.getElem?_eq_none (by simp; omega)] at h; cases h
    rw [List.getElem?_set_ne this.symm]) fun p hp => by rw [List.getElem?_set_ne (fun e => hf p hp e.symm)]; exact io p hp
theorem s_tryAs {i : Nat} {x n : Str} {cv : Value} {body suite : List Stmt} {b₀ : Stmt} {np pos pos' : Pos} {b : MS} {su : Str → MS} (c : XOk X W) (hN : X.N.Nodup) (hi : X.N[i]? = some n) (hln : X.env.kindOf n = some .local) (sub : Str → Option Bool) (hn : Names X x cv) (hsub : ∀ y t, sub y = some t → PySem.W.exmOne X.K (.ref (B.ca y)) cv = some t) (hs : X.stack = X.env :: X.outer) (hf : X.env.frame = some X.env.locals)
    (hb : ∀ (W' : WX) (pn : List (Addr × Obj)) (xe : Value → Shared → Prop), XOk (X.tr pn xe) W' → PSs (X.tr pn xe) body (rdS X.K B W' b))
    (hsu : ∀ (a : Addr) (oe : Obj) (y : Str) (pn : List (Addr × Obj)), Zc (.ref (B.ca y)) none oe → (∃ vs, oe.data = .fields vs) → PSs (X.suite a ((a, oe) :: pn)) (b₀ :: suite) (rdS X.K (B.withE i a) W0 (su y))) (hio : ioFree B i := by intro p hp; cases hp) :
    PS X (.Try body [.ExceptHandler (some (.Name x np)) (some n) (b₀ :: suite) pos'] [] [] pos) (rdS X.K B W (sTryAs i sub b su)) :=
  PS.imp (ps_try_as (tb := fun W' => rdS X.K B W' b) (ts := fun a cls d => fun D σ H => ∃ y, cls = .ref (B.ca y) ∧ d = none ∧ rdS X.K (B.withE i a) W0 (su y) D σ H) hs hf hN hi hln hn c.tk (fun W' pn xe tk hp => hb W' pn xe ⟨tk, hp, c.calm⟩)
    fun a oe cls d pn hz hv => ⟨fun pins s σ H D I h => by
      obtain ⟨y, rfl, rfl, h⟩ := h
      exact (hsu a oe y pn hz hv).run pins s σ H D I h⟩) fun D σ H ⟨F, τ, vs, ds, s, p⟩ => by
    refine ⟨F, τ, vs, ds, s, ?_⟩
    unfold sTryAs at p
    cases e : b τ with
    | ex y τ' =>
      rw [e] at p
      intro σ' F' H' s'
      cases es : sub y with
      | none => simp only [es, tryAs] at p; exact p.elim
      | some t =>
        simp only [es] at p
        refine ⟨t, hsub y t es, fun ht a ha => ?_, fun ht => ?_⟩
        · subst ht
          by_cases hl : i < τ'.length
          · simp only [tryAs, hl, if_true] at p
            refine ⟨y, rfl, rfl, F', _, vs, ds, s'.withE hl hio, ?_⟩
            cases e2 : su y (τ'.set i none) with
            | nx τ2 => rw [e2] at p; exact fun σ2 F2 H2 s2 => p _ F2 H2 (s2.outE.clearE hio)
            | rt d τ2 => rw [e2] at p; exact fun v σ2 F2 H2 s2 => p v σ2 F2 H2 s2.outE
            | bk τ2 => rw [e2] at p; exact fun σ2 F2 H2 s2 => p _ F2 H2 (s2.outE.clearE hio)
            | ct τ2 => rw [e2] at p; exact fun σ2 F2 H2 s2 => p _ F2 H2 (s2.outE.clearE hio)
            | ex c2 τ2 => rw [e2] at p; exact p.elim
            | bad => rw [e2] at p; exact p.elim
          · simp only [tryAs, hl, if_false] at p; exact p.elim
        · subst ht; exact p σ' F' H' s'
    | _ => rw [e] at p; exact p
def eIs (o : Option Bool) : ME := fun τ => match o with
  | some b => .ok (.bl b) τ
  | none => .bad
theorem e_isE {i : Nat} {a : Addr} {oe : Obj} {pn : List (Addr × Obj)} {y : Str} {n A : Str} {vA : V} {cvA : Value} {o : Option Bool} {p p1 p2 pos : Pos} (hz : Zc (.ref (B.ca y)) none oe) (hv : ∃ vs, oe.data = .fields vs)
    (he : PE (X.suite a ((a, oe) :: pn)) (.Name n p1) (tVar i)) (hA : PE (X.suite a ((a, oe) :: pn)) (.Name A p2) (tC vA)) (hcv : ∀ u, RelV vA u → u = cvA) (hC : ∀ t, o = some t → ExcC X.K (B.ca y) ∧ PySem.W.kitOne X.K (.ref (B.ca y)) cvA = some t)
    (hg : Gl (X.suite a ((a, oe) :: pn)) "isinstance") (hm : X.mg "isinstance" = none)
    (hs1 : starEach [.Name n p1, .Name A p2] (X.suite a ((a, oe) :: pn)).env = (false, eval (.Name n p1) (X.suite a ((a, oe) :: pn)).env) :: starEach [.Name A p2] (X.suite a ((a, oe) :: pn)).env := by rfl)
    (hs2 : starEach [.Name A p2] (X.suite a ((a, oe) :: pn)).env = (false, eval (.Name A p2) (X.suite a ((a, oe) :: pn)).env) :: starEach [] (X.suite a ((a, oe) :: pn)).env := by rfl)
    (hpl : (backTo pos (starEach [.Name A p2] (X.suite a ((a, oe) :: pn)).env)).any (·.1) = false := by rfl) :
    PE (X.suite a ((a, oe) :: pn)) (.Call (.Name "isinstance" p) [.Name n p1, .Name A p2] [] pos) (rdE X.K (B.withE i a) W0 (eIs o)) := by
  cases o with
  | none => exact ⟨fun _ _ _ _ _ _ ⟨F, τ, vs, ds, s, h⟩ => False.elim h⟩
  | some t =>
    obtain ⟨C, hk⟩ := hC t rfl
    refine PE.imp (pe_callB (call_isE C hz hv) hg hm (by decide +kernel) (pa_cons he (pa_cons hA pa_nil hs2) hs1) (by decide) (by decide) hs1 hpl) fun σ H Q ⟨F, τ, vs, ds, s, h⟩ => ?_
    have io : IoOk (B.withE i a) σ := by obtain ⟨_, _, _, _, _, io⟩ := s; exact io
    exact ⟨.ref a, io (i, .ref a) List.mem_cons_self, vA, cvA, t, rfl, hcv, hk, h (.bl t) F H (s.push (d := .bl t) rfl)⟩
end
theorem kit_same {K : PySem.W.Frag} {a : Addr} : PySem.W.kitOne K (.ref a) (.ref a) = some true := by
  unfold PySem.W.kitOne
  rw [if_pos (by simp)]
theorem kit_type {K : PySem.W.Frag} {a : Addr} {T : String} {b : Bool} (hm : PySem.W.kitMeta T = true) (h : PySem.W.subIn K (.ref a) (.type T) = some b) : PySem.W.kitOne K (.ref a) (.type T) = some b := by
  unfold PySem.W.kitOne
  rw [if_neg (by intro z; cases z)]
  unfold PySem.W.kitCls
  simp only [hm, if_true]
  exact h
theorem kit_ref {K : PySem.W.Frag} {a x : Addr} {b : Bool} (h1 : PySem.W.hasDictIn K x = true) (ht : PySem.W.typeIn K (.ref x) = some (.type "type")) (h4 : PySem.W.subIn K (.ref a) (.ref x) = some b) (hb : b = true ∨ (a == x) = false) : PySem.W.kitOne K (.ref a) (.ref x) = some b := by
  obtain ⟨cd, hc, _⟩ := PySem.W.any_some h1
  have e2 : ((PySem.W.clsIn K x).isSome && PySem.W.typeIn K (.ref x) == some (.type "type")) = true := by rw [hc, ht] <;> rfl
  unfold PySem.W.kitOne
  by_cases e : a = x
  · subst e
    rw [if_pos (by simp)]
    rcases hb with rfl | hb
    · rfl
    · simp at hb
  · rw [if_neg (by simp; exact e)]
    show (if ((PySem.W.clsIn K x).isSome && PySem.W.typeIn K (.ref x) == some (.type "type")) = true then PySem.W.subIn K (.ref a) (.ref x) else none) = some b
    rw [if_pos e2]
    exact h4
theorem exm_type {K : PySem.W.Frag} {a : Addr} {T : String} {b : Bool} (h1 : PySem.W.subIn K (.type T) (.type "BaseException") = some true) (hm : PySem.W.kitMeta T = true) (h : PySem.W.subIn K (.ref a) (.type T) = some b) : PySem.W.exmOne K (.ref a) (.type T) = some b := by
  unfold PySem.W.exmOne
  rw [if_pos (by rw [h1]; rfl)]
  unfold PySem.W.kitCls
  simp only [hm, if_true]
  exact h
end Bn
namespace Bn
open PySem PySem.Spec PyProof.Rows L2
/-- list(xs): a new list -/
def eLstOf (m : MA) : ME := fun τ => (m τ).bind fun ds τ1 => match freezeL ds with
  | [.lst _ es] => .ok (.lst true es) τ1
  | [.tup es] => .ok (.lst true es) τ1
  | _ => .bad
theorem e_lstOf {X : Cx} {B : Bx} {W : WX} {x : Str} {p pos : Pos} {e : Expr} {m : MA} (hg : Gl X x) (hm : X.mg x = none) (hv : bootBuiltins x = some (.type "list")) (ha : PA X [e] (rdA X.K B W m)) (hn : x ≠ "__name__" := by decide) (hdb : (x == ("__debug__" : Str)) = false := by decide)
    (he : starEach [e] X.env = (false, eval e X.env) :: starEach [] X.env := by rfl) (hpl : (backTo pos (starEach [] X.env)).any (·.1) = false := by rfl) : PE X (.Call (.Name x p) [e] [] pos) (rdE X.K B W (eLstOf m)) := PE.imp (pe_callTy call_list_of hg hm hv ha hn hdb he hpl) fun σ H Q ⟨F, τ, vs, ds, s, p⟩ => by
  refine ⟨F, τ, vs, ds, s, post_imp (post_bind p) (fun es τ1 q us F1 H1 hl s1 => ?_) fun _ _ q => q⟩
  obtain ⟨F2, sm, rl, s2⟩ := s1.freeze hl
  match h : freezeL es, q, rl with
  | [.lst b xs], q, rl =>
    obtain ⟨v, r, rfl, r1, r2⟩ := rl
    cases (show r = [] from r2)
    cases b with
    | true => exact r1.elim
    | false =>
      obtain ⟨a, ws, rfl, h1, h2⟩ := r1
      exact ⟨a, ws, rfl, .inl (sqOf (s2.same _ _ h1)), fun l hl => q _ _ _ ((s2.pushL h2).newLst h2.length hl)⟩
  | [.tup xs], q, rl =>
    obtain ⟨v, r, rfl, r1, r2⟩ := rl
    cases (show r = [] from r2)
    obtain ⟨a, ws, rfl, h1, h2⟩ := r1
    exact ⟨a, ws, rfl, .inr (sqT_same s2.same h1), fun l hl => q _ _ _ ((s2.pushL h2).newLst h2.length hl)⟩
end Bn

/-! Plain facts of the functions of trees. -/
namespace Bn
open PySem L2
theorem vAdd (i j : Int) : gAdd (.int i) (.int j) = some (.int (i + j)) := rfl
theorem vSub (i j : Int) : gSub (.int i) (.int j) = some (.int (i - j)) := rfl
theorem vMul {i j : Int} (h : CMulW i j) : gMul (.int i) (.int j) = some (.int (i * j)) := if_pos h
theorem vDiv {i j : Int} (h0 : 0 < j) (h : j.natAbs.log2 < 9000) : gDiv (.int i) (.int j) = some (.int (i / j)) := if_pos ⟨h0, h⟩
theorem vMod {i j : Int} (h : 0 < j) : gMod (.int i) (.int j) = some (.int (i % j)) := if_pos h
theorem vPow {i j : Int} (h : CPow i j) : gPow (.int i) (.int j) = some (.int (i ^ j.toNat)) := if_pos h
theorem vLt (i j : Int) : gLt (.int i) (.int j) = some (.bl (decide (i < j))) := rfl
theorem vLe (i j : Int) : gLe (.int i) (.int j) = some (.bl (decide (i ≤ j))) := rfl
theorem vGt (i j : Int) : gGt (.int i) (.int j) = some (.bl (decide (j < i))) := rfl
theorem vGe (i j : Int) : gGe (.int i) (.int j) = some (.bl (decide (j ≤ i))) := rfl
theorem vNeg (i : Int) : gNeg (.int i) = some (.int (-i)) := rfl
theorem vEq (i j : Int) : gEq (.int i) (.int j) = some (.bl (i == j)) := rfl
theorem vNe (i j : Int) : gNe (.int i) (.int j) = some (.bl (!(i == j))) := rfl
theorem vEq2 (a b c d : Int) : gEq (.tup [.int a, .int b]) (.tup [.int c, .int d]) = some (.bl ((a == c) && ((b == d) && true))) := rfl
theorem vNe2 (a b c d : Int) : gNe (.tup [.int a, .int b]) (.tup [.int c, .int d]) = some (.bl (!((a == c) && ((b == d) && true)))) := rfl
theorem vIx0 (xs : List D) (d : D) : gIx (.tup (d :: xs)) (.int 0) = some d := by
  show atI (d :: xs) 0 = some d
  unfold atI ixN
  rw [if_pos (by decide), if_pos (by simp)]
  rfl
theorem atI_of {α : Type} {xs : List α} {k : Nat} {i : Int} (e : i = (k : Int)) : atI xs i = xs[k]? := by
  subst e
  unfold atI ixN
  rw [if_pos (by omega)]
  by_cases h : (k : Int) < xs.length
  · rw [if_pos h]; simp
  · rw [if_neg h]
    rw [List.getElem?_eq_none (by omega)]; rfl
theorem vIxL (m : Bool) (xs : List D) (k : Nat) : gIx (.lst m xs) (.int k) = xs[k]? := atI_of rfl
theorem vIxC (xs : List D) (k : Nat) : gIx (.cst xs) (.int k) = xs[k]? := atI_of rfl
theorem vIxT (xs : List D) (k : Nat) : gIx (.tup xs) (.int k) = xs[k]? := atI_of rfl
theorem vLenL (m : Bool) (xs : List D) : gLen [.lst m xs] = some (.int xs.length) := rfl
theorem vLenC (xs : List D) : gLen [.cst xs] = some (.int xs.length) := rfl
theorem vLenT (xs : List D) : gLen [.tup xs] = some (.int xs.length) := rfl
/-- sizes: from bounds -/
theorem log2_le {n m : Nat} (h : n < 2 ^ m) : n.log2 ≤ m := by
  by_cases z : n = 0
  · subst z; simp
  · have := (Nat.log2_lt z).mpr h
    omega
theorem mulW {i j : Int} (a b : Nat) (h1 : i.natAbs < 2 ^ a) (h2 : j.natAbs < 2 ^ b) (h : a + b < 1000000) : CMulW i j := by
  have := log2_le h1
  have := log2_le h2
  unfold CMulW
  omega
theorem divW {i j : Int} (b : Nat) (h0 : 0 < j) (h2 : j.natAbs < 2 ^ b) (h : b < 9000) : CDivW i j := by
  have := log2_le h2
  exact ⟨h0, by omega⟩
theorem vIx1 (xs : List D) (d e : D) : gIx (.tup (d :: e :: xs)) (.int 1) = some e := vIxT (d :: e :: xs) 1
section
variable {α β : Type} {τ τ' : Env} {d : D} {ds : List D} {c : Str} {x : Bool} {i : Nat}
def seqR (r : SR) (b : MS) : SR := match r with
  | .nx τ' => b τ' | .rt d τ' => .rt d τ' | .bk τ' => .bk τ' | .ct τ' => .ct τ' | .ex c τ' => .ex c τ' | .bad => .bad
theorem x_seq {a b : MS} : sSeq a b τ = seqR (a τ) b := rfl
theorem x_seq1 {b : MS} : seqR (.nx τ) b = b τ := rfl
theorem x_seq2 {b : MS} : seqR (.rt d τ) b = .rt d τ := rfl
theorem x_seq3 {b : MS} : seqR (.bk τ) b = .bk τ := rfl
theorem x_seq4 {b : MS} : seqR (.ct τ) b = .ct τ := rfl
theorem x_seq5 {b : MS} : seqR (.ex c τ) b = .ex c τ := rfl
theorem x_seq6 {b : MS} : seqR .bad b = .bad := rfl
theorem x_nil : sNil τ = .nx τ := rfl
def ifS (r : R Bool) (a b : MS) : SR := r.s fun x τ1 => if x = true then a τ1 else b τ1
theorem x_if {t : MT} {a b : MS} : sIf t a b τ = ifS (t τ) a b := rfl
theorem x_if1 {a b : MS} : ifS (.ok x τ) a b = if x = true then a τ else b τ := rfl
theorem x_if2 {a b : MS} : ifS (.ex c τ) a b = .ex c τ := rfl
theorem x_if3 {a b : MS} : ifS .bad a b = .bad := rfl
def retS (r : R D) : SR := r.s fun d τ1 => .rt d τ1
theorem x_ret {m : ME} : sRet m τ = retS (m τ) := rfl
theorem x_ret1 : retS (.ok d τ) = .rt d τ := rfl
theorem x_ret2 : retS (.ex c τ) = .ex c τ := rfl
theorem x_ret3 : retS .bad = .bad := rfl
theorem x_retN : sRetN τ = .rt .non τ := rfl
def asgG (o : Option Env) : SR := match o with
  | some τ2 => .nx τ2 | none => .bad
def asgS (r : R D) (g : D → Env → Option Env) : SR := r.s fun d τ1 => asgG (g d τ1)
theorem x_asg {m : ME} {g : D → Env → Option Env} : sAsg m g τ = asgS (m τ) g := rfl
theorem x_asg1 {g : D → Env → Option Env} : asgS (.ok d τ) g = asgG (g d τ) := rfl
theorem x_asg2 {g : D → Env → Option Env} : asgS (.ex c τ) g = .ex c τ := rfl
theorem x_asg3 {g : D → Env → Option Env} : asgS .bad g = .bad := rfl
theorem x_asg4 : asgG (some τ) = .nx τ := rfl
theorem x_asg5 : asgG none = .bad := rfl
theorem x_gN : gN i d τ = some (τ.set i (some d)) := rfl
def dropS (r : R D) : SR := r.s fun _ τ1 => .nx τ1
theorem x_drop {m : ME} : sDrop m τ = dropS (m τ) := rfl
theorem x_drop1 : dropS (.ok d τ) = .nx τ := rfl
theorem x_drop2 : dropS (.ex c τ) = .ex c τ := rfl
theorem x_bk : sBk τ = .bk τ := rfl
theorem x_ct : sCt τ = .ct τ := rfl
theorem x_raise : sRaise c τ = .ex c τ := rfl
def tZ' (o : Option D) (τ : Env) : R Bool := match o with
  | some (.bl b) => .ok b τ | _ => .bad
theorem x_tZ {m : MZ} : tZ m τ = tZ' (m τ) τ := rfl
theorem x_tZ1 : tZ' (some (.bl x)) τ = .ok x τ := rfl
theorem x_tZ2 : tZ' none τ = .bad := rfl
def tE' (r : R D) : R Bool := r.bind fun d τ1 => match d with
  | .bl b => .ok b τ1 | _ => .bad
theorem x_tE {m : ME} : tE m τ = tE' (m τ) := rfl
theorem x_tE1 : tE' (.ok (.bl x) τ) = .ok x τ := rfl
theorem x_tE2 : tE' (.ex c τ) = .ex c τ := rfl
theorem x_tE3 : tE' .bad = .bad := rfl
def andT (r : R Bool) (b : MT) : R Bool := r.bind fun x τ1 => if x = true then b τ1 else .ok false τ1
def orT (r : R Bool) (b : MT) : R Bool := r.bind fun x τ1 => if x = true then .ok true τ1 else b τ1
def notT (r : R Bool) : R Bool := r.bind fun x τ1 => .ok (!x) τ1
theorem x_tAnd {a b : MT} : tAnd a b τ = andT (a τ) b := rfl
theorem x_tAnd1 {b : MT} : andT (.ok x τ) b = if x = true then b τ else .ok false τ := rfl
theorem x_tAnd2 {b : MT} : andT (.ex c τ) b = .ex c τ := rfl
theorem x_tAnd3 {b : MT} : andT .bad b = .bad := rfl
theorem x_tOr {a b : MT} : tOr a b τ = orT (a τ) b := rfl
theorem x_tOr1 {b : MT} : orT (.ok x τ) b = if x = true then .ok true τ else b τ := rfl
theorem x_tOr2 {b : MT} : orT (.ex c τ) b = .ex c τ := rfl
theorem x_tOr3 {b : MT} : orT .bad b = .bad := rfl
theorem x_tNot {a : MT} : tNot a τ = notT (a τ) := rfl
theorem x_tNot1 : notT (.ok x τ) = .ok (!x) τ := rfl
theorem x_tNot2 : notT (.ex c τ) = .ex c τ := rfl
theorem x_tNot3 : notT .bad = .bad := rfl
theorem x_tTrue : tTrue τ = .ok true τ := rfl
def z2' (g : D → D → Option D) (a b : Option D) : Option D := a.bind fun a => b.bind fun b => g a b
theorem x_z2 {g : D → D → Option D} {m n : MZ} : z2 g m n τ = z2' g (m τ) (n τ) := rfl
theorem x_z21 {g : D → D → Option D} {a b : D} : z2' g (some a) (some b) = g a b := rfl
def z1' (g : D → Option D) (a : Option D) : Option D := a.bind g
theorem x_z1 {g : D → Option D} {m : MZ} : z1 g m τ = z1' g (m τ) := rfl
theorem x_z11 {g : D → Option D} {a : D} : z1' g (some a) = g a := rfl
def zCb (g : List D → Option D) (a : Option (List D)) : Option D := a.bind g
theorem x_zC {g : List D → Option D} {m : Env → Option (List D)} : zC' g m τ = zCb g (m τ) := rfl
theorem x_zC1 {g : List D → Option D} : zCb g (some ds) = g ds := rfl
def zaC (a : Option D) (b : Option (List D)) : Option (List D) := a.bind fun a => b.bind fun b => some (a :: b)
theorem x_za {m : MZ} {n : Env → Option (List D)} : zaCons m n τ = zaC (m τ) (n τ) := rfl
theorem x_za1 : zaC (some d) (some ds) = some (d :: ds) := rfl
theorem x_za0 : zaNil τ = some [] := rfl
theorem x_zV : zVar i τ = τ.getD i none := rfl
theorem x_zK : zC d τ = some d := rfl
def zCh (g g' : D → D → Option D) (a b : Option D) (c : MZ) (τ : Env) : Option D := a.bind fun x => b.bind fun y => (g x y).bind fun z => match z with
  | .bl true => (c τ).bind fun w => g' y w
  | .bl false => some (.bl false)
  | _ => none
def zCh2 (z : Option D) (g' : D → D → Option D) (y : D) (w : Option D) : Option D := z.bind fun z => match z with
  | .bl true => w.bind fun w => g' y w
  | .bl false => some (.bl false)
  | _ => none
theorem x_ch {g g' : D → D → Option D} {a b e : MZ} : zChain g g' a b e τ = zCh g g' (a τ) (b τ) e τ := rfl
theorem x_ch1 {g g' : D → D → Option D} {a b : D} {e : MZ} : zCh g g' (some a) (some b) e τ = zCh2 (g a b) g' b (e τ) := rfl
theorem x_ch2 {g' : D → D → Option D} {a b : D} : zCh2 (some (.bl x)) g' a (some b) = if x = true then g' a b else some (.bl false) := by cases x <;> rfl
def eZ' (o : Option D) (τ : Env) : R D := match o with
  | some d => if isFz d = true then .ok d τ else .bad
  | none => .bad
theorem x_eZ {m : MZ} : eZ m τ = eZ' (m τ) τ := rfl
theorem x_eZ1 : eZ' (some d) τ = if isFz d = true then .ok d τ else .bad := rfl
theorem x_eZ2 : eZ' none τ = .bad := rfl
def eV' (o : Option D) (i : Nat) (τ : Env) : R D := match o with
  | some d => if isFz d = true then .ok d τ else .ok (freeze d) (τ.set i (some (freeze d)))
  | none => .bad
theorem x_eV : eVar i τ = eV' (τ.getD i none) i τ := rfl
theorem x_eV1 : eV' (some d) i τ = if isFz d = true then .ok d τ else .ok (freeze d) (τ.set i (some (freeze d))) := rfl
def eM' (o : Option D) (i : Nat) (τ : Env) : R D := match o with
  | some d => .ok d (τ.set i none)
  | none => .bad
theorem x_eM : eMv i τ = eM' (τ.getD i none) i τ := rfl
theorem x_eM1 : eM' (some d) i τ = .ok d (τ.set i none) := rfl
theorem x_b1 {a : α} {k : α → Env → R β} : R.bind (.ok a τ) k = k a τ := rfl
theorem x_b2 {k : α → Env → R β} : R.bind (.ex c τ) k = .ex c τ := rfl
theorem x_b3 {k : α → Env → R β} : R.bind .bad k = .bad := rfl
theorem x_s1 {a : α} {k : α → Env → SR} : R.s (.ok a τ) k = k a τ := rfl
theorem x_s2 {k : α → Env → SR} : R.s (.ex c τ) k = .ex c τ := rfl
theorem x_s3 {k : α → Env → SR} : R.s .bad k = .bad := rfl
theorem x_oO : ofO (some d) τ = if isFz d = true then .ok d τ else .bad := rfl
theorem x_oO2 : ofO none τ = .bad := rfl
theorem x_e2 {g : D → D → Option D} {m n : ME} : e2 g m n τ = (m τ).bind fun a τ1 => (n τ1).bind fun b τ2 => ofO (g a b) τ2 := rfl
theorem x_e1 {g : D → Option D} {m : ME} : e1 g m τ = (m τ).bind fun a τ1 => ofO (g a) τ1 := rfl
theorem x_eC {g : List D → Option D} {m : MA} : eC g m τ = (m τ).bind fun a τ1 => ofO (g a) τ1 := rfl
theorem x_aN : aNil τ = .ok [] τ := rfl
theorem x_aC {m : ME} {n : MA} : aCons m n τ = (m τ).bind fun d τ1 => (n τ1).bind fun ds τ2 => .ok (d :: ds) τ2 := rfl
theorem x_tup {m : MA} : eTup m τ = (m τ).bind fun ds τ1 => if ds.length ≤ 1000000 then .ok (.tup (freezeL ds)) τ1 else .bad := rfl
theorem x_lst {m : MA} : eLst m τ = (m τ).bind fun ds τ1 => if ds.length ≤ 1000000 then .ok (.lst true ds) τ1 else .bad := rfl
theorem x_call {g : List D → CR} {m : MA} : eCall g m τ = (m τ).bind fun ds τ1 => ofC (g (freezeL ds)) τ1 := rfl
theorem x_oC1 : ofC (.ok d) τ = .ok d τ := rfl
theorem x_oC2 : ofC (.ex c) τ = .ex c τ := rfl
def c0 (r : CR) (τ : Env) : R D := match r with
  | .ok d => .ok d τ
  | _ => .bad
theorem x_call0 {g : List D → CR} : eCall0 g τ = c0 (g []) τ := rfl
theorem x_call01 : c0 (.ok d) τ = .ok d τ := rfl
def andE (r : R D) (b : ME) : R D := r.bind fun x τ1 => match x with
  | .bl true => b τ1 | .bl false => .ok (.bl false) τ1 | _ => .bad
def orE (r : R D) (b : ME) : R D := r.bind fun x τ1 => match x with
  | .bl false => b τ1 | .bl true => .ok (.bl true) τ1 | _ => .bad
def notE (r : R D) : R D := r.bind fun x τ1 => match x with
  | .bl b => .ok (.bl (!b)) τ1 | _ => .bad
def ifE (r : R Bool) (a b : ME) : R D := r.bind fun x τ1 => if x = true then a τ1 else b τ1
theorem x_eAnd {a b : ME} : eAnd a b τ = andE (a τ) b := rfl
theorem x_eAnd1 {b : ME} : andE (.ok (.bl x) τ) b = if x = true then b τ else .ok (.bl false) τ := by cases x <;> rfl
theorem x_eOr {a b : ME} : eOr a b τ = orE (a τ) b := rfl
theorem x_eOr1 {b : ME} : orE (.ok (.bl x) τ) b = if x = true then .ok (.bl true) τ else b τ := by cases x <;> rfl
theorem x_eNot {a : ME} : eNot a τ = notE (a τ) := rfl
theorem x_eNot1 : notE (.ok (.bl x) τ) = .ok (.bl (!x)) τ := rfl
theorem x_eIf {t : MT} {a b : ME} : eIf t a b τ = ifE (t τ) a b := rfl
theorem x_eIf1 {a b : ME} : ifE (.ok x τ) a b = if x = true then a τ else b τ := rfl
theorem x_fz_int (i : Int) : isFz (.int i) = true := rfl
theorem x_fr_int (i : Int) : freeze (.int i) = .int i := rfl
theorem x_fz_bl (i : Bool) : isFz (.bl i) = true := rfl
theorem x_fr_bl (i : Bool) : freeze (.bl i) = .bl i := rfl
theorem x_fz_str (i : Str) : isFz (.str i) = true := rfl
theorem x_fr_str (i : Str) : freeze (.str i) = .str i := rfl
theorem x_fz_ty (i : String) : isFz (.ty i) = true := rfl
theorem x_fr_ty (i : String) : freeze (.ty i) = .ty i := rfl
theorem x_fz_tup (i : List D) : isFz (.tup i) = true := rfl
theorem x_fr_tup (i : List D) : freeze (.tup i) = .tup i := rfl
theorem x_fz_cst (i : List D) : isFz (.cst i) = true := rfl
theorem x_fr_cst (i : List D) : freeze (.cst i) = .cst i := rfl
theorem x_fz_lst_false (i : List D) : isFz (.lst false i) = true := rfl
theorem x_fr_lst_false (i : List D) : freeze (.lst false i) = .lst false i := rfl
theorem x_fz_non : isFz .non = true := rfl
theorem x_fr_non : freeze .non = .non := rfl
theorem x_fz_lt : isFz (.lst true ds) = false := rfl
theorem x_fr_lt : freeze (.lst true ds) = .lst false (freezeL ds) := rfl
theorem x_fL0 : freezeL [] = [] := rfl
theorem x_fL1 : freezeL (d :: ds) = freeze d :: freezeL ds := rfl
def callR (r : SR) : CR := match r with
  | .nx _ => .ok .non | .rt d _ => .ok d | .ex c _ => .ex c | _ => .bad
theorem x_cF {n N : Nat} {b : MS} : callF n N b ds = if ds.length = n then callR (b (ds.map some ++ List.replicate (N - n) none)) else .bad := rfl
theorem x_cR1 : callR (.nx τ) = .ok .non := rfl
theorem x_cR2 : callR (.rt d τ) = .ok d := rfl
theorem x_cR3 : callR (.ex c τ) = .ex c := rfl
def iL' (d : D) (τ : Env) : R (List D) := match d with
  | .lst _ es => .ok es τ | _ => .bad
def iT' (d : D) (τ : Env) : R (List D) := match d with
  | .tup es => .ok es τ | _ => .bad
def iS' (d : D) (τ : Env) : R (List D) := match d with
  | .str z => .ok (strD z) τ | _ => .bad
def iR1' (d : List D) (τ : Env) : R (List D) := match d with
  | [.int j] => if -(2 ^ 62) ≤ j ∧ j < 2 ^ 62 then .ok (rangeD 0 j.toNat) τ else .bad
  | _ => .bad
def iR2' (d : List D) (τ : Env) : R (List D) := match d with
  | [.int i, .int j] => if -(2 ^ 62) ≤ i ∧ i < 2 ^ 62 ∧ -(2 ^ 62) ≤ j ∧ j < 2 ^ 62 then .ok (rangeD i (j - i).toNat) τ else .bad
  | _ => .bad
def iE' (d : List D) (τ : Env) : R (List D) := match d with
  | [.lst _ es] => .ok (enumD 0 es) τ | _ => .bad
def iV' (d : List D) (τ : Env) : R (List D) := match d with
  | [.lst _ es] => .ok es.reverse τ | _ => .bad
def iZ' (d : List D) (τ : Env) : R (List D) := match d with
  | [.lst _ es, .lst _ fs] => .ok (zipD es fs) τ | _ => .bad
theorem x_iL {m : ME} : iL m τ = (m τ).bind fun d τ1 => iL' (freeze d) τ1 := rfl
theorem x_iL1 {b : Bool} : iL' (.lst b ds) τ = .ok ds τ := rfl
theorem x_iT {m : ME} : iT m τ = (m τ).bind fun d τ1 => iT' d τ1 := rfl
theorem x_iT1 : iT' (.tup ds) τ = .ok ds τ := rfl
theorem x_iS {m : ME} : iS m τ = (m τ).bind fun d τ1 => iS' d τ1 := rfl
theorem x_iS1 {z : Str} : iS' (.str z) τ = .ok (strD z) τ := rfl
theorem x_iR1 {m : MA} : iR1 m τ = (m τ).bind fun d τ1 => iR1' d τ1 := rfl
theorem x_iR11 {j : Int} (h1 : -4611686018427387904 ≤ j) (h2 : j < 4611686018427387904) : iR1' [.int j] τ = .ok (rangeD 0 j.toNat) τ := if_pos ⟨h1, h2⟩
theorem x_iR2 {m : MA} : iR2 m τ = (m τ).bind fun d τ1 => iR2' d τ1 := rfl
theorem x_iR21 {i j : Int} (h1 : -4611686018427387904 ≤ i) (h2 : i < 4611686018427387904) (h3 : -4611686018427387904 ≤ j) (h4 : j < 4611686018427387904) : iR2' [.int i, .int j] τ = .ok (rangeD i (j - i).toNat) τ := if_pos ⟨h1, h2, h3, h4⟩
theorem x_iE {m : MA} : iE m τ = (m τ).bind fun d τ1 => iE' (freezeL d) τ1 := rfl
theorem x_iE1 {b : Bool} : iE' [.lst b ds] τ = .ok (enumD 0 ds) τ := rfl
theorem x_iV {m : MA} : iV m τ = (m τ).bind fun d τ1 => iV' (freezeL d) τ1 := rfl
theorem x_iV1 {b : Bool} : iV' [.lst b ds] τ = .ok ds.reverse τ := rfl
theorem x_iZ {m : MA} : iZ m τ = (m τ).bind fun d τ1 => iZ' (freezeL d) τ1 := rfl
theorem x_iZ1 {b b' : Bool} {es : List D} : iZ' [.lst b ds, .lst b' es] τ = .ok (zipD ds es) τ := rfl
def forB (r : SR) (k : Env → SR) : SR := match r with
  | .nx τ2 => k τ2 | .ct τ2 => k τ2 | .bk τ2 => .nx τ2 | .rt d τ2 => .rt d τ2 | .ex c τ2 => .ex c τ2 | .bad => .bad
def forG (o : Option Env) (b : MS) (k : Env → SR) : SR := match o with
  | none => .bad | some τ1 => forB (b τ1) k
theorem x_for {m : MA} {g : D → Env → Option Env} {b : MS} : sFor m g b τ = (m τ).s fun items τ1 => forL g b items τ1 := rfl
theorem x_fo0 {g : D → Env → Option Env} {b : MS} : forL g b [] τ = .nx τ := rfl
theorem x_fo1 {g : D → Env → Option Env} {b : MS} : forL g b (d :: ds) τ = forG (g d τ) b (forL g b ds) := rfl
theorem x_fo2 {b : MS} {k : Env → SR} : forG (some τ) b k = forB (b τ) k := rfl
theorem x_fo3 {k : Env → SR} : forB (.nx τ) k = k τ := rfl
theorem x_fo4 {k : Env → SR} : forB (.ct τ) k = k τ := rfl
theorem x_fo5 {k : Env → SR} : forB (.bk τ) k = .nx τ := rfl
theorem x_fo6 {k : Env → SR} : forB (.rt d τ) k = .rt d τ := rfl
theorem x_fo7 {k : Env → SR} : forB (.ex c τ) k = .ex c τ := rfl
def gT' (n : Nat) (g : List D → Env → Option Env) (es : List D) (τ : Env) : Option Env := if es.length = n then g es τ else none
theorem x_gT {n : Nat} {g : List D → Env → Option Env} : gT n g (.tup ds) τ = if ds.length = n then g ds τ else none := rfl
theorem x_gC {g : D → Env → Option Env} {h : List D → Env → Option Env} : gCons' g h (d :: ds) τ = (g d τ).bind (h ds) := rfl
theorem x_gC0 : gNil' [] τ = some τ := rfl
def tryB (sub : Str → Option Bool) (r : SR) (su : MS) : SR := match r with
  | .ex c τ' => (match sub c with | some true => noEx (su τ') | some false => .ex c τ' | none => .bad)
  | .nx τ' => .nx τ' | .rt d τ' => .rt d τ' | .bk τ' => .bk τ' | .ct τ' => .ct τ' | .bad => .bad
def tryC (o : Option Bool) (c : Str) (τ' : Env) (su : MS) : SR := match o with
  | some true => noEx (su τ') | some false => .ex c τ' | none => .bad
theorem x_try {sub : Str → Option Bool} {b su : MS} : sTry sub b su τ = tryB sub (b τ) su := rfl
theorem x_try1 {sub : Str → Option Bool} {su : MS} : tryB sub (.nx τ) su = .nx τ := rfl
theorem x_try2 {sub : Str → Option Bool} {su : MS} : tryB sub (.rt d τ) su = .rt d τ := rfl
theorem x_try3 {sub : Str → Option Bool} {su : MS} : tryB sub (.ex c τ) su = tryC (sub c) c τ su := rfl
theorem x_try4 {su : MS} : tryC (some true) c τ su = noEx (su τ) := rfl
theorem x_try5 {su : MS} : tryC (some false) c τ su = .ex c τ := rfl
theorem x_nx1 : noEx (.nx τ) = .nx τ := rfl
theorem x_nx2 : noEx (.rt d τ) = .rt d τ := rfl
theorem x_try6 {sub : Str → Option Bool} {su : MS} : tryB sub (.bk τ) su = .bk τ := rfl
theorem x_try7 {sub : Str → Option Bool} {su : MS} : tryB sub (.ct τ) su = .ct τ := rfl
theorem x_nx3 : noEx (.bk τ) = .bk τ := rfl
theorem x_nx4 : noEx (.ct τ) = .ct τ := rfl
def appS (o : Option D) (i : Nat) (d : D) (τ : Env) : SR := match o with
  | some (.lst true es) => if es.length < 1000000 then .nx (τ.set i (some (.lst true (es ++ [d])))) else .bad
  | _ => .bad
def appT (o : Option D) (i : Nat) (r : R D) : SR := match o with
  | some (.lst true _) => r.s fun d τ1 => appS (τ1.getD i none) i d τ1
  | _ => .bad
theorem x_app {m : ME} : sApp i m τ = appT (τ.getD i none) i (m τ) := rfl
theorem x_app1 {r : R D} : appT (some (.lst true ds)) i r = r.s fun d τ1 => appS (τ1.getD i none) i d τ1 := rfl
theorem x_app2 : appS (some (.lst true ds)) i d τ = if ds.length < 1000000 then .nx (τ.set i (some (.lst true (ds ++ [d])))) else .bad := rfl
def lcE (r : R (List D)) : R D := match r with
  | .ok acc τ2 => .ok (.lst true acc) τ2
  | _ => .bad
def lcG (o : Option Env) (own : List Nat) (g : D → Env → Option Env) (t : MT) (m : ME) (r acc : List D) : R (List D) := match o with
  | none => .bad
  | some τ1 => (t τ1).bind fun b τ2 => if b = true then (m τ2).bind fun e τ3 => if acc.length < 1000000 then lcL own g t m r (acc ++ [e]) (wipeE τ3 own) else .bad else lcL own g t m r acc (wipeE τ2 own)
theorem x_lc {own : List Nat} {it : MA} {g : D → Env → Option Env} {t : MT} {m : ME} : eLc own it g t m τ = (it τ).bind fun items τ1 => lcE (lcL own g t m items [] (wipeE τ1 own)) := rfl
theorem x_lcE : lcE (.ok ds τ) = .ok (.lst true ds) τ := rfl
theorem x_lc0 {own : List Nat} {g : D → Env → Option Env} {t : MT} {m : ME} : lcL own g t m [] ds τ = .ok ds τ := rfl
theorem x_lc1 {own : List Nat} {g : D → Env → Option Env} {t : MT} {m : ME} {r : List D} : lcL own g t m (d :: r) ds τ = lcG (g d τ) own g t m r ds := rfl
theorem x_lcG {own : List Nat} {g : D → Env → Option Env} {t : MT} {m : ME} {r : List D} : lcG (some τ) own g t m r ds = (t τ).bind fun b τ2 => if b = true then (m τ2).bind fun e τ3 => if ds.length < 1000000 then lcL own g t m r (ds ++ [e]) (wipeE τ3 own) else .bad else lcL own g t m r ds (wipeE τ2 own) := rfl
theorem x_w0 : wipeE τ [] = τ := rfl
theorem x_w1 {own : List Nat} : wipeE τ (i :: own) = (wipeE τ own).set i none := rfl
theorem vMinL4 (m : Bool) (a b c d : Int) : gMinL [.lst m [.int a, .int b, .int c, .int d]] = some (.int (minI a [b, c, d])) := rfl
theorem vMaxL4 (m : Bool) (a b c d : Int) : gMaxL [.lst m [.int a, .int b, .int c, .int d]] = some (.int (maxI a [b, c, d])) := rfl
theorem vAll {m : Bool} {ds : List D} {bs : List Bool} (h : boolsOf ds = some bs) : gAll [.lst m ds] = some (.bl (bs.all id)) := by
  show (match boolsOf ds with | some ns => some (D.bl (ns.all id)) | _ => none) = _
  rw [h]
theorem vAny {m : Bool} {ds : List D} {bs : List Bool} (h : boolsOf ds = some bs) : gAny [.lst m ds] = some (.bl (bs.any id)) := by
  show (match boolsOf ds with | some ns => some (D.bl (ns.any id)) | _ => none) = _
  rw [h]
theorem vAll3 (m : Bool) (a b c : Bool) : gAll [.lst m [.bl a, .bl b, .bl c]] = some (.bl ([a, b, c].all id)) := rfl
theorem vAny3 (m : Bool) (a b c : Bool) : gAny [.lst m [.bl a, .bl b, .bl c]] = some (.bl ([a, b, c].any id)) := rfl
theorem vAll4 (m : Bool) (a b c d : Bool) : gAll [.lst m [.bl a, .bl b, .bl c, .bl d]] = some (.bl ([a, b, c, d].all id)) := rfl
theorem vAny4 (m : Bool) (a b c d : Bool) : gAny [.lst m [.bl a, .bl b, .bl c, .bl d]] = some (.bl ([a, b, c, d].any id)) := rfl
def whC (r : R Bool) (b : MS) (k : Env → SR) : SR := match r with
  | .ok true τ1 => forB (b τ1) k | .ok false τ1 => .nx τ1 | .ex e τ1 => .ex e τ1 | .bad => .bad
theorem x_wh {t : MT} {b : MS} {n : Nat} : whileM t b (n + 1) τ = whC (t τ) b (whileM t b n) := by
  show (match t τ with | .ok true τ1 => _ | .ok false τ1 => _ | .ex e τ1 => _ | .bad => _) = _
  unfold whC forB
  cases t τ with
  | ok x τ1 => cases x with
    | true => cases b τ1 <;> rfl
    | false => rfl
  | ex e τ1 => rfl
  | bad => rfl
theorem x_wh1 {b : MS} {k : Env → SR} : whC (.ok true τ) b k = forB (b τ) k := rfl
theorem x_wh2 {b : MS} {k : Env → SR} : whC (.ok false τ) b k = .nx τ := rfl
theorem x_wh0 {f : Env → Nat} {t : MT} {b : MS} : sWhile f t b τ = whileM t b (f τ) τ := rfl
theorem x_abs {i : Int} : gAbs [.int i] = some (.int (if i < 0 then -i else i)) := rfl
theorem vI_ii {i : Int} : gIsi [.int i, .ty "int"] = some (.bl true) := rfl
theorem vI_ib {i : Int} : gIsi [.int i, .ty "bool"] = some (.bl false) := rfl
theorem vI_it {i : Int} : gIsi [.int i, .ty "tuple"] = some (.bl false) := rfl
theorem vI_il {i : Int} : gIsi [.int i, .ty "list"] = some (.bl false) := rfl
theorem vI_is {i : Int} : gIsi [.int i, .ty "str"] = some (.bl false) := rfl
theorem vI_bb {i : Bool} : gIsi [.bl x, .ty "bool"] = some (.bl true) := rfl
theorem vI_bi {i : Bool} : gIsi [.bl x, .ty "int"] = some (.bl true) := rfl
theorem vI_tt {i : Bool} : gIsi [.tup ds, .ty "tuple"] = some (.bl true) := rfl
theorem vI_tl {i : Bool} : gIsi [.tup ds, .ty "list"] = some (.bl false) := rfl
theorem vI_ti {i : Bool} : gIsi [.tup ds, .ty "int"] = some (.bl false) := rfl
theorem vI_ll {i : Bool} : gIsi [.lst i ds, .ty "list"] = some (.bl true) := rfl
theorem vI_lt {i : Bool} : gIsi [.lst i ds, .ty "tuple"] = some (.bl false) := rfl
theorem vI_ss {i : Str} : gIsi [.str i, .ty "str"] = some (.bl true) := rfl
theorem vEqB {i j : Bool} : gEq (.bl i) (.bl j) = some (.bl (i == j)) := rfl
theorem vNeB {i j : Bool} : gNe (.bl i) (.bl j) = some (.bl (!(i == j))) := rfl
def asB (i : Nat) (sub : Str → Option Bool) (r : SR) (su : Str → MS) : SR := match r with
  | .ex c τ' => tryAs i (sub c) c τ' su
  | .nx τ' => .nx τ' | .rt d τ' => .rt d τ' | .bk τ' => .bk τ' | .ct τ' => .ct τ' | .bad => .bad
theorem x_ta {sub : Str → Option Bool} {b : MS} {su : Str → MS} : sTryAs i sub b su τ = asB i sub (b τ) su := rfl
theorem x_ta1 {sub : Str → Option Bool} {su : Str → MS} : asB i sub (.ex c τ) su = tryAs i (sub c) c τ su := rfl
theorem x_ta2 {sub : Str → Option Bool} {su : Str → MS} : asB i sub (.nx τ) su = .nx τ := rfl
theorem x_ta3 {su : Str → MS} : tryAs i (some true) c τ su = if i < τ.length then endAs i (su c (τ.set i none)) else .bad := rfl
theorem x_ta4 : endAs i (.nx τ) = .nx (τ.set i none) := rfl
theorem x_ta5 : endAs i (.rt d τ) = .rt d τ := rfl
theorem x_is : eIs (some x) τ = .ok (.bl x) τ := rfl
theorem nc_0 : ((0 : Nat) : Int) = 0 := rfl
theorem nc_1 : ((1 : Nat) : Int) = 1 := rfl
theorem nc_2 : ((2 : Nat) : Int) = 2 := rfl
theorem nc_3 : ((3 : Nat) : Int) = 3 := rfl
theorem nc_4 : ((4 : Nat) : Int) = 4 := rfl
theorem nc_5 : ((5 : Nat) : Int) = 5 := rfl
theorem nc_6 : ((6 : Nat) : Int) = 6 := rfl
theorem nc_7 : ((7 : Nat) : Int) = 7 := rfl
theorem nc_8 : ((8 : Nat) : Int) = 8 := rfl
theorem nc_9 : ((9 : Nat) : Int) = 9 := rfl
theorem nc_10 : ((10 : Nat) : Int) = 10 := rfl
theorem nc_11 : ((11 : Nat) : Int) = 11 := rfl
def mxI (i j : Int) : Int := if j > i then j else i
def mnI (i j : Int) : Int := if j < i then j else i
theorem mxI_le (i j : Int) : i ≤ mxI i j ∧ j ≤ mxI i j ∧ (mxI i j = i ∨ mxI i j = j) := by unfold mxI; split <;> omega
theorem mnI_le (i j : Int) : mnI i j ≤ i ∧ mnI i j ≤ j ∧ (mnI i j = i ∨ mnI i j = j) := by unfold mnI; split <;> omega
theorem vMax2 {i j : Int} : gMax2 [.int i, .int j] = some (.int (mxI i j)) := rfl
theorem vMin2 {i j : Int} : gMin2 [.int i, .int j] = some (.int (mnI i j)) := rfl
theorem vIsN0 : gIsN .non .non = some (.bl true) := rfl
theorem vIsN1 {i : List D} : gIsN (.tup i) .non = some (.bl false) := rfl
theorem vNotN0 : gNotN .non .non = some (.bl false) := rfl
theorem vNotN1 {i : List D} : gNotN (.tup i) .non = some (.bl true) := rfl
theorem vIsN2 {i : Int} : gIsN (.int i) .non = some (.bl false) := rfl
theorem vNotN2 {i : Int} : gNotN (.int i) .non = some (.bl true) := rfl
def loD (ds : List D) (τ : Env) : R D := match ds with
  | [.lst _ es] => .ok (.lst true es) τ
  | [.tup es] => .ok (.lst true es) τ
  | _ => .bad
theorem x_lo {m : MA} : eLstOf m τ = (m τ).bind fun ds τ1 => loD (freezeL ds) τ1 := rfl
theorem x_lo1 {b : Bool} : loD [.lst b ds] τ = .ok (.lst true ds) τ := rfl
theorem x_lo2 : loD [.tup ds] τ = .ok (.lst true ds) τ := rfl
theorem vAll2 (m : Bool) (a b : Bool) : gAll [.lst m [.bl a, .bl b]] = some (.bl ([a, b].all id)) := rfl
theorem vAny2 (m : Bool) (a b : Bool) : gAny [.lst m [.bl a, .bl b]] = some (.bl ([a, b].any id)) := rfl
def slE (o : Option D) (τ : Env) : R D := match o with
  | some x => .ok x τ | none => .bad
theorem x_sl {f : D → Option Int → Option Int → Option D} {m : ME} {p r : Env → R (Option Int)} : eSlice f m p r τ = (m τ).bind fun d τ1 => slR (freeze d) p r f τ1 := rfl
theorem x_sl1 {f : D → Option Int → Option Int → Option D} {p r : Env → R (Option Int)} : slR d p r f τ = (p τ).bind fun lo τ1 => (r τ1).bind fun hi τ2 => slE (f d lo hi) τ2 := rfl
theorem x_sl2 : slE (some d) τ = .ok d τ := rfl
theorem x_pn : pNone τ = .ok none τ := rfl
def psI (d : D) (τ : Env) : R (Option Int) := match d with
  | .int i => .ok (some i) τ | _ => .bad
theorem x_ps {m : ME} : pSome m τ = (m τ).bind fun d τ1 => psI d τ1 := rfl
theorem x_ps1 {i : Int} : psI (.int i) τ = .ok (some i) τ := rfl
theorem x_cutL {b : Bool} {l h : Option Int} : cutLd (.lst b ds) l h = some (.lst true (cutL ds l h)) := rfl
theorem x_cutC {l h : Option Int} : cutLd (.cst ds) l h = some (.lst true (cutL ds l h)) := rfl
theorem okP_str {i : Str} (h : PySem.PyData.strOk i = true) : okP (.str i) = true := by
  show (true && (PySem.PyData.canLay0 (.str i) && decide (PySem.PyData.depth (.str i) ≤ 64))) = true
  rw [show PySem.PyData.canLay0 (.str i) = true from h]
  rfl
theorem vEqS {i j : Str} (h1 : PySem.PyData.strOk i = true) (h2 : PySem.PyData.strOk j = true) : gEq (.str i) (.str j) = some (.bl (i == j)) := if_pos ⟨okP_str h1, okP_str h2⟩
theorem vNeS {i j : Str} (h1 : PySem.PyData.strOk i = true) (h2 : PySem.PyData.strOk j = true) : gNe (.str i) (.str j) = some (.bl (!(i == j))) := if_pos ⟨okP_str h1, okP_str h2⟩
end
end Bn

namespace Lw
open PySem PySem.Spec PyProof.Rows L2 Bn
/-! ### the text -/
def topS (i : Nat) : Stmt := PySem.Challenge.pw_boxnarrow_k09_back_through_powers.main.body.getD i (.Pass ⟨0, 0, 0, 0⟩)
abbrev s__law_cell_at : Stmt := topS 10
theorem sc__law_cell_at : FnScope ["_law_script", "_law_k"] ["_law_script", "_law_k"] (defScope s__law_cell_at) := ⟨rfl, rfl, rfl, by decide +kernel, rfl, by decide +kernel, by decide +kernel⟩
abbrev s__law_x : Stmt := topS 18
theorem sc__law_x : FnScope ["_law_script", "_law_kind", "_law_size", "_law_low", "_law_high"] ["_law_script", "_law_kind"] (defScope s__law_x) := ⟨rfl, rfl, rfl, by decide +kernel, rfl, by decide +kernel, by decide +kernel⟩
abbrev s__law_power : Stmt := topS 13
theorem sc__law_power : FnScope ["_law_a", "_law_many", "_law_found", "_law_turn"] ["_law_a", "_law_many"] (defScope s__law_power) := ⟨rfl, rfl, rfl, by decide +kernel, rfl, by decide +kernel, by decide +kernel⟩
abbrev s_multiplied : Stmt := topS 1
theorem sc_multiplied : FnScope ["a", "many", "found", "turn"] ["a", "many"] (defScope s_multiplied) := ⟨rfl, rfl, rfl, by decide +kernel, rfl, by decide +kernel, by decide +kernel⟩
abbrev s_root_below : Stmt := topS 5
theorem sc_root_below : FnScope ["low", "high", "many", "bound", "place"] ["low", "high", "many", "bound"] (defScope s_root_below) := ⟨rfl, rfl, rfl, by decide +kernel, rfl, by decide +kernel, by decide +kernel⟩
abbrev s_root_above : Stmt := topS 6
theorem sc_root_above : FnScope ["low", "high", "many", "bound", "place"] ["low", "high", "many", "bound"] (defScope s_root_above) := ⟨rfl, rfl, rfl, by decide +kernel, rfl, by decide +kernel, by decide +kernel⟩
abbrev s_rising : Stmt := topS 7
theorem sc_rising : FnScope ["x", "many", "low", "high", "first", "last"] ["x", "many", "low", "high"] (defScope s_rising) := ⟨rfl, rfl, rfl, by decide +kernel, rfl, by decide +kernel, by decide +kernel⟩
abbrev s_hull : Stmt := topS 2
theorem sc_hull : FnScope ["a", "b"] ["a", "b"] (defScope s_hull) := ⟨rfl, rfl, rfl, by decide +kernel, rfl, by decide +kernel, by decide +kernel⟩
abbrev s_both : Stmt := topS 4
theorem sc_both : FnScope ["a", "b"] ["a", "b"] (defScope s_both) := ⟨rfl, rfl, rfl, by decide +kernel, rfl, by decide +kernel, by decide +kernel⟩
abbrev s_back_power : Stmt := topS 8
theorem sc_back_power : FnScope ["z", "x", "many", "grid", "share", "low", "high", "found", "turned"] ["z", "x", "many", "grid"] (defScope s_back_power) := ⟨rfl, rfl, rfl, by decide +kernel, rfl, by decide +kernel, by decide +kernel⟩
abbrev s__law_range : Stmt := topS 14
theorem sc__law_range : FnScope ["_law_low", "_law_high", "_law_many", "_law_ends"] ["_law_low", "_law_high", "_law_many"] (defScope s__law_range) := ⟨rfl, rfl, rfl, by decide +kernel, rfl, by decide +kernel, by decide +kernel⟩
abbrev s__law_meets : Stmt := topS 15
theorem sc__law_meets : FnScope ["_law_low", "_law_high", "_law_many", "_law_least", "_law_most", "_law_found"] ["_law_low", "_law_high", "_law_many", "_law_least", "_law_most"] (defScope s__law_meets) := ⟨rfl, rfl, rfl, by decide +kernel, rfl, by decide +kernel, by decide +kernel⟩
abbrev s__law_first : Stmt := topS 16
theorem sc__law_first : FnScope ["_law_x_here", "_law_many", "_law_least", "_law_most", "_law_low", "_law_high", "_law_place", "_law_back", "_law_here"] ["_law_x_here", "_law_many", "_law_least", "_law_most"] (defScope s__law_first) := ⟨rfl, rfl, rfl, by decide +kernel, rfl, by decide +kernel, by decide +kernel⟩
abbrev s__law_due : Stmt := topS 17
theorem sc__law_due : FnScope ["_law_z", "_law_x_here", "_law_many", "_law_share", "_law_least", "_law_most", "_law_low", "_law_high"] ["_law_z", "_law_x_here", "_law_many", "_law_share"] (defScope s__law_due) := ⟨rfl, rfl, rfl, by decide +kernel, rfl, by decide +kernel, by decide +kernel⟩
abbrev s__law_whole : Stmt := topS 11
theorem sc__law_whole : FnScope ["_law_found"] ["_law_found"] (defScope s__law_whole) := ⟨rfl, rfl, rfl, by decide +kernel, rfl, by decide +kernel, by decide +kernel⟩
abbrev s__law_span : Stmt := topS 12
theorem sc__law_span : FnScope ["_law_found"] ["_law_found"] (defScope s__law_span) := ⟨rfl, rfl, rfl, by decide +kernel, rfl, by decide +kernel, by decide +kernel⟩
abbrev s_law : Stmt := topS 19
theorem sc_law : FnScope ["_law_script", "_law_kind", "_law_grid", "_law_x_here", "_law_many", "_law_share", "_law_one", "_law_other", "_law_ends", "_law_z", "_law_planted", "_law_low", "_law_found", "_law_due_here"] ["_law_script"] (defScope s_law) := ⟨rfl, rfl, rfl, by decide +kernel, rfl, by decide +kernel, by decide +kernel⟩
/-! ### the functions -/
def m__law_cell_at : MS := (sSeq (sIf (tZ (z2 gLt (zVar 1) (zC' gLen (zaCons (zVar 0) zaNil)))) (sRet (eZ (z2 gIx (zVar 0) (zVar 1)))) sNil)
    (sRet (eZ (zC (.int 0)))))
def f__law_cell_at : List D → CR := callF 2 2 m__law_cell_at
def m__law_x : MS := (sSeq (sAsg (eZ (z2 gPow (zC (.int 10)) (zC (.int 15)))) (gN 2))
    (sSeq (sIf (tZ (z2 gEq (z2 gMod (zVar 1) (zC (.int 2))) (zC (.int 1)))) (sAsg (eZ (zC (.int 40))) (gN 2)) sNil)
    (sSeq (sAsg (e2 gSub (e2 gMod (eCall f__law_cell_at (aCons (eVar 0) (aCons (eZ (zC (.int 2))) aNil))) (eZ (z2 gAdd (z2 gMul (zC (.int 2)) (zVar 2)) (zC (.int 1))))) (eVar 2)) (gN 3))
    (sSeq (sAsg (e2 gAdd (eVar 3) (e2 gMod (eCall f__law_cell_at (aCons (eVar 0) (aCons (eZ (zC (.int 3))) aNil))) (eZ (z2 gAdd (zVar 2) (zC (.int 1)))))) (gN 4))
    (sSeq (sIf (tZ (z2 gEq (z2 gMod (z2 gDiv (zVar 1) (zC (.int 2))) (zC (.int 3))) (zC (.int 1)))) (sRet (eTup (aCons (eZ (zC' gMin2 (zaCons (zVar 3) (zaCons (z1 gNeg (zVar 3)) zaNil)))) (aCons (eZ (zC' gMax2 (zaCons (zC (.int 0)) (zaCons (zVar 4) zaNil)))) aNil)))) sNil)
    (sSeq (sIf (tZ (z2 gEq (z2 gMod (z2 gDiv (zVar 1) (zC (.int 2))) (zC (.int 3))) (zC (.int 2)))) (sRet (eTup (aCons (eVar 3) (aCons (e2 gAdd (eVar 3) (e2 gMod (eCall f__law_cell_at (aCons (eVar 0) (aCons (eZ (zC (.int 3))) aNil))) (eZ (zC (.int 3))))) aNil)))) sNil)
    (sRet (eTup (aCons (eVar 3) (aCons (eVar 4) aNil))))))))))
def f__law_x : List D → CR := callF 2 5 m__law_x
def m__law_power : MS := (sSeq (sAsg (eZ (zC (.int 1))) (gN 2))
    (sSeq (sFor (iR1 (aCons (eVar 1) aNil)) (gN 3) (sAsg (eZ (z2 gMul (zVar 2) (zVar 0))) (gN 2)))
    (sRet (eMv 2))))
def f__law_power : List D → CR := callF 2 4 m__law_power
def m_multiplied : MS := (sSeq (sAsg (eZ (zC (.int 1))) (gN 2))
    (sSeq (sFor (iR1 (aCons (eVar 1) aNil)) (gN 3) (sAsg (eZ (z2 gMul (zVar 2) (zVar 0))) (gN 2)))
    (sRet (eMv 2))))
def f_multiplied : List D → CR := callF 2 4 m_multiplied
def fuel_root_below1 : Bn.Env → Nat := fun τ => match τ.getD 0 none, τ.getD 1 none with | some (.int x), some (.int y) => (y - x).toNat + 1 | _, _ => 0
def u_root_below_1 : MS := (sRet (eMv 0))
def m_root_below : MS := (sSeq (sWhile fuel_root_below1 (tZ (z2 gLt (zVar 0) (zVar 1))) (sSeq (sAsg (eZ (z2 gDiv (z2 gAdd (z2 gAdd (zVar 0) (zVar 1)) (zC (.int 1))) (zC (.int 2)))) (gN 4))
    (sIf (tE (e2 gLe (eCall f_multiplied (aCons (eVar 4) (aCons (eVar 2) aNil))) (eVar 3))) (sAsg (eVar 4) (gN 0)) (sAsg (eZ (z2 gSub (zVar 4) (zC (.int 1)))) (gN 1))))) u_root_below_1)
def f_root_below : List D → CR := callF 4 5 m_root_below
def fuel_root_above1 : Bn.Env → Nat := fun τ => match τ.getD 0 none, τ.getD 1 none with | some (.int x), some (.int y) => (y - x).toNat + 1 | _, _ => 0
def u_root_above_1 : MS := (sRet (eMv 0))
def m_root_above : MS := (sSeq (sWhile fuel_root_above1 (tZ (z2 gLt (zVar 0) (zVar 1))) (sSeq (sAsg (eZ (z2 gDiv (z2 gAdd (zVar 0) (zVar 1)) (zC (.int 2)))) (gN 4))
    (sIf (tE (e2 gGe (eCall f_multiplied (aCons (eVar 4) (aCons (eVar 2) aNil))) (eVar 3))) (sAsg (eVar 4) (gN 1)) (sAsg (eZ (z2 gAdd (zVar 4) (zC (.int 1)))) (gN 0))))) u_root_above_1)
def f_root_above : List D → CR := callF 4 5 m_root_above
def m_rising : MS := (sSeq (sIf (tOr (tE (e2 gLt (eCall f_multiplied (aCons (eZ (z2 gIx (zVar 0) (zC (.int 1)))) (aCons (eVar 1) aNil))) (eVar 2))) (tE (e2 gGt (eCall f_multiplied (aCons (eZ (z2 gIx (zVar 0) (zC (.int 0)))) (aCons (eVar 1) aNil))) (eVar 3)))) (sRet (eZ (zC .non))) sNil)
    (sSeq (sAsg (eZ (z2 gIx (zVar 0) (zC (.int 0)))) (gN 4))
    (sSeq (sIf (tE (e2 gLt (eCall f_multiplied (aCons (eZ (z2 gIx (zVar 0) (zC (.int 0)))) (aCons (eVar 1) aNil))) (eVar 2))) (sAsg (eCall f_root_below (aCons (eZ (z2 gIx (zVar 0) (zC (.int 0)))) (aCons (eZ (z2 gIx (zVar 0) (zC (.int 1)))) (aCons (eVar 1) (aCons (eVar 2) aNil))))) (gN 4)) sNil)
    (sSeq (sAsg (eZ (z2 gIx (zVar 0) (zC (.int 1)))) (gN 5))
    (sSeq (sIf (tE (e2 gGt (eCall f_multiplied (aCons (eZ (z2 gIx (zVar 0) (zC (.int 1)))) (aCons (eVar 1) aNil))) (eVar 3))) (sAsg (eCall f_root_above (aCons (eZ (z2 gIx (zVar 0) (zC (.int 0)))) (aCons (eZ (z2 gIx (zVar 0) (zC (.int 1)))) (aCons (eVar 1) (aCons (eVar 3) aNil))))) (gN 5)) sNil)
    (sRet (eTup (aCons (eVar 4) (aCons (eVar 5) aNil)))))))))
def f_rising : List D → CR := callF 4 6 m_rising
def m_hull : MS := (sRet (eTup (aCons (eZ (zC' gMin2 (zaCons (z2 gIx (zVar 0) (zC (.int 0))) (zaCons (z2 gIx (zVar 1) (zC (.int 0))) zaNil)))) (aCons (eZ (zC' gMax2 (zaCons (z2 gIx (zVar 0) (zC (.int 1))) (zaCons (z2 gIx (zVar 1) (zC (.int 1))) zaNil)))) aNil))))
def f_hull : List D → CR := callF 2 2 m_hull
def m_both : MS := (sSeq (sIf (tZ (z2 gIsN (zVar 0) (zC .non))) (sRet (eMv 1)) sNil)
    (sSeq (sIf (tZ (z2 gIsN (zVar 1) (zC .non))) (sRet (eMv 0)) sNil)
    (sRet (eCall f_hull (aCons (eVar 0) (aCons (eVar 1) aNil))))))
def f_both : List D → CR := callF 2 2 m_both
def m_back_power : MS := (sSeq (sAsg (eCall f_multiplied (aCons (eVar 3) (aCons (eZ (z2 gSub (zVar 2) (zC (.int 1)))) aNil))) (gN 4))
    (sSeq (sAsg (eZ (z2 gMul (z2 gIx (zVar 0) (zC (.int 0))) (zVar 4))) (gN 5))
    (sSeq (sAsg (eZ (z2 gMul (z2 gIx (zVar 0) (zC (.int 1))) (zVar 4))) (gN 6))
    (sSeq (sIf (tZ (z2 gEq (z2 gMod (zVar 2) (zC (.int 2))) (zC (.int 1)))) (sRet (eCall f_rising (aCons (eVar 1) (aCons (eVar 2) (aCons (eVar 5) (aCons (eVar 6) aNil)))))) sNil)
    (sSeq (sIf (tZ (z2 gLt (zVar 6) (zC (.int 0)))) (sRet (eZ (zC .non))) sNil)
    (sSeq (sAsg (eZ (zC' gMax2 (zaCons (zVar 5) (zaCons (zC (.int 0)) zaNil)))) (gN 5))
    (sSeq (sAsg (eZ (zC .non)) (gN 7))
    (sSeq (sIf (tZ (z2 gGe (z2 gIx (zVar 1) (zC (.int 1))) (zC (.int 0)))) (sAsg (eCall f_rising (aCons (eTup (aCons (eZ (zC' gMax2 (zaCons (z2 gIx (zVar 1) (zC (.int 0))) (zaCons (zC (.int 0)) zaNil)))) (aCons (eZ (z2 gIx (zVar 1) (zC (.int 1)))) aNil))) (aCons (eVar 2) (aCons (eVar 5) (aCons (eVar 6) aNil))))) (gN 7)) sNil)
    (sSeq (sIf (tZ (z2 gLe (z2 gIx (zVar 1) (zC (.int 0))) (zC (.int 0)))) (sSeq (sAsg (eCall f_rising (aCons (eTup (aCons (eZ (zC' gMax2 (zaCons (z1 gNeg (z2 gIx (zVar 1) (zC (.int 1)))) (zaCons (zC (.int 0)) zaNil)))) (aCons (eZ (z1 gNeg (z2 gIx (zVar 1) (zC (.int 0))))) aNil))) (aCons (eVar 2) (aCons (eVar 5) (aCons (eVar 6) aNil))))) (gN 8))
    (sIf (tZ (z2 gNotN (zVar 8) (zC .non))) (sAsg (eCall f_both (aCons (eVar 7) (aCons (eTup (aCons (eZ (z1 gNeg (z2 gIx (zVar 8) (zC (.int 1))))) (aCons (eZ (z1 gNeg (z2 gIx (zVar 8) (zC (.int 0))))) aNil))) aNil))) (gN 7)) sNil)) sNil)
    (sRet (eMv 7)))))))))))
def f_back_power : List D → CR := callF 4 9 m_back_power
def m__law_range : MS := (sSeq (sAsg (eLst (aCons (eCall f__law_power (aCons (eVar 0) (aCons (eVar 2) aNil))) (aCons (eCall f__law_power (aCons (eVar 1) (aCons (eVar 2) aNil))) aNil))) (gN 3))
    (sSeq (sIf (tAnd (tZ (z2 gEq (z2 gMod (zVar 2) (zC (.int 2))) (zC (.int 0)))) (tAnd (tZ (z2 gLt (zVar 0) (zC (.int 0)))) (tZ (z2 gLt (zC (.int 0)) (zVar 1))))) (sRet (eTup (aCons (eZ (zC (.int 0))) (aCons (eZ (zC' gMaxL (zaCons (zVar 3) zaNil))) aNil)))) sNil)
    (sRet (eTup (aCons (eZ (zC' gMinL (zaCons (zVar 3) zaNil))) (aCons (eZ (zC' gMaxL (zaCons (zVar 3) zaNil))) aNil))))))
def f__law_range : List D → CR := callF 3 4 m__law_range
def m__law_meets : MS := (sSeq (sAsg (eCall f__law_range (aCons (eVar 0) (aCons (eVar 1) (aCons (eVar 2) aNil)))) (gN 5))
    (sRet (eAnd (eZ (z2 gLe (z2 gIx (zVar 5) (zC (.int 0))) (zVar 4))) (eZ (z2 gLe (zVar 3) (z2 gIx (zVar 5) (zC (.int 1))))))))
def f__law_meets : List D → CR := callF 5 6 m__law_meets
def fuel__law_first1 : Bn.Env → Nat := fun τ => match τ.getD 4 none, τ.getD 5 none with | some (.int x), some (.int y) => (y - x).toNat + 1 | _, _ => 0
def u__law_first_7 : MS := (sRet (eZ (z2 gSub (zVar 4) (zC (.int 1)))))
def u__law_first_6 : MS := (sSeq (sIf (tOr (tAnd (tZ (z2 gLt (zVar 7) (zVar 2))) (tZ (z2 gEq (zVar 8) (zVar 2)))) (tAnd (tZ (z2 gGt (zVar 7) (zVar 3))) (tZ (z2 gEq (zVar 8) (zVar 3))))) (sRet (eMv 4)) sNil) u__law_first_7)
def u__law_first_5 : MS := (sSeq (sAsg (eCall f__law_power (aCons (eVar 4) (aCons (eVar 1) aNil))) (gN 8)) u__law_first_6)
def u__law_first_4 : MS := (sSeq (sAsg (eCall f__law_power (aCons (eZ (z2 gSub (zVar 4) (zC (.int 1)))) (aCons (eVar 1) aNil))) (gN 7)) u__law_first_5)
def u__law_first_3 : MS := (sSeq (sIf (tZ (z2 gEq (zVar 4) (z2 gIx (zVar 0) (zC (.int 0))))) (sRet (eMv 4)) sNil) u__law_first_4)
def u__law_first_2 : MS := (sSeq (sWhile fuel__law_first1 (tZ (z2 gLt (zVar 4) (zVar 5))) (sSeq (sAsg (eZ (z2 gDiv (z2 gAdd (zVar 4) (zVar 5)) (zC (.int 2)))) (gN 6))
    (sIf (tE (eCall f__law_meets (aCons (eZ (z2 gIx (zVar 0) (zC (.int 0)))) (aCons (eVar 6) (aCons (eVar 1) (aCons (eVar 2) (aCons (eVar 3) aNil))))))) (sAsg (eVar 6) (gN 5)) (sAsg (eZ (z2 gAdd (zVar 6) (zC (.int 1)))) (gN 4))))) u__law_first_3)
def u__law_first_1 : MS := (sSeq (sAsg (eZ (z2 gIx (zVar 0) (zC (.int 1)))) (gN 5)) u__law_first_2)
def m__law_first : MS := (sSeq (sAsg (eZ (z2 gIx (zVar 0) (zC (.int 0)))) (gN 4)) u__law_first_1)
def f__law_first : List D → CR := callF 4 9 m__law_first
def m__law_due : MS := (sSeq (sAsg (eZ (z2 gMul (z2 gIx (zVar 0) (zC (.int 0))) (zVar 3))) (gN 4))
    (sSeq (sAsg (eZ (z2 gMul (z2 gIx (zVar 0) (zC (.int 1))) (zVar 3))) (gN 5))
    (sSeq (sIf (tNot (tE (eCall f__law_meets (aCons (eZ (z2 gIx (zVar 1) (zC (.int 0)))) (aCons (eZ (z2 gIx (zVar 1) (zC (.int 1)))) (aCons (eVar 2) (aCons (eVar 4) (aCons (eVar 5) aNil)))))))) (sRet (eZ (zC .non))) sNil)
    (sSeq (sAsg (eCall f__law_first (aCons (eVar 1) (aCons (eVar 2) (aCons (eVar 4) (aCons (eVar 5) aNil))))) (gN 6))
    (sSeq (sIf (tZ (z2 gEq (z2 gMod (zVar 2) (zC (.int 2))) (zC (.int 0)))) (sAsg (eCall f__law_first (aCons (eTup (aCons (eZ (z1 gNeg (z2 gIx (zVar 1) (zC (.int 1))))) (aCons (eZ (z1 gNeg (z2 gIx (zVar 1) (zC (.int 0))))) aNil))) (aCons (eVar 2) (aCons (eVar 4) (aCons (eVar 5) aNil))))) (gN 7)) (sAsg (eCall f__law_first (aCons (eTup (aCons (eZ (z1 gNeg (z2 gIx (zVar 1) (zC (.int 1))))) (aCons (eZ (z1 gNeg (z2 gIx (zVar 1) (zC (.int 0))))) aNil))) (aCons (eVar 2) (aCons (eZ (z1 gNeg (zVar 5))) (aCons (eZ (z1 gNeg (zVar 4))) aNil))))) (gN 7)))
    (sRet (eTup (aCons (eVar 6) (aCons (eZ (z1 gNeg (zVar 7))) aNil)))))))))
def f__law_due : List D → CR := callF 4 8 m__law_due
def m__law_whole : MS := (sRet (eAnd (eZ (zC' gIsi (zaCons (zVar 0) (zaCons (zC (.ty "int")) zaNil)))) (eNot (eZ (zC' gIsi (zaCons (zVar 0) (zaCons (zC (.ty "bool")) zaNil)))))))
def f__law_whole : List D → CR := callF 1 1 m__law_whole
def m__law_span : MS := (sSeq (sIf (tOr (tNot (tZ (zC' gIsi (zaCons (zVar 0) (zaCons (zC (.ty "tuple")) zaNil))))) (tZ (z2 gNe (zC' gLen (zaCons (zVar 0) zaNil)) (zC (.int 2))))) (sRet (eZ (zC (.bl false)))) sNil)
    (sRet (eAnd (eCall f__law_whole (aCons (eZ (z2 gIx (zVar 0) (zC (.int 0)))) aNil)) (eAnd (eCall f__law_whole (aCons (eZ (z2 gIx (zVar 0) (zC (.int 1)))) aNil)) (eZ (z2 gLe (z2 gIx (zVar 0) (zC (.int 0))) (z2 gIx (zVar 0) (zC (.int 1)))))))))
def f__law_span : List D → CR := callF 1 1 m__law_span
def u_law_16 : MS := (sRet (eOr (eNot (eVar 10)) (eAnd (eZ (z2 gLe (z2 gIx (zVar 12) (zC (.int 0))) (zC' gMin2 (zaCons (zVar 6) (zaCons (zVar 7) zaNil))))) (eZ (z2 gLe (zC' gMax2 (zaCons (zVar 6) (zaCons (zVar 7) zaNil))) (z2 gIx (zVar 12) (zC (.int 1))))))))
def u_law_15 : MS := (sSeq (sIf (tOr (tNot (tE (eCall f__law_span (aCons (eVar 12) aNil)))) (tZ (z2 gNe (zVar 12) (zVar 13)))) (sRet (eZ (zC (.bl false)))) sNil) u_law_16)
def u_law_14 : MS := (sSeq (sIf (tZ (z2 gIsN (zVar 13) (zC .non))) (sRet (eAnd (eZ (z2 gIsN (zVar 12) (zC .non))) (eNot (eVar 10)))) sNil) u_law_15)
def u_law_13 : MS := (sSeq (sAsg (eCall f__law_due (aCons (eVar 9) (aCons (eVar 3) (aCons (eVar 4) (aCons (eVar 5) aNil))))) (gN 13)) u_law_14)
def u_law_12 : MS := (sSeq (sAsg (eCall f_back_power (aCons (eVar 9) (aCons (eVar 3) (aCons (eVar 4) (aCons (eVar 2) aNil))))) (gN 12)) u_law_13)
def u_law_11 : MS := (sSeq (sIf (tZ (z2 gEq (z2 gMod (z2 gDiv (zVar 1) (zC (.int 6))) (zC (.int 3))) (zC (.int 0)))) (sSeq (sAsg (e2 gSub (e2 gMod (eCall f__law_cell_at (aCons (eVar 0) (aCons (eZ (zC (.int 7))) aNil))) (eZ (z2 gMul (zC (.int 2)) (z2 gPow (zC (.int 10)) (zC (.int 20)))))) (eZ (z2 gPow (zC (.int 10)) (zC (.int 20))))) (gN 11))
    (sSeq (sIf (tZ (z2 gEq (z2 gMod (zVar 1) (zC (.int 2))) (zC (.int 1)))) (sAsg (e2 gSub (e2 gMod (eCall f__law_cell_at (aCons (eVar 0) (aCons (eZ (zC (.int 7))) aNil))) (eZ (zC (.int 4001)))) (eZ (zC (.int 2000)))) (gN 11)) sNil)
    (sAsg (eTup (aCons (eVar 11) (aCons (e2 gAdd (eVar 11) (e2 gDiv (e2 gMod (eCall f__law_cell_at (aCons (eVar 0) (aCons (eZ (zC (.int 8))) aNil))) (eZ (z2 gPow (zC (.int 10)) (zC (.int 20))))) (e2 gAdd (eZ (zC (.int 1))) (e2 gMod (eCall f__law_cell_at (aCons (eVar 0) (aCons (eZ (zC (.int 9))) aNil))) (eZ (z2 gPow (zC (.int 10)) (zC (.int 20)))))))) aNil))) (gN 9)))) sNil) u_law_12)
def u_law_10 : MS := (sSeq (sAsg (eAnd (eZ (z2 gGt (z2 gMod (z2 gDiv (zVar 1) (zC (.int 6))) (zC (.int 3))) (zC (.int 0)))) (e2 gGt (e2 gMod (eCall f__law_cell_at (aCons (eVar 0) (aCons (eZ (zC (.int 8))) aNil))) (eZ (zC (.int 3)))) (eZ (zC (.int 0))))) (gN 10)) u_law_11)
def u_law_9 : MS := (sSeq (sAsg (eTup (aCons (e2 gSub (eZ (zC' gMinL (zaCons (zVar 8) zaNil))) (e2 gMod (eCall f__law_cell_at (aCons (eVar 0) (aCons (eZ (zC (.int 7))) aNil))) (eZ (zC (.int 2))))) (aCons (e2 gAdd (eZ (zC' gMaxL (zaCons (zVar 8) zaNil))) (e2 gMod (eCall f__law_cell_at (aCons (eVar 0) (aCons (eZ (zC (.int 8))) aNil))) (eZ (zC (.int 3))))) aNil))) (gN 9)) u_law_10)
def u_law_8 : MS := (sSeq (sAsg (eLst (aCons (e2 gDiv (eCall f__law_power (aCons (eVar 6) (aCons (eVar 4) aNil))) (eVar 5)) (aCons (e2 gDiv (eCall f__law_power (aCons (eVar 7) (aCons (eVar 4) aNil))) (eVar 5)) aNil))) (gN 8)) u_law_9)
def u_law_7 : MS := (sSeq (sAsg (e2 gAdd (eZ (z2 gIx (zVar 3) (zC (.int 0)))) (e2 gMod (eCall f__law_cell_at (aCons (eVar 0) (aCons (eZ (zC (.int 6))) aNil))) (eZ (z2 gAdd (z2 gSub (z2 gIx (zVar 3) (zC (.int 1))) (z2 gIx (zVar 3) (zC (.int 0)))) (zC (.int 1)))))) (gN 7)) u_law_8)
def u_law_6 : MS := (sSeq (sAsg (e2 gAdd (eZ (z2 gIx (zVar 3) (zC (.int 0)))) (e2 gMod (eCall f__law_cell_at (aCons (eVar 0) (aCons (eZ (zC (.int 5))) aNil))) (eZ (z2 gAdd (z2 gSub (z2 gIx (zVar 3) (zC (.int 1))) (z2 gIx (zVar 3) (zC (.int 0)))) (zC (.int 1)))))) (gN 6)) u_law_7)
def u_law_5 : MS := (sSeq (sAsg (eCall f__law_power (aCons (eVar 2) (aCons (eZ (z2 gSub (zVar 4) (zC (.int 1)))) aNil))) (gN 5)) u_law_6)
def u_law_4 : MS := (sSeq (sAsg (e2 gAdd (eZ (zC (.int 2))) (e2 gMod (eCall f__law_cell_at (aCons (eVar 0) (aCons (eZ (zC (.int 4))) aNil))) (eZ (zC (.int 5))))) (gN 4)) u_law_5)
def u_law_3 : MS := (sSeq (sAsg (eCall f__law_x (aCons (eVar 0) (aCons (eVar 1) aNil))) (gN 3)) u_law_4)
def u_law_2 : MS := (sSeq (sIf (tE (e2 gEq (e2 gMod (eCall f__law_cell_at (aCons (eVar 0) (aCons (eZ (zC (.int 0))) aNil))) (eZ (zC (.int 2)))) (eZ (zC (.int 1))))) (sAsg (e2 gAdd (eZ (zC (.int 1))) (e2 gMod (e2 gDiv (eCall f__law_cell_at (aCons (eVar 0) (aCons (eZ (zC (.int 0))) aNil))) (eZ (zC (.int 2)))) (eZ (zC (.int 1000000))))) (gN 2)) sNil) u_law_3)
def u_law_1 : MS := (sSeq (sAsg (e2 gAdd (eZ (zC (.int 1))) (e2 gMod (e2 gDiv (eCall f__law_cell_at (aCons (eVar 0) (aCons (eZ (zC (.int 0))) aNil))) (eZ (zC (.int 2)))) (eZ (zC (.int 12))))) (gN 2)) u_law_2)
def m_law : MS := (sSeq (sAsg (eCall f__law_cell_at (aCons (eVar 0) (aCons (eZ (zC (.int 1))) aNil))) (gN 1)) u_law_1)
def f_law : List D → CR := callF 1 14 m_law
end Lw

namespace Lw
open Bn
theorem cell_ok (ns : List Int) (k : Nat) : f__law_cell_at [.cst (ns.map D.int), .int k] = .ok (.int (ns.getD k 0)) := by
  simp only [f__law_cell_at, m__law_cell_at, x_seq, x_seq1, x_seq2, x_seq3, x_seq4, x_seq5, x_seq6, x_nil, x_if, x_if1, x_if2, x_if3, x_ret, x_ret1, x_ret2, x_ret3, x_retN, x_asg, x_asg1, x_asg2, x_asg3, x_asg4, x_asg5, x_gN, x_drop, x_drop1, x_drop2, x_bk, x_ct, x_raise, x_tZ, x_tZ1, x_tZ2, x_tE, x_tE1, x_tE2, x_tE3, x_tAnd, x_tAnd1, x_tAnd2, x_tAnd3, x_tOr, x_tOr1, x_tOr2, x_tOr3, x_tNot, x_tNot1, x_tNot2, x_tNot3, x_tTrue, x_z2, x_z21, x_z1, x_z11, x_zC, x_zC1, x_za, x_za1, x_za0, x_zV, x_zK, x_ch, x_ch1, x_ch2, x_eZ, x_eZ1, x_eZ2, x_eV, x_eV1, x_eM, x_eM1, x_b1, x_b2, x_b3, x_s1, x_s2, x_s3, x_oO, x_oO2, x_e2, x_e1, x_eC, x_aN, x_aC, x_tup, x_lst, x_call, x_oC1, x_oC2, x_call0, x_call01, x_eAnd, x_eAnd1, x_eOr, x_eOr1, x_eNot, x_eNot1, x_eIf, x_eIf1, x_fz_int, x_fr_int, x_fz_bl, x_fr_bl, x_fz_str, x_fr_str, x_fz_ty, x_fr_ty, x_fz_tup, x_fr_tup, x_fz_cst, x_fr_cst, x_fz_lst_false, x_fr_lst_false, x_fz_non, x_fr_non, x_fz_lt, x_fr_lt, x_fL0, x_fL1, x_cF, x_cR1, x_cR2, x_cR3, x_iL, x_iL1, x_iT, x_iT1, x_iS, x_iS1, x_iR1, x_iR11, x_iR2, x_iR21, x_iE, x_iE1, x_iV, x_iV1, x_iZ, x_iZ1, x_for, x_fo0, x_fo1, x_fo2, x_fo3, x_fo4, x_fo5, x_fo6, x_fo7, x_gT, x_gC, x_gC0, x_try, x_try1, x_try2, x_try3, x_try4, x_try5, x_nx1, x_nx2, x_try6, x_try7, x_nx3, x_nx4, x_app, x_app1, x_app2, x_lc, x_lcE, x_lc0, x_lc1, x_lcG, x_w0, x_w1, vMinL4, vMaxL4, vAll3, vAny3, vAll4, vAny4, x_wh1, x_wh2, x_wh0, x_abs, vI_ii, vI_ib, vI_it, vI_il, vI_is, vI_bb, vI_bi, vI_tt, vI_tl, vI_ti, vI_ll, vI_lt, vI_ss, vEqB, vNeB, x_ta, x_ta1, x_ta2, x_ta3, x_ta4, x_ta5, x_is, nc_0, nc_1, nc_2, nc_3, nc_4, nc_5, nc_6, nc_7, nc_8, nc_9, nc_10, nc_11, vMax2, vMin2, vIsN0, vIsN1, vNotN0, vNotN1, vIsN2, vNotN2, x_lo, x_lo1, x_lo2, vAll2, vAny2, x_sl, x_sl1, x_sl2, x_pn, x_ps, x_ps1, x_cutL, x_cutC, vEqS, vNeS, List.getD_cons_zero, List.getD_cons_succ, List.set_cons_zero, List.set_cons_succ, List.map_cons, List.map_nil, List.replicate_zero, List.replicate_succ, List.length_cons, List.length_nil, List.cons_append, List.nil_append, Option.bind_some, if_true, if_false, Bool.false_eq_true, Nat.reduceSub, Nat.reduceAdd, Nat.reduceLeDiff, Nat.reduceLT, vAdd, vSub, vLt, vLe, vGt, vGe, vNeg, vEq, vNe, vEq2, vNe2, vMod, vDiv, vMul, vPow, Int.reduceToNat, vIx0, vIx1, vLenT, vLenC, vLenL, reduceIte, decide_true, decide_false, Bool.not_true, Bool.not_false, beq_self_eq_true, Bool.and_true, Bool.true_and, Bool.and_self, Bool.and_false, Bool.false_and]
  by_cases h : k < ns.length
  · simp [h, vIxC, x_seq, x_seq1, x_seq2, x_seq3, x_seq4, x_seq5, x_seq6, x_nil, x_if, x_if1, x_if2, x_if3, x_ret, x_ret1, x_ret2, x_ret3, x_retN, x_asg, x_asg1, x_asg2, x_asg3, x_asg4, x_asg5, x_gN, x_drop, x_drop1, x_drop2, x_bk, x_ct, x_raise, x_tZ, x_tZ1, x_tZ2, x_tE, x_tE1, x_tE2, x_tE3, x_tAnd, x_tAnd1, x_tAnd2, x_tAnd3, x_tOr, x_tOr1, x_tOr2, x_tOr3, x_tNot, x_tNot1, x_tNot2, x_tNot3, x_tTrue, x_z2, x_z21, x_z1, x_z11, x_zC, x_zC1, x_za, x_za1, x_za0, x_zV, x_zK, x_ch, x_ch1, x_ch2, x_eZ, x_eZ1, x_eZ2, x_eV, x_eV1, x_eM, x_eM1, x_b1, x_b2, x_b3, x_s1, x_s2, x_s3, x_oO, x_oO2, x_e2, x_e1, x_eC, x_aN, x_aC, x_tup, x_lst, x_call, x_oC1, x_oC2, x_call0, x_call01, x_eAnd, x_eAnd1, x_eOr, x_eOr1, x_eNot, x_eNot1, x_eIf, x_eIf1, x_fz_int, x_fr_int, x_fz_bl, x_fr_bl, x_fz_str, x_fr_str, x_fz_ty, x_fr_ty, x_fz_tup, x_fr_tup, x_fz_cst, x_fr_cst, x_fz_lst_false, x_fr_lst_false, x_fz_non, x_fr_non, x_fz_lt, x_fr_lt, x_fL0, x_fL1, x_cF, x_cR1, x_cR2, x_cR3, x_iL, x_iL1, x_iT, x_iT1, x_iS, x_iS1, x_iR1, x_iR11, x_iR2, x_iR21, x_iE, x_iE1, x_iV, x_iV1, x_iZ, x_iZ1, x_for, x_fo0, x_fo1, x_fo2, x_fo3, x_fo4, x_fo5, x_fo6, x_fo7, x_gT, x_gC, x_gC0, x_try, x_try1, x_try2, x_try3, x_try4, x_try5, x_nx1, x_nx2, x_try6, x_try7, x_nx3, x_nx4, x_app, x_app1, x_app2, x_lc, x_lcE, x_lc0, x_lc1, x_lcG, x_w0, x_w1, vMinL4, vMaxL4, vAll3, vAny3, vAll4, vAny4, x_wh1, x_wh2, x_wh0, x_abs, vI_ii, vI_ib, vI_it, vI_il, vI_is, vI_bb, vI_bi, vI_tt, vI_tl, vI_ti, vI_ll, vI_lt, vI_ss, vEqB, vNeB, x_ta, x_ta1, x_ta2, x_ta3, x_ta4, x_ta5, x_is, nc_0, nc_1, nc_2, nc_3, nc_4, nc_5, nc_6, nc_7, nc_8, nc_9, nc_10, nc_11, vMax2, vMin2, vIsN0, vIsN1, vNotN0, vNotN1, vIsN2, vNotN2, x_lo, x_lo1, x_lo2, vAll2, vAny2, x_sl, x_sl1, x_sl2, x_pn, x_ps, x_ps1, x_cutL, x_cutC, vEqS, vNeS, List.getD_cons_zero, List.getD_cons_succ, List.set_cons_zero, List.set_cons_succ, List.map_cons, List.map_nil, List.replicate_zero, List.replicate_succ, List.length_cons, List.length_nil, List.cons_append, List.nil_append, Option.bind_some, if_true, if_false, Bool.false_eq_true, Nat.reduceSub, Nat.reduceAdd, Nat.reduceLeDiff, Nat.reduceLT, vAdd, vSub, vLt, vLe, vGt, vGe, vNeg, vEq, vNe, vEq2, vNe2, vMod, vDiv, vMul, vPow, Int.reduceToNat, vIx0, vIx1, vLenT, vLenC, vLenL, reduceIte, decide_true, decide_false, Bool.not_true, Bool.not_false, beq_self_eq_true, Bool.and_true, Bool.true_and, Bool.and_self, Bool.and_false, Bool.false_and]
  · simp [h, x_seq, x_seq1, x_seq2, x_seq3, x_seq4, x_seq5, x_seq6, x_nil, x_if, x_if1, x_if2, x_if3, x_ret, x_ret1, x_ret2, x_ret3, x_retN, x_asg, x_asg1, x_asg2, x_asg3, x_asg4, x_asg5, x_gN, x_drop, x_drop1, x_drop2, x_bk, x_ct, x_raise, x_tZ, x_tZ1, x_tZ2, x_tE, x_tE1, x_tE2, x_tE3, x_tAnd, x_tAnd1, x_tAnd2, x_tAnd3, x_tOr, x_tOr1, x_tOr2, x_tOr3, x_tNot, x_tNot1, x_tNot2, x_tNot3, x_tTrue, x_z2, x_z21, x_z1, x_z11, x_zC, x_zC1, x_za, x_za1, x_za0, x_zV, x_zK, x_ch, x_ch1, x_ch2, x_eZ, x_eZ1, x_eZ2, x_eV, x_eV1, x_eM, x_eM1, x_b1, x_b2, x_b3, x_s1, x_s2, x_s3, x_oO, x_oO2, x_e2, x_e1, x_eC, x_aN, x_aC, x_tup, x_lst, x_call, x_oC1, x_oC2, x_call0, x_call01, x_eAnd, x_eAnd1, x_eOr, x_eOr1, x_eNot, x_eNot1, x_eIf, x_eIf1, x_fz_int, x_fr_int, x_fz_bl, x_fr_bl, x_fz_str, x_fr_str, x_fz_ty, x_fr_ty, x_fz_tup, x_fr_tup, x_fz_cst, x_fr_cst, x_fz_lst_false, x_fr_lst_false, x_fz_non, x_fr_non, x_fz_lt, x_fr_lt, x_fL0, x_fL1, x_cF, x_cR1, x_cR2, x_cR3, x_iL, x_iL1, x_iT, x_iT1, x_iS, x_iS1, x_iR1, x_iR11, x_iR2, x_iR21, x_iE, x_iE1, x_iV, x_iV1, x_iZ, x_iZ1, x_for, x_fo0, x_fo1, x_fo2, x_fo3, x_fo4, x_fo5, x_fo6, x_fo7, x_gT, x_gC, x_gC0, x_try, x_try1, x_try2, x_try3, x_try4, x_try5, x_nx1, x_nx2, x_try6, x_try7, x_nx3, x_nx4, x_app, x_app1, x_app2, x_lc, x_lcE, x_lc0, x_lc1, x_lcG, x_w0, x_w1, vMinL4, vMaxL4, vAll3, vAny3, vAll4, vAny4, x_wh1, x_wh2, x_wh0, x_abs, vI_ii, vI_ib, vI_it, vI_il, vI_is, vI_bb, vI_bi, vI_tt, vI_tl, vI_ti, vI_ll, vI_lt, vI_ss, vEqB, vNeB, x_ta, x_ta1, x_ta2, x_ta3, x_ta4, x_ta5, x_is, nc_0, nc_1, nc_2, nc_3, nc_4, nc_5, nc_6, nc_7, nc_8, nc_9, nc_10, nc_11, vMax2, vMin2, vIsN0, vIsN1, vNotN0, vNotN1, vIsN2, vNotN2, x_lo, x_lo1, x_lo2, vAll2, vAny2, x_sl, x_sl1, x_sl2, x_pn, x_ps, x_ps1, x_cutL, x_cutC, vEqS, vNeS, List.getD_cons_zero, List.getD_cons_succ, List.set_cons_zero, List.set_cons_succ, List.map_cons, List.map_nil, List.replicate_zero, List.replicate_succ, List.length_cons, List.length_nil, List.cons_append, List.nil_append, Option.bind_some, if_true, if_false, Bool.false_eq_true, Nat.reduceSub, Nat.reduceAdd, Nat.reduceLeDiff, Nat.reduceLT, vAdd, vSub, vLt, vLe, vGt, vGe, vNeg, vEq, vNe, vEq2, vNe2, vMod, vDiv, vMul, vPow, Int.reduceToNat, vIx0, vIx1, vLenT, vLenC, vLenL, reduceIte, decide_true, decide_false, Bool.not_true, Bool.not_false, beq_self_eq_true, Bool.and_true, Bool.true_and, Bool.and_self, Bool.and_false, Bool.false_and]
theorem span_ok (a b : Int) : f__law_span [.tup [.int a, .int b]] = .ok (.bl (decide (a ≤ b))) := by rfl
theorem whole_ok (a : Int) : f__law_whole [.int a] = .ok (.bl true) := by rfl
theorem lim {w k : Nat} (hw : w ≤ 1000) (hk : k ≤ 6) : w * k + 1 + w < 1000000 := by
  have := Nat.mul_le_mul hw hk
  omega
theorem pow_size {x : Int} {m : Nat} (h : x.natAbs < 2 ^ m) (k : Nat) : (x ^ k).natAbs < 2 ^ (m * k + 1) := by
  rw [Int.natAbs_pow, Nat.pow_succ, Nat.pow_mul]
  have := Nat.pow_le_pow_left (Nat.le_of_lt h) k
  have : 0 < (2 ^ m) ^ k := Nat.pow_pos (Nat.pow_pos (by decide))
  omega
theorem range_len (n : Nat) : (rangeD 0 n).length = n := by simp [rangeD]
theorem lpow_loop {x : Int} {w : Nat} (hw : w ≤ 1000) (hx : x.natAbs < 2 ^ w) (M : D) {b : MS} (hb : b = sAsg (eZ (Bn.z2 gMul (zVar 2) (zVar 0))) (gN 2)) :
    ∀ (items : List D) (k : Nat) (r : Option D), k + items.length ≤ 6 → ∃ r', forL (gN 3) b items [some (.int x), some M, some (.int (x ^ k)), r] = .nx [some (.int x), some M, some (.int (x ^ (k + items.length))), r']
  | [], k, r, _ => ⟨r, rfl⟩
  | d :: ds, k, r, hk => by
    have hk' : k + 1 + ds.length ≤ 6 := by rw [List.length_cons] at hk; omega
    obtain ⟨r', e⟩ := lpow_loop hw hx M hb ds (k + 1) (some d) hk'
    have w : L2.CMulW (x ^ k) x := mulW (w * k + 1) w (pow_size hx k) hx (lim hw (by omega))
    refine ⟨r', ?_⟩
    have eb : b [some (.int x), some M, some (.int (x ^ k)), some d] = .nx [some (.int x), some M, some (.int (x ^ (k + 1))), some d] := by
      subst hb
      simp only [x_seq, x_seq1, x_seq2, x_seq3, x_seq4, x_seq5, x_seq6, x_nil, x_if, x_if1, x_if2, x_if3, x_ret, x_ret1, x_ret2, x_ret3, x_retN, x_asg, x_asg1, x_asg2, x_asg3, x_asg4, x_asg5, x_gN, x_drop, x_drop1, x_drop2, x_bk, x_ct, x_raise, x_tZ, x_tZ1, x_tZ2, x_tE, x_tE1, x_tE2, x_tE3, x_tAnd, x_tAnd1, x_tAnd2, x_tAnd3, x_tOr, x_tOr1, x_tOr2, x_tOr3, x_tNot, x_tNot1, x_tNot2, x_tNot3, x_tTrue, x_z2, x_z21, x_z1, x_z11, x_zC, x_zC1, x_za, x_za1, x_za0, x_zV, x_zK, x_ch, x_ch1, x_ch2, x_eZ, x_eZ1, x_eZ2, x_eV, x_eV1, x_eM, x_eM1, x_b1, x_b2, x_b3, x_s1, x_s2, x_s3, x_oO, x_oO2, x_e2, x_e1, x_eC, x_aN, x_aC, x_tup, x_lst, x_call, x_oC1, x_oC2, x_call0, x_call01, x_eAnd, x_eAnd1, x_eOr, x_eOr1, x_eNot, x_eNot1, x_eIf, x_eIf1, x_fz_int, x_fr_int, x_fz_bl, x_fr_bl, x_fz_str, x_fr_str, x_fz_ty, x_fr_ty, x_fz_tup, x_fr_tup, x_fz_cst, x_fr_cst, x_fz_lst_false, x_fr_lst_false, x_fz_non, x_fr_non, x_fz_lt, x_fr_lt, x_fL0, x_fL1, x_cF, x_cR1, x_cR2, x_cR3, x_iL, x_iL1, x_iT, x_iT1, x_iS, x_iS1, x_iR1, x_iR11, x_iR2, x_iR21, x_iE, x_iE1, x_iV, x_iV1, x_iZ, x_iZ1, x_for, x_fo0, x_fo1, x_fo2, x_fo3, x_fo4, x_fo5, x_fo6, x_fo7, x_gT, x_gC, x_gC0, x_try, x_try1, x_try2, x_try3, x_try4, x_try5, x_nx1, x_nx2, x_try6, x_try7, x_nx3, x_nx4, x_app, x_app1, x_app2, x_lc, x_lcE, x_lc0, x_lc1, x_lcG, x_w0, x_w1, vMinL4, vMaxL4, vAll3, vAny3, vAll4, vAny4, x_wh1, x_wh2, x_wh0, x_abs, vI_ii, vI_ib, vI_it, vI_il, vI_is, vI_bb, vI_bi, vI_tt, vI_tl, vI_ti, vI_ll, vI_lt, vI_ss, vEqB, vNeB, x_ta, x_ta1, x_ta2, x_ta3, x_ta4, x_ta5, x_is, nc_0, nc_1, nc_2, nc_3, nc_4, nc_5, nc_6, nc_7, nc_8, nc_9, nc_10, nc_11, vMax2, vMin2, vIsN0, vIsN1, vNotN0, vNotN1, vIsN2, vNotN2, x_lo, x_lo1, x_lo2, vAll2, vAny2, x_sl, x_sl1, x_sl2, x_pn, x_ps, x_ps1, x_cutL, x_cutC, vEqS, vNeS, List.getD_cons_zero, List.getD_cons_succ, List.set_cons_zero, List.set_cons_succ, List.map_cons, List.map_nil, List.replicate_zero, List.replicate_succ, List.length_cons, List.length_nil, List.cons_append, List.nil_append, Option.bind_some, if_true, if_false, Bool.false_eq_true, Nat.reduceSub, Nat.reduceAdd, Nat.reduceLeDiff, Nat.reduceLT, vAdd, vSub, vLt, vLe, vGt, vGe, vNeg, vEq, vNe, vEq2, vNe2, vMod, vDiv, vMul, vPow, Int.reduceToNat, vIx0, vIx1, vLenT, vLenC, vLenL, reduceIte, decide_true, decide_false, Bool.not_true, Bool.not_false, beq_self_eq_true, Bool.and_true, Bool.true_and, Bool.and_self, Bool.and_false, Bool.false_and, vMul w, Int.pow_succ]
    rw [x_fo1]
    show forB (b [some (.int x), some M, some (.int (x ^ k)), some d]) _ = _
    rw [eb, x_fo3, e, List.length_cons, show k + (ds.length + 1) = k + 1 + ds.length by omega]
theorem lpower_j {x j : Int} {w : Nat} (hw : w ≤ 1000) (hx : x.natAbs < 2 ^ w) (m : Nat) (m6 : m ≤ 6) (e2 : j.toNat = m) (b1 : -4611686018427387904 ≤ j) (b2 : j < 4611686018427387904) : f__law_power [.int x, .int j] = .ok (.int (x ^ m)) := by
  obtain ⟨r, e⟩ := lpow_loop hw hx (.int j) rfl (rangeD 0 m) 0 none (by rw [range_len]; omega)
  rw [range_len, show 0 + m = m by omega, Int.pow_zero] at e
  simp only [f__law_power, m__law_power, x_seq, x_seq1, x_seq2, x_seq3, x_seq4, x_seq5, x_seq6, x_nil, x_if, x_if1, x_if2, x_if3, x_ret, x_ret1, x_ret2, x_ret3, x_retN, x_asg, x_asg1, x_asg2, x_asg3, x_asg4, x_asg5, x_gN, x_drop, x_drop1, x_drop2, x_bk, x_ct, x_raise, x_tZ, x_tZ1, x_tZ2, x_tE, x_tE1, x_tE2, x_tE3, x_tAnd, x_tAnd1, x_tAnd2, x_tAnd3, x_tOr, x_tOr1, x_tOr2, x_tOr3, x_tNot, x_tNot1, x_tNot2, x_tNot3, x_tTrue, x_z2, x_z21, x_z1, x_z11, x_zC, x_zC1, x_za, x_za1, x_za0, x_zV, x_zK, x_ch, x_ch1, x_ch2, x_eZ, x_eZ1, x_eZ2, x_eV, x_eV1, x_eM, x_eM1, x_b1, x_b2, x_b3, x_s1, x_s2, x_s3, x_oO, x_oO2, x_e2, x_e1, x_eC, x_aN, x_aC, x_tup, x_lst, x_call, x_oC1, x_oC2, x_call0, x_call01, x_eAnd, x_eAnd1, x_eOr, x_eOr1, x_eNot, x_eNot1, x_eIf, x_eIf1, x_fz_int, x_fr_int, x_fz_bl, x_fr_bl, x_fz_str, x_fr_str, x_fz_ty, x_fr_ty, x_fz_tup, x_fr_tup, x_fz_cst, x_fr_cst, x_fz_lst_false, x_fr_lst_false, x_fz_non, x_fr_non, x_fz_lt, x_fr_lt, x_fL0, x_fL1, x_cF, x_cR1, x_cR2, x_cR3, x_iL, x_iL1, x_iT, x_iT1, x_iS, x_iS1, x_iR1, x_iR11, x_iR2, x_iR21, x_iE, x_iE1, x_iV, x_iV1, x_iZ, x_iZ1, x_for, x_fo0, x_fo1, x_fo2, x_fo3, x_fo4, x_fo5, x_fo6, x_fo7, x_gT, x_gC, x_gC0, x_try, x_try1, x_try2, x_try3, x_try4, x_try5, x_nx1, x_nx2, x_try6, x_try7, x_nx3, x_nx4, x_app, x_app1, x_app2, x_lc, x_lcE, x_lc0, x_lc1, x_lcG, x_w0, x_w1, vMinL4, vMaxL4, vAll3, vAny3, vAll4, vAny4, x_wh1, x_wh2, x_wh0, x_abs, vI_ii, vI_ib, vI_it, vI_il, vI_is, vI_bb, vI_bi, vI_tt, vI_tl, vI_ti, vI_ll, vI_lt, vI_ss, vEqB, vNeB, x_ta, x_ta1, x_ta2, x_ta3, x_ta4, x_ta5, x_is, nc_0, nc_1, nc_2, nc_3, nc_4, nc_5, nc_6, nc_7, nc_8, nc_9, nc_10, nc_11, vMax2, vMin2, vIsN0, vIsN1, vNotN0, vNotN1, vIsN2, vNotN2, x_lo, x_lo1, x_lo2, vAll2, vAny2, x_sl, x_sl1, x_sl2, x_pn, x_ps, x_ps1, x_cutL, x_cutC, vEqS, vNeS, List.getD_cons_zero, List.getD_cons_succ, List.set_cons_zero, List.set_cons_succ, List.map_cons, List.map_nil, List.replicate_zero, List.replicate_succ, List.length_cons, List.length_nil, List.cons_append, List.nil_append, Option.bind_some, if_true, if_false, Bool.false_eq_true, Nat.reduceSub, Nat.reduceAdd, Nat.reduceLeDiff, Nat.reduceLT, vAdd, vSub, vLt, vLe, vGt, vGe, vNeg, vEq, vNe, vEq2, vNe2, vMod, vDiv, vMul, vPow, Int.reduceToNat, vIx0, vIx1, vLenT, vLenC, vLenL, reduceIte, decide_true, decide_false, Bool.not_true, Bool.not_false, beq_self_eq_true, Bool.and_true, Bool.true_and, Bool.and_self, Bool.and_false, Bool.false_and, x_iR11 b1 b2, e2, e]
theorem multiplied_j {x j : Int} {w : Nat} (hw : w ≤ 1000) (hx : x.natAbs < 2 ^ w) (m : Nat) (m6 : m ≤ 6) (e2 : j.toNat = m) (b1 : -4611686018427387904 ≤ j) (b2 : j < 4611686018427387904) : f_multiplied [.int x, .int j] = .ok (.int (x ^ m)) := by
  obtain ⟨r, e⟩ := lpow_loop hw hx (.int j) rfl (rangeD 0 m) 0 none (by rw [range_len]; omega)
  rw [range_len, show 0 + m = m by omega, Int.pow_zero] at e
  simp only [f_multiplied, m_multiplied, x_seq, x_seq1, x_seq2, x_seq3, x_seq4, x_seq5, x_seq6, x_nil, x_if, x_if1, x_if2, x_if3, x_ret, x_ret1, x_ret2, x_ret3, x_retN, x_asg, x_asg1, x_asg2, x_asg3, x_asg4, x_asg5, x_gN, x_drop, x_drop1, x_drop2, x_bk, x_ct, x_raise, x_tZ, x_tZ1, x_tZ2, x_tE, x_tE1, x_tE2, x_tE3, x_tAnd, x_tAnd1, x_tAnd2, x_tAnd3, x_tOr, x_tOr1, x_tOr2, x_tOr3, x_tNot, x_tNot1, x_tNot2, x_tNot3, x_tTrue, x_z2, x_z21, x_z1, x_z11, x_zC, x_zC1, x_za, x_za1, x_za0, x_zV, x_zK, x_ch, x_ch1, x_ch2, x_eZ, x_eZ1, x_eZ2, x_eV, x_eV1, x_eM, x_eM1, x_b1, x_b2, x_b3, x_s1, x_s2, x_s3, x_oO, x_oO2, x_e2, x_e1, x_eC, x_aN, x_aC, x_tup, x_lst, x_call, x_oC1, x_oC2, x_call0, x_call01, x_eAnd, x_eAnd1, x_eOr, x_eOr1, x_eNot, x_eNot1, x_eIf, x_eIf1, x_fz_int, x_fr_int, x_fz_bl, x_fr_bl, x_fz_str, x_fr_str, x_fz_ty, x_fr_ty, x_fz_tup, x_fr_tup, x_fz_cst, x_fr_cst, x_fz_lst_false, x_fr_lst_false, x_fz_non, x_fr_non, x_fz_lt, x_fr_lt, x_fL0, x_fL1, x_cF, x_cR1, x_cR2, x_cR3, x_iL, x_iL1, x_iT, x_iT1, x_iS, x_iS1, x_iR1, x_iR11, x_iR2, x_iR21, x_iE, x_iE1, x_iV, x_iV1, x_iZ, x_iZ1, x_for, x_fo0, x_fo1, x_fo2, x_fo3, x_fo4, x_fo5, x_fo6, x_fo7, x_gT, x_gC, x_gC0, x_try, x_try1, x_try2, x_try3, x_try4, x_try5, x_nx1, x_nx2, x_try6, x_try7, x_nx3, x_nx4, x_app, x_app1, x_app2, x_lc, x_lcE, x_lc0, x_lc1, x_lcG, x_w0, x_w1, vMinL4, vMaxL4, vAll3, vAny3, vAll4, vAny4, x_wh1, x_wh2, x_wh0, x_abs, vI_ii, vI_ib, vI_it, vI_il, vI_is, vI_bb, vI_bi, vI_tt, vI_tl, vI_ti, vI_ll, vI_lt, vI_ss, vEqB, vNeB, x_ta, x_ta1, x_ta2, x_ta3, x_ta4, x_ta5, x_is, nc_0, nc_1, nc_2, nc_3, nc_4, nc_5, nc_6, nc_7, nc_8, nc_9, nc_10, nc_11, vMax2, vMin2, vIsN0, vIsN1, vNotN0, vNotN1, vIsN2, vNotN2, x_lo, x_lo1, x_lo2, vAll2, vAny2, x_sl, x_sl1, x_sl2, x_pn, x_ps, x_ps1, x_cutL, x_cutC, vEqS, vNeS, List.getD_cons_zero, List.getD_cons_succ, List.set_cons_zero, List.set_cons_succ, List.map_cons, List.map_nil, List.replicate_zero, List.replicate_succ, List.length_cons, List.length_nil, List.cons_append, List.nil_append, Option.bind_some, if_true, if_false, Bool.false_eq_true, Nat.reduceSub, Nat.reduceAdd, Nat.reduceLeDiff, Nat.reduceLT, vAdd, vSub, vLt, vLe, vGt, vGe, vNeg, vEq, vNe, vEq2, vNe2, vMod, vDiv, vMul, vPow, Int.reduceToNat, vIx0, vIx1, vLenT, vLenC, vLenL, reduceIte, decide_true, decide_false, Bool.not_true, Bool.not_false, beq_self_eq_true, Bool.and_true, Bool.true_and, Bool.and_self, Bool.and_false, Bool.false_and, x_iR11 b1 b2, e2, e]

/-! powers -/
theorem pow_nonneg {x : Int} (h : 0 ≤ x) (n : Nat) : 0 ≤ x ^ n := by
  induction n with
  | zero => simp
  | succ n ih => rw [Int.pow_succ]; exact Int.mul_nonneg ih h
theorem pow_mono {x y : Int} (h : 0 ≤ x) (k : x ≤ y) (n : Nat) : x ^ n ≤ y ^ n := by
  induction n with
  | zero => simp
  | succ n ih =>
    rw [Int.pow_succ, Int.pow_succ]
    exact Int.le_trans (Int.mul_le_mul_of_nonneg_right ih h) (Int.mul_le_mul_of_nonneg_left k (pow_nonneg (Int.le_trans h k) n))
theorem pow_even (x : Int) (k : Nat) : x ^ (2 * k) = (x * x) ^ k := by
  induction k with
  | zero => simp
  | succ k ih => rw [show 2 * (k + 1) = 2 * k + 1 + 1 by omega, Int.pow_succ, Int.pow_succ, Int.pow_succ, ih]; grind
theorem neg_even (x : Int) (k : Nat) : (-x) ^ (2 * k) = x ^ (2 * k) := by
  rw [pow_even, pow_even, show -x * -x = x * x by grind]
theorem neg_odd (x : Int) (k : Nat) : (-x) ^ (2 * k + 1) = -(x ^ (2 * k + 1)) := by
  rw [Int.pow_succ, Int.pow_succ, neg_even]; grind
theorem even_nonneg (x : Int) (k : Nat) : 0 ≤ x ^ (2 * k) := by
  rw [pow_even]
  apply pow_nonneg
  rcases Int.le_total 0 x with h | h
  · exact Int.mul_nonneg h h
  · exact Int.mul_nonneg_of_nonpos_of_nonpos h h
theorem between {n : Nat} {a b x L U : Int} (n0 : n ≠ 0) (x1 : a ≤ x) (x2 : x ≤ b) (l1 : L ≤ a ^ n) (l2 : L ≤ b ^ n) (l3 : n % 2 = 0 → a < 0 → 0 < b → L ≤ 0) (u1 : a ^ n ≤ U) (u2 : b ^ n ≤ U) : L ≤ x ^ n ∧ x ^ n ≤ U := by
  rcases Int.le_total 0 a with ha | ha
  · have h1 := pow_mono ha x1 n
    have h2 := pow_mono (Int.le_trans ha x1) x2 n
    omega
  · obtain ⟨k, hk | hk⟩ : ∃ k, n = 2 * k ∨ n = 2 * k + 1 := ⟨n / 2, by omega⟩
    · subst hk
      rcases Int.le_total b 0 with hb | hb
      · have h1 := pow_mono (x := -b) (y := -x) (by omega) (by omega) (2 * k)
        have h2 := pow_mono (x := -x) (y := -a) (by omega) (by omega) (2 * k)
        rw [neg_even, neg_even] at h1 h2
        omega
      · have e0 := even_nonneg x k
        have ea := even_nonneg a k
        have eb := even_nonneg b k
        have hL : L ≤ 0 := by
          by_cases z : a < 0 ∧ 0 < b
          · exact l3 (by omega) z.1 z.2
          · have : a = 0 ∨ b = 0 := by omega
            have z0 : (0 : Int) ^ (2 * k) = 0 := Int.zero_pow (by omega)
            rcases this with r | r
            · rw [r, z0] at l1; exact l1
            · rw [r, z0] at l2; exact l2
        rcases Int.le_total 0 x with hx | hx
        · have h2 := pow_mono hx x2 (2 * k)
          omega
        · have h2 := pow_mono (x := -x) (y := -a) (by omega) (by omega) (2 * k)
          rw [neg_even, neg_even] at h2
          omega
    · subst hk
      have np : ∀ y : Int, y ≤ 0 → y ^ (2 * k + 1) ≤ 0 := fun y hy => by
        have := pow_nonneg (x := -y) (by omega) (2 * k + 1)
        rw [neg_odd] at this
        omega
      rcases Int.le_total 0 x with hx | hx
      · have h2 := pow_mono hx x2 (2 * k + 1)
        have h3 := pow_nonneg hx (2 * k + 1)
        have h4 := np a ha
        omega
      · have h1 := pow_mono (x := -x) (y := -a) (by omega) (by omega) (2 * k + 1)
        rw [neg_odd, neg_odd] at h1
        rcases Int.le_total b 0 with hb | hb
        · have h2 := pow_mono (x := -b) (y := -x) (by omega) (by omega) (2 * k + 1)
          rw [neg_odd, neg_odd] at h2
          omega
        · have h3 := pow_nonneg hb (2 * k + 1)
          have h4 := np x hx
          omega
theorem zero_between {n : Nat} {a b L U : Int} (h1 : a ≤ 0) (h2 : 0 ≤ b) (n0 : n ≠ 0) (l1 : L ≤ a ^ n) (l2 : L ≤ b ^ n) (l3 : n % 2 = 0 → a < 0 → 0 < b → L ≤ 0) (u1 : a ^ n ≤ U) (u2 : b ^ n ≤ U) : L ≤ 0 ∧ 0 ≤ U := by
  have := between (n := n) (x := 0) n0 h1 h2 l1 l2 l3 u1 u2
  rw [Int.zero_pow n0] at this
  exact this
theorem part_of {a b P u : Int} (ab : a ≤ b) (u0 : 0 ≤ u) (u1 : u ≤ P) : a * P ≤ a * P + (b - a) * u ∧ a * P + (b - a) * u ≤ b * P := by
  have h1 : 0 ≤ (b - a) * u := Int.mul_nonneg (by omega) u0
  have h2 : (b - a) * u ≤ (b - a) * P := Int.mul_le_mul_of_nonneg_left u1 (by omega)
  constructor <;> grind
theorem ends_of {m1 m2 g : Int} (h : 1 ≤ g) : m1 / g * g ≤ m1 ∧ m1 < (m1 / g + 1) * g ∧ m2 ≤ -(-m2 / g) * g ∧ (-(-m2 / g) - 1) * g < m2 := by
  have k1 := Int.ediv_mul_le m1 (show g ≠ 0 by omega)
  have k2 := Int.lt_ediv_add_one_mul_self m1 (show 0 < g by omega)
  have k3 := Int.ediv_mul_le (-m2) (show g ≠ 0 by omega)
  have k4 := Int.lt_ediv_add_one_mul_self (-m2) (show 0 < g by omega)
  generalize -m2 / g = t at *
  refine ⟨k1, k2, ?_, ?_⟩ <;> grind
theorem q_size {m b : Int} {k : Nat} (h : 1 ≤ b) (hm : m.natAbs < 2 ^ k) : (m / b).natAbs < 2 ^ (k + 1) := by
  have k1 := Int.ediv_mul_le m (show b ≠ 0 by omega)
  have k2 := Int.lt_ediv_add_one_mul_self m (show 0 < b by omega)
  generalize m / b = q at *
  rw [Nat.pow_succ]
  rcases Int.lt_or_le q 0 with hq | hq
  · have : (q + 1) * b ≤ (q + 1) * 1 := Int.mul_le_mul_of_nonpos_left (by omega) h
    omega
  · have : q * 1 ≤ q * b := Int.mul_le_mul_of_nonneg_left h hq
    omega
theorem up {x : Int} {m n : Nat} (h : x.natAbs < 2 ^ m) (k : m ≤ n) : x.natAbs < 2 ^ n := Nat.lt_of_lt_of_le h (Nat.pow_le_pow_right (by decide) k)

def Fst (p : Int → Int) (a b lo f : Int) : Prop := (lo ≤ p a ∧ f = a) ∨ (p a < lo ∧ a ≤ f ∧ f ≤ b ∧ p f ≤ lo ∧ (f = b ∨ lo < p (f + 1)))
def Lst (p : Int → Int) (a b hi l : Int) : Prop := (p b ≤ hi ∧ l = b) ∨ (hi < p b ∧ a ≤ l ∧ l ≤ b ∧ hi ≤ p l ∧ (l = a ∨ p (l - 1) < hi))
def rmin (p : Int → Int) (ev : Bool) (a b : Int) : Int := if ev = true ∧ a < 0 ∧ 0 < b then 0 else if p b < p a then p b else p a
def rmax (p : Int → Int) (a b : Int) : Int := if p a < p b then p b else p a
def Meets (p : Int → Int) (ev : Bool) (lo hi a b : Int) : Prop := rmin p ev a b ≤ hi ∧ lo ≤ rmax p a b
/-- what the law's search gives -/
def Due (p : Int → Int) (ev : Bool) (lo hi a b d : Int) : Prop := ∃ L, a ≤ L ∧ L ≤ b ∧ Meets p ev lo hi a L ∧ (L = a ∨ ¬ Meets p ev lo hi a (L - 1)) ∧
  d = if L = a then a else if (p (L - 1) < lo ∧ p L = lo) ∨ (hi < p (L - 1) ∧ p L = hi) then L else L - 1
def Rs (p : Int → Int) (a b lo hi : Int) (o : Option (Int × Int)) : Prop := (o = none ∧ (p b < lo ∨ hi < p a)) ∨ ∃ f l, o = some (f, l) ∧ lo ≤ p b ∧ p a ≤ hi ∧ Fst p a b lo f ∧ Lst p a b hi l
/-- the one place: p rises from a on -/
theorem place {p : Int → Int} {a b lo L f : Int} (inc : ∀ s t, a ≤ s → s < t → p s < p t) (h1 : a ≤ L - 1) (h2 : L ≤ b) (k1 : p (L - 1) < lo) (k2 : lo ≤ p L) (f1 : a ≤ f) (f2 : f ≤ b) (f3 : p f ≤ lo) (f4 : f = b ∨ lo < p (f + 1)) : f = if p L = lo then L else L - 1 := by
  have mono : ∀ s t, a ≤ s → p s ≤ p t → a ≤ t → s ≤ t := fun s t hs h ht => by
    rcases Int.lt_or_le t s with q | q
    · have := inc t s ht q; omega
    · exact q
  split
  · rename_i e
    have u := mono f L f1 (by omega) (by omega)
    rcases f4 with f4 | f4
    · omega
    · have : L ≤ f := by
        rcases Int.lt_or_le f L with q | q
        · have q2 : f + 1 ≤ L := by omega
          rcases Int.lt_or_le (f + 1) L with q3 | q3
          · have := inc (f + 1) L (by omega) q3; omega
          · have : f + 1 = L := by omega
            rw [this] at f4; omega
        · exact q
      omega
  · rename_i e
    have u : f ≤ L - 1 := by
      rcases Int.lt_or_le f L with q | q
      · omega
      · have : p L ≤ p f := by
          rcases Int.lt_or_le L f with q2 | q2
          · have := inc L f (by omega) q2; omega
          · have : L = f := by omega
            rw [this]; exact Int.le_refl _
        omega
    rcases f4 with f4 | f4
    · omega
    · have : L - 1 < f + 1 := by
        rcases Int.lt_or_le (L - 1) (f + 1) with q | q
        · exact q
        · have : p (f + 1) ≤ p (L - 1) := by
            rcases Int.lt_or_le (f + 1) (L - 1) with q2 | q2
            · have := inc (f + 1) (L - 1) (by omega) q2; omega
            · have : f + 1 = L - 1 := by omega
              rw [this]; exact Int.le_refl _
          omega
      omega
theorem meets_inc {p : Int → Int} {ev : Bool} {lo hi a t : Int} (inc : ∀ s t, a ≤ s → s < t → p s < p t) (h : a ≤ t) (hn : ¬ (ev = true ∧ a < 0 ∧ 0 < t)) : Meets p ev lo hi a t ↔ p a ≤ hi ∧ lo ≤ p t := by
  have le : p a ≤ p t := by
    rcases Int.lt_or_le a t with q | q
    · exact Int.le_of_lt (inc a t (Int.le_refl _) q)
    · have : a = t := by omega
      rw [this]; exact Int.le_refl _
  unfold Meets rmin rmax
  rw [if_neg hn, if_neg (by omega)]
  split
  · exact Iff.rfl
  · have : p a = p t := by omega
    rw [this]
/-- the low end where p rises from a on -/
theorem low_inc {p : Int → Int} {ev : Bool} {lo hi a b f d : Int} (inc : ∀ s t, a ≤ s → s < t → p s < p t) (hn : ev = true → 0 ≤ a) (lh : lo ≤ hi) (ha : p a ≤ hi) (F : Fst p a b lo f) (D : Due p ev lo hi a b d) : d = f := by
  obtain ⟨L, l1, l2, m, n, rfl⟩ := D
  have nn : ∀ t : Int, ¬ (ev = true ∧ a < 0 ∧ 0 < t) := fun t z => by have := hn z.1; omega
  rw [meets_inc inc l1 (nn L)] at m
  by_cases e : L = a
  · rw [if_pos e]
    rcases F with F | F
    · exact F.2.symm
    · rw [e] at m; omega
  · rw [if_neg e]
    rcases n with n | n
    · exact absurd n e
    · rw [meets_inc inc (by omega) (nn (L - 1))] at n
      have n' : p (L - 1) < lo := by
        rcases Int.lt_or_le (p (L - 1)) lo with q | q
        · exact q
        · exact absurd ⟨ha, q⟩ n
      rcases F with F | F
      · have : p a ≤ p (L - 1) := by
          rcases Int.lt_or_le a (L - 1) with q2 | q2
          · exact Int.le_of_lt (inc a (L - 1) (Int.le_refl _) q2)
          · have : a = L - 1 := by omega
            rw [← this]; exact Int.le_refl _
        omega
      · have := place inc (by omega) l2 n' m.2 F.2.1 F.2.2.1 F.2.2.2.1 F.2.2.2.2
        rw [this]
        by_cases z : p L = lo
        · rw [if_pos z, if_pos (.inl ⟨n', z⟩)]
        · rw [if_neg z, if_neg (by omega)]
section
variable {p : Int → Int} {lo hi x0 x1 : Int}
theorem ev_dec (P0 : p 0 = 0) (even : ∀ t, p (-t) = p t) (inc : ∀ s t, 0 ≤ s → s < t → p s < p t) {s t : Int} (h : s < t) (k : t ≤ 0) : p t < p s := by
  rw [← even t, ← even s]
  exact inc _ _ (by omega) (by omega)
theorem ev_nonneg (P0 : p 0 = 0) (even : ∀ t, p (-t) = p t) (inc : ∀ s t, 0 ≤ s → s < t → p s < p t) (t : Int) : 0 ≤ p t := by
  rcases Int.lt_or_le 0 t with h | h
  · have := inc 0 t (Int.le_refl _) h; omega
  · rcases Int.lt_or_le t 0 with q | q
    · have := ev_dec P0 even inc q (Int.le_refl _); omega
    · have : t = 0 := by omega
      rw [this, P0]; exact Int.le_refl _
/-- E1: the part below nought is met -/
theorem even_low1 (P0 : p 0 = 0) (even : ∀ t, p (-t) = p t) (inc : ∀ s t, 0 ≤ s → s < t → p s < p t) (lh : lo ≤ hi) (h0 : 0 ≤ hi) (x01 : x0 ≤ x1) (hx : x0 ≤ 0) {a2 l d : Int} (ha2 : a2 = if 0 < -x1 then -x1 else 0) (k1 : lo ≤ p (-x0)) (k2 : p a2 ≤ hi) (Ls : Lst p a2 (-x0) hi l) (D : Due p true lo hi x0 x1 d) : d = -l := by
  obtain ⟨L, l1, l2, m, n, rfl⟩ := D
  rw [even] at k1
  have nn := ev_nonneg P0 even inc
  have dec := @ev_dec p P0 even inc
  have am : p a2 = p (-a2) := (even a2).symm
  have a0 : 0 ≤ a2 := by split at ha2 <;> omega
  have ax : -a2 ≤ x1 := by split at ha2 <;> omega
  have a3 : -a2 = x1 ∨ a2 = 0 := by split at ha2 <;> omega
  -- where all from x0 on is met
  have big : ∀ t, x0 ≤ t → p x0 ≤ hi → Meets p true lo hi x0 t := fun t ht hp => by
    unfold Meets rmin rmax
    constructor
    · split
      · exact h0
      · split <;> omega
    · split <;> omega
  have low : ∀ t, x0 ≤ t → t ≤ 0 → (Meets p true lo hi x0 t ↔ p t ≤ hi) := fun t ht ht0 => by
    have le : p t ≤ p x0 := by
      rcases Int.lt_or_le x0 t with q | q
      · exact Int.le_of_lt (dec q ht0)
      · have : x0 = t := by omega
        rw [this]; exact Int.le_refl _
    unfold Meets rmin rmax
    rw [if_neg (by omega : ¬ (true = true ∧ x0 < 0 ∧ 0 < t)), if_neg (by omega : ¬ p x0 < p t)]
    split
    · exact ⟨fun z => z.1, fun z => ⟨z, k1⟩⟩
    · have : p t = p x0 := by omega
      rw [this]
      exact ⟨fun z => z.1, fun z => ⟨z, k1⟩⟩
  rcases Int.lt_or_le hi (p x0) with hp | hp
  · -- the end lies above
    have Ls' : a2 ≤ l ∧ l ≤ -x0 ∧ hi ≤ p l ∧ (l = a2 ∨ p (l - 1) < hi) := by
      rcases Ls with z | z
      · rw [even] at z; omega
      · exact z.2
    have e : L ≠ x0 := fun e => by
      rw [e, low x0 (Int.le_refl _) hx] at m; omega
    rw [if_neg e]
    have n' : ¬ Meets p true lo hi x0 (L - 1) := by
      rcases n with z | z
      · exact absurd z e
      · exact z
    have Lm : L ≤ -a2 := by
      rcases Int.lt_or_le (-a2) L with q | q
      · exfalso
        have z : a2 = 0 := by omega
        apply n'
        rcases Int.lt_or_le 0 (L - 1) with q2 | q2
        · unfold Meets rmin rmax
          have xn : x0 < 0 := by
            rcases Int.lt_or_le x0 0 with r | r
            · exact r
            · have : x0 = 0 := by omega
              rw [this, P0] at hp; omega
          rw [if_pos ⟨rfl, xn, q2⟩]
          refine ⟨h0, ?_⟩
          split <;> omega
        · have : L - 1 = 0 := by omega
          rw [this, low 0 (by omega) (Int.le_refl _), P0]; exact h0
      · exact q
    rw [low L l1 (by omega)] at m
    rw [low (L - 1) (by omega) (by omega)] at n'
    have hb : hi < p (L - 1) := by omega
    have mono : ∀ s t, s ≤ 0 → t ≤ 0 → p s ≤ p t → t ≤ s := fun s t hs ht h => by
      rcases Int.lt_or_le s t with q | q
      · have := dec q ht; omega
      · exact q
    have r0 : p (-l) = p l := even l
    by_cases z : p L = hi
    · rw [if_pos (.inr ⟨hb, z⟩)]
      have u : -l ≤ L := mono L (-l) (by omega) (by omega) (by omega)
      rcases Ls'.2.2.2 with w | w
      · omega
      · have w' : p (-l + 1) < hi := by rw [← even (-l + 1), show -(-l + 1) = l - 1 by omega]; exact w
        have : L < -l + 1 ∨ 0 < -l + 1 := by
          rcases Int.lt_or_le 0 (-l + 1) with q | q
          · exact .inr q
          · left
            rcases Int.lt_or_le L (-l + 1) with q2 | q2
            · exact q2
            · have : p L ≤ p (-l + 1) := by
                rcases Int.lt_or_le (-l + 1) L with q3 | q3
                · exact Int.le_of_lt (dec q3 (by omega))
                · have : -l + 1 = L := by omega
                  rw [this]; exact Int.le_refl _
              omega
        omega
    · rw [if_neg (by omega)]
      have u : -l < L := by
        rcases Int.lt_or_le (-l) L with q | q
        · exact q
        · have : p (-l) ≤ p L := by
            rcases Int.lt_or_le L (-l) with q3 | q3
            · exact Int.le_of_lt (dec q3 (by omega))
            · have : L = -l := by omega
              rw [this]; exact Int.le_refl _
          omega
      rcases Ls'.2.2.2 with w | w
      · omega
      · have w' : p (-l + 1) < hi := by rw [← even (-l + 1), show -(-l + 1) = l - 1 by omega]; exact w
        have : L - 1 < -l + 1 := by
          rcases Int.lt_or_le (L - 1) (-l + 1) with q2 | q2
          · exact q2
          · have : p (L - 1) ≤ p (-l + 1) := by
              rcases Int.lt_or_le (-l + 1) (L - 1) with q3 | q3
              · exact Int.le_of_lt (dec q3 (by omega))
              · have : -l + 1 = L - 1 := by omega
                rw [this]; exact Int.le_refl _
            omega
        omega
  · have e : L = x0 := by
      rcases n with z | z
      · exact z
      · rcases Int.lt_or_le x0 L with q | q
        · exact absurd (big (L - 1) (by omega) hp) z
        · omega
    rw [if_pos e]
    rcases Ls with z | z
    · omega
    · rw [even] at z; omega
/-- E2: the part below nought is not met -/
theorem even_low2 (P0 : p 0 = 0) (even : ∀ t, p (-t) = p t) (inc : ∀ s t, 0 ≤ s → s < t → p s < p t) (lh : lo ≤ hi) (h0 : 0 ≤ hi) (x01 : x0 ≤ x1) (hx1 : 0 ≤ x1) {a1 lo' f d : Int} (ha1 : a1 = if 0 < x0 then x0 else 0) (hlo : lo' = if 0 < lo then lo else 0)
    (ng : 0 < x0 ∨ p x0 < lo') (k2 : p a1 ≤ hi) (F : Fst p a1 x1 lo' f) (D : Due p true lo hi x0 x1 d) : d = f := by
  have nn := ev_nonneg P0 even inc
  by_cases hp : 0 < x0
  · rw [if_pos hp] at ha1
    subst ha1
    have F' : Fst p a1 x1 lo f := by
      have := inc 0 a1 (Int.le_refl _) hp
      rw [P0] at this
      rcases F with F | F
      · exact .inl ⟨by split at hlo <;> omega, F.2⟩
      · have : lo' = lo := by split at hlo <;> omega
        rw [this] at F
        exact .inr F
    exact low_inc (fun s t hs h => inc s t (by omega) h) (fun _ => by omega) lh k2 F' D
  · rw [if_neg hp] at ha1
    subst ha1
    have hx : p x0 < lo' := by omega
    have lp : 0 < lo := by
      have := nn x0
      split at hlo <;> omega
    have el : lo' = lo := by rw [if_pos lp] at hlo; exact hlo
    rw [el] at hx F
    obtain ⟨L, l1, l2, m, n, rfl⟩ := D
    have meets : ∀ t, 0 < t → (Meets p true lo hi x0 t ↔ lo ≤ p t) := fun t ht => by
      have := nn x0
      unfold Meets rmin rmax
      constructor
      · intro z
        have z2 := z.2
        split at z2 <;> omega
      · intro z
        constructor
        · split
          · exact h0
          · rename_i w
            have : x0 = 0 := by
              rcases Int.lt_or_le x0 0 with q | q
              · exact absurd ⟨rfl, q, ht⟩ w
              · omega
            rw [this, P0]
            split <;> omega
        · split <;> omega
    have Lp : 0 < L := by
      rcases Int.lt_or_le 0 L with q | q
      · exact q
      · exfalso
        have le : p L ≤ p x0 := by
          rcases Int.lt_or_le x0 L with q2 | q2
          · exact Int.le_of_lt (ev_dec P0 even inc q2 q)
          · have : x0 = L := by omega
            rw [this]; exact Int.le_refl _
        have m2 := m.2
        unfold rmax at m2
        split at m2 <;> omega
    rw [meets L Lp] at m
    have e : L ≠ x0 := by omega
    rw [if_neg e]
    have n' : p (L - 1) < lo := by
      rcases n with z | z
      · exact absurd z e
      · rcases Int.lt_or_le 0 (L - 1) with q | q
        · rw [meets (L - 1) q] at z; omega
        · have : L - 1 = 0 := by omega
          rw [this, P0]; exact lp
    have F' : 0 ≤ f ∧ f ≤ x1 ∧ p f ≤ lo ∧ (f = x1 ∨ lo < p (f + 1)) := by
      rcases F with F | F
      · rw [P0] at F; omega
      · exact F.2
    have := place inc (by omega) l2 n' m F'.1 F'.2.1 F'.2.2.1 F'.2.2.2
    rw [this]
    by_cases z : p L = lo
    · rw [if_pos z, if_pos (.inl ⟨n', z⟩)]
    · rw [if_neg z, if_neg (by omega)]
/-- what is joined -/
def Jn : Option (Int × Int) → Option (Int × Int) → Option (Int × Int)
  | none, none => none
  | some s, none => some s
  | none, some (f, l) => some (-l, -f)
  | some (a, b), some (f, l) => some (if -l < a then -l else a, if b < -f then -f else b)
def Half (p : Int → Int) (b0 x1 x0 lo hi : Int) (o : Option (Int × Int)) : Prop := (0 ≤ x1 ∧ Rs p (if 0 < x0 then x0 else 0) x1 lo hi o) ∨ (x1 < 0 ∧ o = none)
theorem fst_rng {a b lo f : Int} (h : a ≤ b) (F : Fst p a b lo f) : a ≤ f ∧ f ≤ b := by
  rcases F with F | F <;> omega
theorem lst_rng {a b hi f : Int} (h : a ≤ b) (F : Lst p a b hi f) : a ≤ f ∧ f ≤ b := by
  rcases F with F | F <;> omega
theorem even_low (P0 : p 0 = 0) (even : ∀ t, p (-t) = p t) (inc : ∀ s t, 0 ≤ s → s < t → p s < p t) (lh : lo ≤ hi) (h0 : 0 ≤ hi) (x01 : x0 ≤ x1) {lo' d g h : Int} (hlo : lo' = if 0 < lo then lo else 0) {o1 o2 : Option (Int × Int)}
    (H1 : Half p 0 x1 x0 lo' hi o1) (H2 : Half p 0 (-x0) (-x1) lo' hi o2) (e : Jn o1 o2 = some (g, h)) (D : Due p true lo hi x0 x1 d) : d = g := by
  have l0 : lo ≤ lo' := by split at hlo <;> omega
  rcases H2 with ⟨hx, R2⟩ | ⟨hx, rfl⟩
  · rcases R2 with ⟨rfl, R2⟩ | ⟨f2, l2, rfl, k1, k2, F2, L2⟩
    · rcases H1 with ⟨hx1, R1⟩ | ⟨hx1, rfl⟩
      · rcases R1 with ⟨rfl, R1⟩ | ⟨f1, l1, rfl, j1, j2, F1, L1⟩
        · cases e
        · cases e
          refine even_low2 P0 even inc lh h0 x01 hx1 rfl hlo ?_ j2 F1 D
          rcases R2 with R2 | R2
          · rw [even] at R2; exact .inr R2
          · rw [if_neg (by omega), P0] at R2; omega
      · cases e
    · have := even_low1 P0 even inc lh h0 x01 (by omega) rfl (by omega) k2 L2 D
      have r2 := lst_rng (by split <;> omega) L2
      have r2' : 0 ≤ l2 := by have := r2.1; split at this <;> omega
      rcases H1 with ⟨hx1, R1⟩ | ⟨hx1, rfl⟩
      · rcases R1 with ⟨rfl, R1⟩ | ⟨f1, l1, rfl, j1, j2, F1, L1⟩
        · cases e; exact this
        · have r1 := fst_rng (by split <;> omega) F1
          have r1' : 0 ≤ f1 := by have := r1.1; split at this <;> omega
          cases e
          split <;> omega
      · cases e; exact this
  · rcases H1 with ⟨hx1, R1⟩ | ⟨hx1, rfl⟩
    · rcases R1 with ⟨rfl, R1⟩ | ⟨f1, l1, rfl, j1, j2, F1, L1⟩
      · cases e
      · cases e
        exact even_low2 P0 even inc lh h0 x01 hx1 rfl hlo (.inl (by omega)) j2 F1 D
    · cases e
theorem even_high (P0 : p 0 = 0) (even : ∀ t, p (-t) = p t) (inc : ∀ s t, 0 ≤ s → s < t → p s < p t) (lh : lo ≤ hi) (h0 : 0 ≤ hi) (x01 : x0 ≤ x1) {lo' d g h : Int} (hlo : lo' = if 0 < lo then lo else 0) {o1 o2 : Option (Int × Int)}
    (H1 : Half p 0 x1 x0 lo' hi o1) (H2 : Half p 0 (-x0) (-x1) lo' hi o2) (e : Jn o1 o2 = some (g, h)) (D : Due p true lo hi (-x1) (-x0) d) : -d = h := by
  have R : ∀ {a b c : Int} {o}, Half p 0 a b lo' hi o → Half p 0 (- -a) (- -b) lo' hi o := fun h => by simpa only [Int.neg_neg] using h
  have e' : Jn o2 o1 = some (-h, -g) := by
    revert e
    rcases o1 with _ | ⟨f1, l1⟩ <;> rcases o2 with _ | ⟨f2, l2⟩ <;> simp only [Jn, Option.some.injEq, Prod.mk.injEq, reduceCtorEq, false_imp_iff]
    · rintro ⟨rfl, rfl⟩; omega
    · rintro ⟨rfl, rfl⟩; omega
    · rintro ⟨rfl, rfl⟩
      constructor <;> (split <;> split <;> omega)
  have := even_low (x0 := -x1) (x1 := -x0) P0 even inc lh h0 (by omega) hlo H2 (by rw [Int.neg_neg, Int.neg_neg]; exact H1) e' D
  omega
theorem even_none (P0 : p 0 = 0) (even : ∀ t, p (-t) = p t) (inc : ∀ s t, 0 ≤ s → s < t → p s < p t) (lh : lo ≤ hi) (h0 : 0 ≤ hi) (x01 : x0 ≤ x1) {lo' : Int} (hlo : lo' = if 0 < lo then lo else 0) {o1 o2 : Option (Int × Int)}
    (H1 : Half p 0 x1 x0 lo' hi o1) (H2 : Half p 0 (-x0) (-x1) lo' hi o2) (e : Jn o1 o2 = none) : ¬ Meets p true lo hi x0 x1 := by
  have nn := ev_nonneg P0 even inc
  have n1 := nn x0
  have n2 := nn x1
  have dec := @ev_dec p P0 even inc x0 x1
  have inc' := inc x0 x1
  have eqx : x0 = x1 → p x0 = p x1 := fun h => by rw [h]
  have ee : o1 = none ∧ o2 = none := by
    rcases o1 with _ | ⟨f1, l1⟩ <;> rcases o2 with _ | ⟨f2, l2⟩ <;> simp_all [Jn]
  obtain ⟨rfl, rfl⟩ := ee
  have h1 : (0 ≤ x1 ∧ (p x1 < lo' ∨ (0 < x0 ∧ hi < p x0))) ∨ x1 < 0 := by
    rcases H1 with ⟨k, ⟨_, R⟩ | ⟨_, _, z, _⟩⟩ | ⟨k, _⟩
    · refine .inl ⟨k, ?_⟩
      rcases R with R | R
      · exact .inl R
      · split at R
        · rename_i w; exact .inr ⟨w, R⟩
        · rw [P0] at R; omega
    · cases z
    · exact .inr k
  have h2 : (x0 ≤ 0 ∧ (p x0 < lo' ∨ (x1 < 0 ∧ hi < p x1))) ∨ 0 < x0 := by
    rcases H2 with ⟨k, ⟨_, R⟩ | ⟨_, _, z, _⟩⟩ | ⟨k, _⟩
    · refine .inl ⟨by omega, ?_⟩
      rw [even] at R
      rcases R with R | R
      · exact .inl R
      · split at R
        · rename_i w; rw [even] at R; exact .inr ⟨by omega, R⟩
        · rw [P0] at R; omega
    · cases z
    · exact .inr (by omega)
  clear H1 H2
  intro m
  obtain ⟨m1, m2⟩ := m
  unfold rmin at m1
  unfold rmax at m2
  have lo'' : (0 < lo ∧ lo' = lo) ∨ (lo ≤ 0 ∧ lo' = 0) := by split at hlo <;> omega
  clear hlo
  by_cases c1 : x0 < x1
  · by_cases c2 : 0 ≤ x0
    · have i := inc' c2 c1
      rw [if_neg (by omega), if_neg (by omega)] at m1
      rw [if_pos i] at m2
      rcases h1 with ⟨_, h1 | h1⟩ | h1
      · omega
      · omega
      · omega
    · by_cases c3 : x1 ≤ 0
      · have i := dec c1 c3
        rw [if_neg (by omega), if_pos i] at m1
        rw [if_neg (by omega)] at m2
        rcases h2 with ⟨_, h2 | h2⟩ | h2
        · omega
        · omega
        · omega
      · have a1 : p x1 < lo' := by omega
        have a2 : p x0 < lo' := by omega
        split at m2 <;> omega
  · have ex : x0 = x1 := by omega
    have i := eqx ex
    rw [if_neg (by omega), if_neg (by omega)] at m1
    rw [if_neg (by omega)] at m2
    omega
theorem even_some (P0 : p 0 = 0) (even : ∀ t, p (-t) = p t) (inc : ∀ s t, 0 ≤ s → s < t → p s < p t) (lh : lo ≤ hi) (h0 : 0 ≤ hi) (x01 : x0 ≤ x1) {lo' : Int} (hlo : lo' = if 0 < lo then lo else 0) {o1 o2 : Option (Int × Int)} {s : Int × Int}
    (H1 : Half p 0 x1 x0 lo' hi o1) (H2 : Half p 0 (-x0) (-x1) lo' hi o2) (e : Jn o1 o2 = some s) : Meets p true lo hi x0 x1 := by
  have nn := ev_nonneg P0 even inc
  have n1 := nn x0
  have n2 := nn x1
  have dec := @ev_dec p P0 even inc x0 x1
  have inc' := inc x0 x1
  have eqx : x0 = x1 → p x0 = p x1 := fun h => by rw [h]
  have h1 : o1 = none ∨ (0 ≤ x1 ∧ lo' ≤ p x1 ∧ (0 < x0 → p x0 ≤ hi)) := by
    rcases H1 with ⟨k, ⟨z, R⟩ | ⟨_, _, z, R1, R2, _⟩⟩ | ⟨k, z⟩
    · exact .inl z
    · refine .inr ⟨k, R1, fun w => ?_⟩
      rw [if_pos w] at R2; exact R2
    · exact .inl z
  have h2 : o2 = none ∨ (x0 ≤ 0 ∧ lo' ≤ p x0 ∧ (x1 < 0 → p x1 ≤ hi)) := by
    rcases H2 with ⟨k, ⟨z, R⟩ | ⟨_, _, z, R1, R2, _⟩⟩ | ⟨k, z⟩
    · exact .inl z
    · rw [even] at R1
      refine .inr ⟨by omega, R1, fun w => ?_⟩
      rw [if_pos (by omega), even] at R2; exact R2
    · exact .inl z
  clear H1 H2
  have h3 : (0 ≤ x1 ∧ lo' ≤ p x1 ∧ (0 < x0 → p x0 ≤ hi)) ∨ (x0 ≤ 0 ∧ lo' ≤ p x0 ∧ (x1 < 0 → p x1 ≤ hi)) := by
    rcases h1 with rfl | h1
    · rcases h2 with rfl | h2
      · cases e
      · exact .inr h2
    · exact .inl h1
  clear h1 h2 e
  have l0 : lo ≤ lo' := by split at hlo <;> omega
  clear hlo
  have z0 : x0 = 0 → p x0 = 0 := fun h => by rw [h, P0]
  have z1 : x1 = 0 → p x1 = 0 := fun h => by rw [h, P0]
  constructor
  · unfold rmin
    split
    · exact h0
    · rename_i w
      have w' : 0 ≤ x0 ∨ x1 ≤ 0 := by
        rcases Int.lt_or_le x0 0 with q | q
        · rcases Int.lt_or_le 0 x1 with r | r
          · exact absurd ⟨rfl, q, r⟩ w
          · exact .inr r
        · exact .inl q
      split <;> (clear w; rcases h3 with ⟨a1, a2, a3⟩ | ⟨a1, a2, a3⟩ <;> rcases w' with w' | w' <;> omega)
  · unfold rmax
    split <;> omega
end
/-! ### odd -/
section
variable {p : Int → Int} {lo hi x0 x1 : Int}
theorem odd_meets (inc : ∀ s t, s < t → p s < p t) (x01 : x0 ≤ x1) : Meets p false lo hi x0 x1 ↔ p x0 ≤ hi ∧ lo ≤ p x1 := meets_inc (fun s t _ h => inc s t h) x01 (by simp)
theorem odd_low (inc : ∀ s t, s < t → p s < p t) (lh : lo ≤ hi) {f d : Int} (ha : p x0 ≤ hi) (F : Fst p x0 x1 lo f) (D : Due p false lo hi x0 x1 d) : d = f := low_inc (fun s t _ h => inc s t h) (fun h => by cases h) lh ha F D
theorem odd_high (odd : ∀ t, p (-t) = -p t) (inc : ∀ s t, s < t → p s < p t) (lh : lo ≤ hi) {l d : Int} (ha : lo ≤ p x1) (F : Lst p x0 x1 hi l) (D : Due p false (-hi) (-lo) (-x1) (-x0) d) : -d = l := by
  have F' : Fst p (-x1) (-x0) (-hi) (-l) := by
    rcases F with F | F
    · exact .inl ⟨by rw [odd]; omega, by omega⟩
    · refine .inr ⟨by rw [odd]; omega, by omega, by omega, by rw [odd]; omega, ?_⟩
      rcases F.2.2.2.2 with k | k
      · exact .inl (by omega)
      · exact .inr (by rw [show -l + 1 = -(l - 1) by omega, odd]; omega)
  have := low_inc (p := p) (ev := false) (lo := -hi) (hi := -lo) (fun s t _ h => inc s t h) (fun h => by cases h) (by omega) (by rw [odd]; omega) F' D
  omega
end

theorem vMinL2 (m : Bool) (a b : Int) : gMinL [.lst m [.int a, .int b]] = some (.int (mnI a b)) := rfl
theorem vMaxL2 (m : Bool) (a b : Int) : gMaxL [.lst m [.int a, .int b]] = some (.int (mxI a b)) := rfl
theorem beq_dec (a b : Int) : (a == b) = decide (a = b) := rfl
def oD : Option (Int × Int) → D
  | none => .non
  | some (a, b) => .tup [.int a, .int b]
theorem mx0 (t : Int) : mxI t 0 = if 0 < t then t else 0 := by
  unfold mxI
  split <;> split <;> omega
/-- the power as a function -/
def P (M : Nat) (t : Int) : Int := t ^ M
theorem pow_lt {x y : Int} (h : 0 ≤ x) (k : x < y) {n : Nat} (n0 : n ≠ 0) : x ^ n < y ^ n := by
  obtain ⟨m, rfl⟩ : ∃ m, n = m + 1 := ⟨n - 1, by omega⟩
  rw [Int.pow_succ, Int.pow_succ]
  exact Int.lt_of_le_of_lt (Int.mul_le_mul_of_nonneg_right (pow_mono h (Int.le_of_lt k) m) h) (Int.mul_lt_mul_of_pos_left k (Int.pow_pos (show 0 < y by omega)))
theorem p_zero {M : Nat} (n0 : M ≠ 0) : P M 0 = 0 := Int.zero_pow n0
theorem p_even {M : Nat} (h : M % 2 = 0) (t : Int) : P M (-t) = P M t := by
  obtain ⟨k, rfl⟩ : ∃ k, M = 2 * k := ⟨M / 2, by omega⟩
  exact neg_even t k
theorem p_odd {M : Nat} (h : M % 2 ≠ 0) (t : Int) : P M (-t) = -P M t := by
  obtain ⟨k, rfl⟩ : ∃ k, M = 2 * k + 1 := ⟨M / 2, by omega⟩
  exact neg_odd t k
theorem p_inc0 {M : Nat} (n0 : M ≠ 0) (s t : Int) (h : 0 ≤ s) (k : s < t) : P M s < P M t := pow_lt h k n0
theorem p_inc {M : Nat} (ho : M % 2 ≠ 0) (s t : Int) (k : s < t) : P M s < P M t := by
  have n0 : M ≠ 0 := by omega
  have pos : ∀ u, 0 < u → 0 < P M u := fun u hu => by
    have := p_inc0 n0 0 u (Int.le_refl _) hu
    rw [p_zero n0] at this; exact this
  have e1 := p_odd ho s
  have e2 := p_odd ho t
  rcases Int.lt_or_le s 0 with q | q
  · rcases Int.lt_or_le 0 t with r | r
    · have h1 := pos t r
      have h2 := pos (-s) (by omega)
      omega
    · have := p_inc0 n0 (-t) (-s) (by omega) (by omega)
      omega
  · exact p_inc0 n0 s t q k
theorem in_range {M : Nat} {ev : Bool} (hev : ev = decide (M % 2 = 0)) (n0 : M ≠ 0) {a b t : Int} (h1 : a ≤ t) (h2 : t ≤ b) : rmin (P M) ev a b ≤ P M t ∧ P M t ≤ rmax (P M) a b := by
  have nn : M % 2 = 0 → ∀ u : Int, 0 ≤ P M u := fun h u => by
    obtain ⟨k, rfl⟩ : ∃ k, M = 2 * k := ⟨M / 2, by omega⟩
    exact even_nonneg u k
  have k1 : rmin (P M) ev a b ≤ P M a ∧ rmin (P M) ev a b ≤ P M b := by
    unfold rmin
    split
    · rename_i w
      have hm : M % 2 = 0 := by rw [w.1] at hev; simpa using hev.symm
      exact ⟨nn hm a, nn hm b⟩
    · split <;> omega
  have k2 : P M a ≤ rmax (P M) a b ∧ P M b ≤ rmax (P M) a b := by
    unfold rmax
    split <;> omega
  refine between n0 h1 h2 k1.1 k1.2 (fun e ha hb => ?_) k2.1 k2.2
  unfold rmin
  rw [if_pos ⟨by rw [hev]; simpa using e, ha, hb⟩]
  exact Int.le_refl _
instance {p : Int → Int} {ev : Bool} {lo hi a b : Int} : Decidable (Meets p ev lo hi a b) := inferInstanceAs (Decidable (_ ∧ _))
/-- a number of the span comes not ahead of the due end -/
theorem due_le {M : Nat} {ev : Bool} (hev : ev = decide (M % 2 = 0)) (n0 : M ≠ 0) {a b lo hi t d : Int} (h1 : a ≤ t) (h3 : lo ≤ P M t) (h4 : P M t ≤ hi) (D : Due (P M) ev lo hi a b d) : d ≤ t := by
  obtain ⟨L, l1, l2, m, n, rfl⟩ := D
  have : L ≤ t := by
    rcases n with n | n
    · omega
    · rcases Int.lt_or_le t L with q | q
      · have r := in_range hev n0 h1 (show t ≤ L - 1 by omega)
        exact absurd ⟨by omega, by omega⟩ n
      · exact q
  split
  · omega
  · split <;> omega
theorem meets_flip {M : Nat} (he : M % 2 = 0) {lo hi a b : Int} (h : Meets (P M) true lo hi a b) : Meets (P M) true lo hi (-b) (-a) := by
  have e1 := p_even he a
  have e2 := p_even he b
  obtain ⟨h1, h2⟩ := h
  unfold rmin at h1
  unfold rmax at h2
  constructor
  · unfold rmin
    rw [e1, e2]
    split
    · rename_i w
      rw [if_pos ⟨rfl, by omega, by omega⟩] at h1; exact h1
    · rename_i w
      rw [if_neg (fun z => w ⟨rfl, by omega, by omega⟩)] at h1
      split <;> split at h1 <;> omega
  · unfold rmax
    rw [e1, e2]
    split <;> split at h2 <;> omega
theorem meets_flip' {M : Nat} (ho : M % 2 ≠ 0) {lo hi a b : Int} (ab : a ≤ b) (h : Meets (P M) false lo hi a b) : Meets (P M) false (-hi) (-lo) (-b) (-a) := by
  rw [odd_meets (p_inc ho) ab] at h
  rw [odd_meets (p_inc ho) (by omega), p_odd ho, p_odd ho]
  omega
/-! ### what the law's own functions give -/
section
variable {M : Nat} {J : Int} (m6 : M ≤ 6) (eJ : J.toNat = M) (j0 : 0 ≤ J) (j1 : J ≤ 10)
include m6 eJ j0 j1
theorem par (ev : Bool) (hev : ev = decide (M % 2 = 0)) : (J % 2 == 0) = ev := by
  rw [hev, Bool.eq_iff_iff]
  simp
  omega
theorem par1 (ev : Bool) (hev : ev = decide (M % 2 = 0)) : (J % 2 == 1) = !ev := by
  rw [hev, Bool.eq_iff_iff]
  simp
  omega
theorem range_ok {ev : Bool} (hev : ev = decide (M % 2 = 0)) {a b : Int} (sa : a.natAbs < 2 ^ 60) (sb : b.natAbs < 2 ^ 60) : f__law_range [.int a, .int b, .int J] = .ok (.tup [.int (rmin (P M) ev a b), .int (rmax (P M) a b)]) := by
  have e1 := lpower_j (w := 60) (by decide) sa M m6 eJ (by omega) (by omega)
  have e2 := lpower_j (w := 60) (by decide) sb M m6 eJ (by omega) (by omega)
  have hp := par m6 eJ j0 j1 ev hev
  have r2 : mxI (a ^ M) (b ^ M) = rmax (P M) a b := rfl
  by_cases hz : ev = true ∧ a < 0 ∧ 0 < b
  · have r1 : rmin (P M) ev a b = 0 := if_pos hz
    obtain ⟨h1, h2, h3⟩ := hz
    rw [h1] at hp r1
    rw [h1, r1]
    simp (disch := decide) only [f__law_range, m__law_range, x_seq, x_seq1, x_seq2, x_seq3, x_seq4, x_seq5, x_seq6, x_nil, x_if, x_if1, x_if2, x_if3, x_ret, x_ret1, x_ret2, x_ret3, x_retN, x_asg, x_asg1, x_asg2, x_asg3, x_asg4, x_asg5, x_gN, x_drop, x_drop1, x_drop2, x_bk, x_ct, x_raise, x_tZ, x_tZ1, x_tZ2, x_tE, x_tE1, x_tE2, x_tE3, x_tAnd, x_tAnd1, x_tAnd2, x_tAnd3, x_tOr, x_tOr1, x_tOr2, x_tOr3, x_tNot, x_tNot1, x_tNot2, x_tNot3, x_tTrue, x_z2, x_z21, x_z1, x_z11, x_zC, x_zC1, x_za, x_za1, x_za0, x_zV, x_zK, x_ch, x_ch1, x_ch2, x_eZ, x_eZ1, x_eZ2, x_eV, x_eV1, x_eM, x_eM1, x_b1, x_b2, x_b3, x_s1, x_s2, x_s3, x_oO, x_oO2, x_e2, x_e1, x_eC, x_aN, x_aC, x_tup, x_lst, x_call, x_oC1, x_oC2, x_call0, x_call01, x_eAnd, x_eAnd1, x_eOr, x_eOr1, x_eNot, x_eNot1, x_eIf, x_eIf1, x_fz_int, x_fr_int, x_fz_bl, x_fr_bl, x_fz_str, x_fr_str, x_fz_ty, x_fr_ty, x_fz_tup, x_fr_tup, x_fz_cst, x_fr_cst, x_fz_lst_false, x_fr_lst_false, x_fz_non, x_fr_non, x_fz_lt, x_fr_lt, x_fL0, x_fL1, x_cF, x_cR1, x_cR2, x_cR3, x_iL, x_iL1, x_iT, x_iT1, x_iS, x_iS1, x_iR1, x_iR11, x_iR2, x_iR21, x_iE, x_iE1, x_iV, x_iV1, x_iZ, x_iZ1, x_for, x_fo0, x_fo1, x_fo2, x_fo3, x_fo4, x_fo5, x_fo6, x_fo7, x_gT, x_gC, x_gC0, x_try, x_try1, x_try2, x_try3, x_try4, x_try5, x_nx1, x_nx2, x_try6, x_try7, x_nx3, x_nx4, x_app, x_app1, x_app2, x_lc, x_lcE, x_lc0, x_lc1, x_lcG, x_w0, x_w1, vMinL4, vMaxL4, vAll3, vAny3, vAll4, vAny4, x_wh1, x_wh2, x_wh0, x_abs, vI_ii, vI_ib, vI_it, vI_il, vI_is, vI_bb, vI_bi, vI_tt, vI_tl, vI_ti, vI_ll, vI_lt, vI_ss, vEqB, vNeB, x_ta, x_ta1, x_ta2, x_ta3, x_ta4, x_ta5, x_is, nc_0, nc_1, nc_2, nc_3, nc_4, nc_5, nc_6, nc_7, nc_8, nc_9, nc_10, nc_11, vMax2, vMin2, vIsN0, vIsN1, vNotN0, vNotN1, vIsN2, vNotN2, x_lo, x_lo1, x_lo2, vAll2, vAny2, x_sl, x_sl1, x_sl2, x_pn, x_ps, x_ps1, x_cutL, x_cutC, vEqS, vNeS, List.getD_cons_zero, List.getD_cons_succ, List.set_cons_zero, List.set_cons_succ, List.map_cons, List.map_nil, List.replicate_zero, List.replicate_succ, List.length_cons, List.length_nil, List.cons_append, List.nil_append, Option.bind_some, if_true, if_false, Bool.false_eq_true, Nat.reduceSub, Nat.reduceAdd, Nat.reduceLeDiff, Nat.reduceLT, vAdd, vSub, vLt, vLe, vGt, vGe, vNeg, vEq, vNe, vEq2, vNe2, vMod, vDiv, vMul, vPow, Int.reduceToNat, vIx0, vIx1, vLenT, vLenC, vLenL, reduceIte, decide_true, decide_false, Bool.not_true, Bool.not_false, beq_self_eq_true, Bool.and_true, Bool.true_and, Bool.and_self, Bool.and_false, Bool.false_and, vMinL2, vMaxL2, e1, e2, hp, h2, h3, r2]
  · have r1 : mnI (a ^ M) (b ^ M) = rmin (P M) ev a b := (if_neg hz).symm
    cases hq : ev with
    | false =>
      rw [hq] at hp r1
      simp (disch := decide) only [f__law_range, m__law_range, x_seq, x_seq1, x_seq2, x_seq3, x_seq4, x_seq5, x_seq6, x_nil, x_if, x_if1, x_if2, x_if3, x_ret, x_ret1, x_ret2, x_ret3, x_retN, x_asg, x_asg1, x_asg2, x_asg3, x_asg4, x_asg5, x_gN, x_drop, x_drop1, x_drop2, x_bk, x_ct, x_raise, x_tZ, x_tZ1, x_tZ2, x_tE, x_tE1, x_tE2, x_tE3, x_tAnd, x_tAnd1, x_tAnd2, x_tAnd3, x_tOr, x_tOr1, x_tOr2, x_tOr3, x_tNot, x_tNot1, x_tNot2, x_tNot3, x_tTrue, x_z2, x_z21, x_z1, x_z11, x_zC, x_zC1, x_za, x_za1, x_za0, x_zV, x_zK, x_ch, x_ch1, x_ch2, x_eZ, x_eZ1, x_eZ2, x_eV, x_eV1, x_eM, x_eM1, x_b1, x_b2, x_b3, x_s1, x_s2, x_s3, x_oO, x_oO2, x_e2, x_e1, x_eC, x_aN, x_aC, x_tup, x_lst, x_call, x_oC1, x_oC2, x_call0, x_call01, x_eAnd, x_eAnd1, x_eOr, x_eOr1, x_eNot, x_eNot1, x_eIf, x_eIf1, x_fz_int, x_fr_int, x_fz_bl, x_fr_bl, x_fz_str, x_fr_str, x_fz_ty, x_fr_ty, x_fz_tup, x_fr_tup, x_fz_cst, x_fr_cst, x_fz_lst_false, x_fr_lst_false, x_fz_non, x_fr_non, x_fz_lt, x_fr_lt, x_fL0, x_fL1, x_cF, x_cR1, x_cR2, x_cR3, x_iL, x_iL1, x_iT, x_iT1, x_iS, x_iS1, x_iR1, x_iR11, x_iR2, x_iR21, x_iE, x_iE1, x_iV, x_iV1, x_iZ, x_iZ1, x_for, x_fo0, x_fo1, x_fo2, x_fo3, x_fo4, x_fo5, x_fo6, x_fo7, x_gT, x_gC, x_gC0, x_try, x_try1, x_try2, x_try3, x_try4, x_try5, x_nx1, x_nx2, x_try6, x_try7, x_nx3, x_nx4, x_app, x_app1, x_app2, x_lc, x_lcE, x_lc0, x_lc1, x_lcG, x_w0, x_w1, vMinL4, vMaxL4, vAll3, vAny3, vAll4, vAny4, x_wh1, x_wh2, x_wh0, x_abs, vI_ii, vI_ib, vI_it, vI_il, vI_is, vI_bb, vI_bi, vI_tt, vI_tl, vI_ti, vI_ll, vI_lt, vI_ss, vEqB, vNeB, x_ta, x_ta1, x_ta2, x_ta3, x_ta4, x_ta5, x_is, nc_0, nc_1, nc_2, nc_3, nc_4, nc_5, nc_6, nc_7, nc_8, nc_9, nc_10, nc_11, vMax2, vMin2, vIsN0, vIsN1, vNotN0, vNotN1, vIsN2, vNotN2, x_lo, x_lo1, x_lo2, vAll2, vAny2, x_sl, x_sl1, x_sl2, x_pn, x_ps, x_ps1, x_cutL, x_cutC, vEqS, vNeS, List.getD_cons_zero, List.getD_cons_succ, List.set_cons_zero, List.set_cons_succ, List.map_cons, List.map_nil, List.replicate_zero, List.replicate_succ, List.length_cons, List.length_nil, List.cons_append, List.nil_append, Option.bind_some, if_true, if_false, Bool.false_eq_true, Nat.reduceSub, Nat.reduceAdd, Nat.reduceLeDiff, Nat.reduceLT, vAdd, vSub, vLt, vLe, vGt, vGe, vNeg, vEq, vNe, vEq2, vNe2, vMod, vDiv, vMul, vPow, Int.reduceToNat, vIx0, vIx1, vLenT, vLenC, vLenL, reduceIte, decide_true, decide_false, Bool.not_true, Bool.not_false, beq_self_eq_true, Bool.and_true, Bool.true_and, Bool.and_self, Bool.and_false, Bool.false_and, vMinL2, vMaxL2, e1, e2, hp, r1, r2]
    | true =>
      rw [hq] at hp r1
      by_cases h2 : a < 0
      · have h3 : ¬ 0 < b := fun z => hz ⟨hq, h2, z⟩
        simp (disch := decide) only [f__law_range, m__law_range, x_seq, x_seq1, x_seq2, x_seq3, x_seq4, x_seq5, x_seq6, x_nil, x_if, x_if1, x_if2, x_if3, x_ret, x_ret1, x_ret2, x_ret3, x_retN, x_asg, x_asg1, x_asg2, x_asg3, x_asg4, x_asg5, x_gN, x_drop, x_drop1, x_drop2, x_bk, x_ct, x_raise, x_tZ, x_tZ1, x_tZ2, x_tE, x_tE1, x_tE2, x_tE3, x_tAnd, x_tAnd1, x_tAnd2, x_tAnd3, x_tOr, x_tOr1, x_tOr2, x_tOr3, x_tNot, x_tNot1, x_tNot2, x_tNot3, x_tTrue, x_z2, x_z21, x_z1, x_z11, x_zC, x_zC1, x_za, x_za1, x_za0, x_zV, x_zK, x_ch, x_ch1, x_ch2, x_eZ, x_eZ1, x_eZ2, x_eV, x_eV1, x_eM, x_eM1, x_b1, x_b2, x_b3, x_s1, x_s2, x_s3, x_oO, x_oO2, x_e2, x_e1, x_eC, x_aN, x_aC, x_tup, x_lst, x_call, x_oC1, x_oC2, x_call0, x_call01, x_eAnd, x_eAnd1, x_eOr, x_eOr1, x_eNot, x_eNot1, x_eIf, x_eIf1, x_fz_int, x_fr_int, x_fz_bl, x_fr_bl, x_fz_str, x_fr_str, x_fz_ty, x_fr_ty, x_fz_tup, x_fr_tup, x_fz_cst, x_fr_cst, x_fz_lst_false, x_fr_lst_false, x_fz_non, x_fr_non, x_fz_lt, x_fr_lt, x_fL0, x_fL1, x_cF, x_cR1, x_cR2, x_cR3, x_iL, x_iL1, x_iT, x_iT1, x_iS, x_iS1, x_iR1, x_iR11, x_iR2, x_iR21, x_iE, x_iE1, x_iV, x_iV1, x_iZ, x_iZ1, x_for, x_fo0, x_fo1, x_fo2, x_fo3, x_fo4, x_fo5, x_fo6, x_fo7, x_gT, x_gC, x_gC0, x_try, x_try1, x_try2, x_try3, x_try4, x_try5, x_nx1, x_nx2, x_try6, x_try7, x_nx3, x_nx4, x_app, x_app1, x_app2, x_lc, x_lcE, x_lc0, x_lc1, x_lcG, x_w0, x_w1, vMinL4, vMaxL4, vAll3, vAny3, vAll4, vAny4, x_wh1, x_wh2, x_wh0, x_abs, vI_ii, vI_ib, vI_it, vI_il, vI_is, vI_bb, vI_bi, vI_tt, vI_tl, vI_ti, vI_ll, vI_lt, vI_ss, vEqB, vNeB, x_ta, x_ta1, x_ta2, x_ta3, x_ta4, x_ta5, x_is, nc_0, nc_1, nc_2, nc_3, nc_4, nc_5, nc_6, nc_7, nc_8, nc_9, nc_10, nc_11, vMax2, vMin2, vIsN0, vIsN1, vNotN0, vNotN1, vIsN2, vNotN2, x_lo, x_lo1, x_lo2, vAll2, vAny2, x_sl, x_sl1, x_sl2, x_pn, x_ps, x_ps1, x_cutL, x_cutC, vEqS, vNeS, List.getD_cons_zero, List.getD_cons_succ, List.set_cons_zero, List.set_cons_succ, List.map_cons, List.map_nil, List.replicate_zero, List.replicate_succ, List.length_cons, List.length_nil, List.cons_append, List.nil_append, Option.bind_some, if_true, if_false, Bool.false_eq_true, Nat.reduceSub, Nat.reduceAdd, Nat.reduceLeDiff, Nat.reduceLT, vAdd, vSub, vLt, vLe, vGt, vGe, vNeg, vEq, vNe, vEq2, vNe2, vMod, vDiv, vMul, vPow, Int.reduceToNat, vIx0, vIx1, vLenT, vLenC, vLenL, reduceIte, decide_true, decide_false, Bool.not_true, Bool.not_false, beq_self_eq_true, Bool.and_true, Bool.true_and, Bool.and_self, Bool.and_false, Bool.false_and, vMinL2, vMaxL2, e1, e2, hp, h2, h3, r1, r2]
      · simp (disch := decide) only [f__law_range, m__law_range, x_seq, x_seq1, x_seq2, x_seq3, x_seq4, x_seq5, x_seq6, x_nil, x_if, x_if1, x_if2, x_if3, x_ret, x_ret1, x_ret2, x_ret3, x_retN, x_asg, x_asg1, x_asg2, x_asg3, x_asg4, x_asg5, x_gN, x_drop, x_drop1, x_drop2, x_bk, x_ct, x_raise, x_tZ, x_tZ1, x_tZ2, x_tE, x_tE1, x_tE2, x_tE3, x_tAnd, x_tAnd1, x_tAnd2, x_tAnd3, x_tOr, x_tOr1, x_tOr2, x_tOr3, x_tNot, x_tNot1, x_tNot2, x_tNot3, x_tTrue, x_z2, x_z21, x_z1, x_z11, x_zC, x_zC1, x_za, x_za1, x_za0, x_zV, x_zK, x_ch, x_ch1, x_ch2, x_eZ, x_eZ1, x_eZ2, x_eV, x_eV1, x_eM, x_eM1, x_b1, x_b2, x_b3, x_s1, x_s2, x_s3, x_oO, x_oO2, x_e2, x_e1, x_eC, x_aN, x_aC, x_tup, x_lst, x_call, x_oC1, x_oC2, x_call0, x_call01, x_eAnd, x_eAnd1, x_eOr, x_eOr1, x_eNot, x_eNot1, x_eIf, x_eIf1, x_fz_int, x_fr_int, x_fz_bl, x_fr_bl, x_fz_str, x_fr_str, x_fz_ty, x_fr_ty, x_fz_tup, x_fr_tup, x_fz_cst, x_fr_cst, x_fz_lst_false, x_fr_lst_false, x_fz_non, x_fr_non, x_fz_lt, x_fr_lt, x_fL0, x_fL1, x_cF, x_cR1, x_cR2, x_cR3, x_iL, x_iL1, x_iT, x_iT1, x_iS, x_iS1, x_iR1, x_iR11, x_iR2, x_iR21, x_iE, x_iE1, x_iV, x_iV1, x_iZ, x_iZ1, x_for, x_fo0, x_fo1, x_fo2, x_fo3, x_fo4, x_fo5, x_fo6, x_fo7, x_gT, x_gC, x_gC0, x_try, x_try1, x_try2, x_try3, x_try4, x_try5, x_nx1, x_nx2, x_try6, x_try7, x_nx3, x_nx4, x_app, x_app1, x_app2, x_lc, x_lcE, x_lc0, x_lc1, x_lcG, x_w0, x_w1, vMinL4, vMaxL4, vAll3, vAny3, vAll4, vAny4, x_wh1, x_wh2, x_wh0, x_abs, vI_ii, vI_ib, vI_it, vI_il, vI_is, vI_bb, vI_bi, vI_tt, vI_tl, vI_ti, vI_ll, vI_lt, vI_ss, vEqB, vNeB, x_ta, x_ta1, x_ta2, x_ta3, x_ta4, x_ta5, x_is, nc_0, nc_1, nc_2, nc_3, nc_4, nc_5, nc_6, nc_7, nc_8, nc_9, nc_10, nc_11, vMax2, vMin2, vIsN0, vIsN1, vNotN0, vNotN1, vIsN2, vNotN2, x_lo, x_lo1, x_lo2, vAll2, vAny2, x_sl, x_sl1, x_sl2, x_pn, x_ps, x_ps1, x_cutL, x_cutC, vEqS, vNeS, List.getD_cons_zero, List.getD_cons_succ, List.set_cons_zero, List.set_cons_succ, List.map_cons, List.map_nil, List.replicate_zero, List.replicate_succ, List.length_cons, List.length_nil, List.cons_append, List.nil_append, Option.bind_some, if_true, if_false, Bool.false_eq_true, Nat.reduceSub, Nat.reduceAdd, Nat.reduceLeDiff, Nat.reduceLT, vAdd, vSub, vLt, vLe, vGt, vGe, vNeg, vEq, vNe, vEq2, vNe2, vMod, vDiv, vMul, vPow, Int.reduceToNat, vIx0, vIx1, vLenT, vLenC, vLenL, reduceIte, decide_true, decide_false, Bool.not_true, Bool.not_false, beq_self_eq_true, Bool.and_true, Bool.true_and, Bool.and_self, Bool.and_false, Bool.false_and, vMinL2, vMaxL2, e1, e2, hp, h2, r1, r2]
theorem meets_ok {ev : Bool} (hev : ev = decide (M % 2 = 0)) {a b lo hi : Int} (sa : a.natAbs < 2 ^ 60) (sb : b.natAbs < 2 ^ 60) : f__law_meets [.int a, .int b, .int J, .int lo, .int hi] = .ok (.bl (decide (Meets (P M) ev lo hi a b))) := by
  have e := range_ok m6 eJ j0 j1 hev sa sb
  by_cases h1 : rmin (P M) ev a b ≤ hi
  · by_cases h2 : lo ≤ rmax (P M) a b
    · have h3 : Meets (P M) ev lo hi a b := ⟨h1, h2⟩
      simp (disch := decide) only [f__law_meets, m__law_meets, x_seq, x_seq1, x_seq2, x_seq3, x_seq4, x_seq5, x_seq6, x_nil, x_if, x_if1, x_if2, x_if3, x_ret, x_ret1, x_ret2, x_ret3, x_retN, x_asg, x_asg1, x_asg2, x_asg3, x_asg4, x_asg5, x_gN, x_drop, x_drop1, x_drop2, x_bk, x_ct, x_raise, x_tZ, x_tZ1, x_tZ2, x_tE, x_tE1, x_tE2, x_tE3, x_tAnd, x_tAnd1, x_tAnd2, x_tAnd3, x_tOr, x_tOr1, x_tOr2, x_tOr3, x_tNot, x_tNot1, x_tNot2, x_tNot3, x_tTrue, x_z2, x_z21, x_z1, x_z11, x_zC, x_zC1, x_za, x_za1, x_za0, x_zV, x_zK, x_ch, x_ch1, x_ch2, x_eZ, x_eZ1, x_eZ2, x_eV, x_eV1, x_eM, x_eM1, x_b1, x_b2, x_b3, x_s1, x_s2, x_s3, x_oO, x_oO2, x_e2, x_e1, x_eC, x_aN, x_aC, x_tup, x_lst, x_call, x_oC1, x_oC2, x_call0, x_call01, x_eAnd, x_eAnd1, x_eOr, x_eOr1, x_eNot, x_eNot1, x_eIf, x_eIf1, x_fz_int, x_fr_int, x_fz_bl, x_fr_bl, x_fz_str, x_fr_str, x_fz_ty, x_fr_ty, x_fz_tup, x_fr_tup, x_fz_cst, x_fr_cst, x_fz_lst_false, x_fr_lst_false, x_fz_non, x_fr_non, x_fz_lt, x_fr_lt, x_fL0, x_fL1, x_cF, x_cR1, x_cR2, x_cR3, x_iL, x_iL1, x_iT, x_iT1, x_iS, x_iS1, x_iR1, x_iR11, x_iR2, x_iR21, x_iE, x_iE1, x_iV, x_iV1, x_iZ, x_iZ1, x_for, x_fo0, x_fo1, x_fo2, x_fo3, x_fo4, x_fo5, x_fo6, x_fo7, x_gT, x_gC, x_gC0, x_try, x_try1, x_try2, x_try3, x_try4, x_try5, x_nx1, x_nx2, x_try6, x_try7, x_nx3, x_nx4, x_app, x_app1, x_app2, x_lc, x_lcE, x_lc0, x_lc1, x_lcG, x_w0, x_w1, vMinL4, vMaxL4, vAll3, vAny3, vAll4, vAny4, x_wh1, x_wh2, x_wh0, x_abs, vI_ii, vI_ib, vI_it, vI_il, vI_is, vI_bb, vI_bi, vI_tt, vI_tl, vI_ti, vI_ll, vI_lt, vI_ss, vEqB, vNeB, x_ta, x_ta1, x_ta2, x_ta3, x_ta4, x_ta5, x_is, nc_0, nc_1, nc_2, nc_3, nc_4, nc_5, nc_6, nc_7, nc_8, nc_9, nc_10, nc_11, vMax2, vMin2, vIsN0, vIsN1, vNotN0, vNotN1, vIsN2, vNotN2, x_lo, x_lo1, x_lo2, vAll2, vAny2, x_sl, x_sl1, x_sl2, x_pn, x_ps, x_ps1, x_cutL, x_cutC, vEqS, vNeS, List.getD_cons_zero, List.getD_cons_succ, List.set_cons_zero, List.set_cons_succ, List.map_cons, List.map_nil, List.replicate_zero, List.replicate_succ, List.length_cons, List.length_nil, List.cons_append, List.nil_append, Option.bind_some, if_true, if_false, Bool.false_eq_true, Nat.reduceSub, Nat.reduceAdd, Nat.reduceLeDiff, Nat.reduceLT, vAdd, vSub, vLt, vLe, vGt, vGe, vNeg, vEq, vNe, vEq2, vNe2, vMod, vDiv, vMul, vPow, Int.reduceToNat, vIx0, vIx1, vLenT, vLenC, vLenL, reduceIte, decide_true, decide_false, Bool.not_true, Bool.not_false, beq_self_eq_true, Bool.and_true, Bool.true_and, Bool.and_self, Bool.and_false, Bool.false_and, e, h1, h2, h3]
    · have h3 : ¬ Meets (P M) ev lo hi a b := fun z => h2 z.2
      simp (disch := decide) only [f__law_meets, m__law_meets, x_seq, x_seq1, x_seq2, x_seq3, x_seq4, x_seq5, x_seq6, x_nil, x_if, x_if1, x_if2, x_if3, x_ret, x_ret1, x_ret2, x_ret3, x_retN, x_asg, x_asg1, x_asg2, x_asg3, x_asg4, x_asg5, x_gN, x_drop, x_drop1, x_drop2, x_bk, x_ct, x_raise, x_tZ, x_tZ1, x_tZ2, x_tE, x_tE1, x_tE2, x_tE3, x_tAnd, x_tAnd1, x_tAnd2, x_tAnd3, x_tOr, x_tOr1, x_tOr2, x_tOr3, x_tNot, x_tNot1, x_tNot2, x_tNot3, x_tTrue, x_z2, x_z21, x_z1, x_z11, x_zC, x_zC1, x_za, x_za1, x_za0, x_zV, x_zK, x_ch, x_ch1, x_ch2, x_eZ, x_eZ1, x_eZ2, x_eV, x_eV1, x_eM, x_eM1, x_b1, x_b2, x_b3, x_s1, x_s2, x_s3, x_oO, x_oO2, x_e2, x_e1, x_eC, x_aN, x_aC, x_tup, x_lst, x_call, x_oC1, x_oC2, x_call0, x_call01, x_eAnd, x_eAnd1, x_eOr, x_eOr1, x_eNot, x_eNot1, x_eIf, x_eIf1, x_fz_int, x_fr_int, x_fz_bl, x_fr_bl, x_fz_str, x_fr_str, x_fz_ty, x_fr_ty, x_fz_tup, x_fr_tup, x_fz_cst, x_fr_cst, x_fz_lst_false, x_fr_lst_false, x_fz_non, x_fr_non, x_fz_lt, x_fr_lt, x_fL0, x_fL1, x_cF, x_cR1, x_cR2, x_cR3, x_iL, x_iL1, x_iT, x_iT1, x_iS, x_iS1, x_iR1, x_iR11, x_iR2, x_iR21, x_iE, x_iE1, x_iV, x_iV1, x_iZ, x_iZ1, x_for, x_fo0, x_fo1, x_fo2, x_fo3, x_fo4, x_fo5, x_fo6, x_fo7, x_gT, x_gC, x_gC0, x_try, x_try1, x_try2, x_try3, x_try4, x_try5, x_nx1, x_nx2, x_try6, x_try7, x_nx3, x_nx4, x_app, x_app1, x_app2, x_lc, x_lcE, x_lc0, x_lc1, x_lcG, x_w0, x_w1, vMinL4, vMaxL4, vAll3, vAny3, vAll4, vAny4, x_wh1, x_wh2, x_wh0, x_abs, vI_ii, vI_ib, vI_it, vI_il, vI_is, vI_bb, vI_bi, vI_tt, vI_tl, vI_ti, vI_ll, vI_lt, vI_ss, vEqB, vNeB, x_ta, x_ta1, x_ta2, x_ta3, x_ta4, x_ta5, x_is, nc_0, nc_1, nc_2, nc_3, nc_4, nc_5, nc_6, nc_7, nc_8, nc_9, nc_10, nc_11, vMax2, vMin2, vIsN0, vIsN1, vNotN0, vNotN1, vIsN2, vNotN2, x_lo, x_lo1, x_lo2, vAll2, vAny2, x_sl, x_sl1, x_sl2, x_pn, x_ps, x_ps1, x_cutL, x_cutC, vEqS, vNeS, List.getD_cons_zero, List.getD_cons_succ, List.set_cons_zero, List.set_cons_succ, List.map_cons, List.map_nil, List.replicate_zero, List.replicate_succ, List.length_cons, List.length_nil, List.cons_append, List.nil_append, Option.bind_some, if_true, if_false, Bool.false_eq_true, Nat.reduceSub, Nat.reduceAdd, Nat.reduceLeDiff, Nat.reduceLT, vAdd, vSub, vLt, vLe, vGt, vGe, vNeg, vEq, vNe, vEq2, vNe2, vMod, vDiv, vMul, vPow, Int.reduceToNat, vIx0, vIx1, vLenT, vLenC, vLenL, reduceIte, decide_true, decide_false, Bool.not_true, Bool.not_false, beq_self_eq_true, Bool.and_true, Bool.true_and, Bool.and_self, Bool.and_false, Bool.false_and, e, h1, h2, h3]
  · have h3 : ¬ Meets (P M) ev lo hi a b := fun z => h1 z.1
    simp (disch := decide) only [f__law_meets, m__law_meets, x_seq, x_seq1, x_seq2, x_seq3, x_seq4, x_seq5, x_seq6, x_nil, x_if, x_if1, x_if2, x_if3, x_ret, x_ret1, x_ret2, x_ret3, x_retN, x_asg, x_asg1, x_asg2, x_asg3, x_asg4, x_asg5, x_gN, x_drop, x_drop1, x_drop2, x_bk, x_ct, x_raise, x_tZ, x_tZ1, x_tZ2, x_tE, x_tE1, x_tE2, x_tE3, x_tAnd, x_tAnd1, x_tAnd2, x_tAnd3, x_tOr, x_tOr1, x_tOr2, x_tOr3, x_tNot, x_tNot1, x_tNot2, x_tNot3, x_tTrue, x_z2, x_z21, x_z1, x_z11, x_zC, x_zC1, x_za, x_za1, x_za0, x_zV, x_zK, x_ch, x_ch1, x_ch2, x_eZ, x_eZ1, x_eZ2, x_eV, x_eV1, x_eM, x_eM1, x_b1, x_b2, x_b3, x_s1, x_s2, x_s3, x_oO, x_oO2, x_e2, x_e1, x_eC, x_aN, x_aC, x_tup, x_lst, x_call, x_oC1, x_oC2, x_call0, x_call01, x_eAnd, x_eAnd1, x_eOr, x_eOr1, x_eNot, x_eNot1, x_eIf, x_eIf1, x_fz_int, x_fr_int, x_fz_bl, x_fr_bl, x_fz_str, x_fr_str, x_fz_ty, x_fr_ty, x_fz_tup, x_fr_tup, x_fz_cst, x_fr_cst, x_fz_lst_false, x_fr_lst_false, x_fz_non, x_fr_non, x_fz_lt, x_fr_lt, x_fL0, x_fL1, x_cF, x_cR1, x_cR2, x_cR3, x_iL, x_iL1, x_iT, x_iT1, x_iS, x_iS1, x_iR1, x_iR11, x_iR2, x_iR21, x_iE, x_iE1, x_iV, x_iV1, x_iZ, x_iZ1, x_for, x_fo0, x_fo1, x_fo2, x_fo3, x_fo4, x_fo5, x_fo6, x_fo7, x_gT, x_gC, x_gC0, x_try, x_try1, x_try2, x_try3, x_try4, x_try5, x_nx1, x_nx2, x_try6, x_try7, x_nx3, x_nx4, x_app, x_app1, x_app2, x_lc, x_lcE, x_lc0, x_lc1, x_lcG, x_w0, x_w1, vMinL4, vMaxL4, vAll3, vAny3, vAll4, vAny4, x_wh1, x_wh2, x_wh0, x_abs, vI_ii, vI_ib, vI_it, vI_il, vI_is, vI_bb, vI_bi, vI_tt, vI_tl, vI_ti, vI_ll, vI_lt, vI_ss, vEqB, vNeB, x_ta, x_ta1, x_ta2, x_ta3, x_ta4, x_ta5, x_is, nc_0, nc_1, nc_2, nc_3, nc_4, nc_5, nc_6, nc_7, nc_8, nc_9, nc_10, nc_11, vMax2, vMin2, vIsN0, vIsN1, vNotN0, vNotN1, vIsN2, vNotN2, x_lo, x_lo1, x_lo2, vAll2, vAny2, x_sl, x_sl1, x_sl2, x_pn, x_ps, x_ps1, x_cutL, x_cutC, vEqS, vNeS, List.getD_cons_zero, List.getD_cons_succ, List.set_cons_zero, List.set_cons_succ, List.map_cons, List.map_nil, List.replicate_zero, List.replicate_succ, List.length_cons, List.length_nil, List.cons_append, List.nil_append, Option.bind_some, if_true, if_false, Bool.false_eq_true, Nat.reduceSub, Nat.reduceAdd, Nat.reduceLeDiff, Nat.reduceLT, vAdd, vSub, vLt, vLe, vGt, vGe, vNeg, vEq, vNe, vEq2, vNe2, vMod, vDiv, vMul, vPow, Int.reduceToNat, vIx0, vIx1, vLenT, vLenC, vLenL, reduceIte, decide_true, decide_false, Bool.not_true, Bool.not_false, beq_self_eq_true, Bool.and_true, Bool.true_and, Bool.and_self, Bool.and_false, Bool.false_and, e, h1, h3]
theorem first_loop {ev : Bool} (hev : ev = decide (M % 2 = 0)) {x0 x1 lo hi : Int} (s0 : x0.natAbs < 2 ^ 60) (s1 : x1.natAbs < 2 ^ 60) {t : MT} {b : MS} (ht : t = tZ (Bn.z2 gLt (zVar 4) (zVar 5)))
    (hb : b = sSeq (sAsg (eZ (Bn.z2 gDiv (Bn.z2 gAdd (zVar 4) (zVar 5)) (zC (.int 2)))) (gN 6))
      (sIf (tE (eCall f__law_meets (aCons (eZ (Bn.z2 gIx (zVar 0) (zC (.int 0)))) (aCons (eVar 6) (aCons (eVar 1) (aCons (eVar 2) (aCons (eVar 3) aNil))))))) (sAsg (eVar 6) (gN 5)) (sAsg (eZ (Bn.z2 gAdd (zVar 6) (zC (.int 1)))) (gN 4)))) :
    ∀ (n : Nat) (l h : Int) (r : Option D), (h - l).toNat < n → x0 ≤ l → l ≤ h → h ≤ x1 → Meets (P M) ev lo hi x0 h → (l = x0 ∨ ¬ Meets (P M) ev lo hi x0 (l - 1)) →
      ∃ L r', whileM t b n [some (.tup [.int x0, .int x1]), some (.int J), some (.int lo), some (.int hi), some (.int l), some (.int h), r, none, none] = .nx [some (.tup [.int x0, .int x1]), some (.int J), some (.int lo), some (.int hi), some (.int L), some (.int L), r', none, none] ∧ x0 ≤ L ∧ L ≤ x1 ∧ Meets (P M) ev lo hi x0 L ∧ (L = x0 ∨ ¬ Meets (P M) ev lo hi x0 (L - 1))
  | 0, _, _, _, h, _, _, _, _, _ => absurd h (Nat.not_lt_zero _)
  | n + 1, l, h, r, hn, h1, h2, h3, m1, m2 => by
    rw [x_wh]
    by_cases q : l < h
    · have e1 : t [some (.tup [.int x0, .int x1]), some (.int J), some (.int lo), some (.int hi), some (.int l), some (.int h), r, none, none] = .ok true [some (.tup [.int x0, .int x1]), some (.int J), some (.int lo), some (.int hi), some (.int l), some (.int h), r, none, none] := by
        subst ht
        simp only [x_seq, x_seq1, x_seq2, x_seq3, x_seq4, x_seq5, x_seq6, x_nil, x_if, x_if1, x_if2, x_if3, x_ret, x_ret1, x_ret2, x_ret3, x_retN, x_asg, x_asg1, x_asg2, x_asg3, x_asg4, x_asg5, x_gN, x_drop, x_drop1, x_drop2, x_bk, x_ct, x_raise, x_tZ, x_tZ1, x_tZ2, x_tE, x_tE1, x_tE2, x_tE3, x_tAnd, x_tAnd1, x_tAnd2, x_tAnd3, x_tOr, x_tOr1, x_tOr2, x_tOr3, x_tNot, x_tNot1, x_tNot2, x_tNot3, x_tTrue, x_z2, x_z21, x_z1, x_z11, x_zC, x_zC1, x_za, x_za1, x_za0, x_zV, x_zK, x_ch, x_ch1, x_ch2, x_eZ, x_eZ1, x_eZ2, x_eV, x_eV1, x_eM, x_eM1, x_b1, x_b2, x_b3, x_s1, x_s2, x_s3, x_oO, x_oO2, x_e2, x_e1, x_eC, x_aN, x_aC, x_tup, x_lst, x_call, x_oC1, x_oC2, x_call0, x_call01, x_eAnd, x_eAnd1, x_eOr, x_eOr1, x_eNot, x_eNot1, x_eIf, x_eIf1, x_fz_int, x_fr_int, x_fz_bl, x_fr_bl, x_fz_str, x_fr_str, x_fz_ty, x_fr_ty, x_fz_tup, x_fr_tup, x_fz_cst, x_fr_cst, x_fz_lst_false, x_fr_lst_false, x_fz_non, x_fr_non, x_fz_lt, x_fr_lt, x_fL0, x_fL1, x_cF, x_cR1, x_cR2, x_cR3, x_iL, x_iL1, x_iT, x_iT1, x_iS, x_iS1, x_iR1, x_iR11, x_iR2, x_iR21, x_iE, x_iE1, x_iV, x_iV1, x_iZ, x_iZ1, x_for, x_fo0, x_fo1, x_fo2, x_fo3, x_fo4, x_fo5, x_fo6, x_fo7, x_gT, x_gC, x_gC0, x_try, x_try1, x_try2, x_try3, x_try4, x_try5, x_nx1, x_nx2, x_try6, x_try7, x_nx3, x_nx4, x_app, x_app1, x_app2, x_lc, x_lcE, x_lc0, x_lc1, x_lcG, x_w0, x_w1, vMinL4, vMaxL4, vAll3, vAny3, vAll4, vAny4, x_wh1, x_wh2, x_wh0, x_abs, vI_ii, vI_ib, vI_it, vI_il, vI_is, vI_bb, vI_bi, vI_tt, vI_tl, vI_ti, vI_ll, vI_lt, vI_ss, vEqB, vNeB, x_ta, x_ta1, x_ta2, x_ta3, x_ta4, x_ta5, x_is, nc_0, nc_1, nc_2, nc_3, nc_4, nc_5, nc_6, nc_7, nc_8, nc_9, nc_10, nc_11, vMax2, vMin2, vIsN0, vIsN1, vNotN0, vNotN1, vIsN2, vNotN2, x_lo, x_lo1, x_lo2, vAll2, vAny2, x_sl, x_sl1, x_sl2, x_pn, x_ps, x_ps1, x_cutL, x_cutC, vEqS, vNeS, List.getD_cons_zero, List.getD_cons_succ, List.set_cons_zero, List.set_cons_succ, List.map_cons, List.map_nil, List.replicate_zero, List.replicate_succ, List.length_cons, List.length_nil, List.cons_append, List.nil_append, Option.bind_some, if_true, if_false, Bool.false_eq_true, Nat.reduceSub, Nat.reduceAdd, Nat.reduceLeDiff, Nat.reduceLT, vAdd, vSub, vLt, vLe, vGt, vGe, vNeg, vEq, vNe, vEq2, vNe2, vMod, vDiv, vMul, vPow, Int.reduceToNat, vIx0, vIx1, vLenT, vLenC, vLenL, reduceIte, decide_true, decide_false, Bool.not_true, Bool.not_false, beq_self_eq_true, Bool.and_true, Bool.true_and, Bool.and_self, Bool.and_false, Bool.false_and, q]
      obtain ⟨c, hc⟩ : ∃ c, (l + h) / 2 = c := ⟨_, rfl⟩
      have c1 : l ≤ c := by omega
      have c2 : c < h := by omega
      have em := meets_ok m6 eJ j0 j1 hev (lo := lo) (hi := hi) s0 (show c.natAbs < 2 ^ 60 by omega)
      rw [e1, x_wh1]
      by_cases k : Meets (P M) ev lo hi x0 c
      · have e2 : b [some (.tup [.int x0, .int x1]), some (.int J), some (.int lo), some (.int hi), some (.int l), some (.int h), r, none, none] = .nx [some (.tup [.int x0, .int x1]), some (.int J), some (.int lo), some (.int hi), some (.int l), some (.int c), some (.int c), none, none] := by
          subst hb
          simp (disch := decide) only [x_seq, x_seq1, x_seq2, x_seq3, x_seq4, x_seq5, x_seq6, x_nil, x_if, x_if1, x_if2, x_if3, x_ret, x_ret1, x_ret2, x_ret3, x_retN, x_asg, x_asg1, x_asg2, x_asg3, x_asg4, x_asg5, x_gN, x_drop, x_drop1, x_drop2, x_bk, x_ct, x_raise, x_tZ, x_tZ1, x_tZ2, x_tE, x_tE1, x_tE2, x_tE3, x_tAnd, x_tAnd1, x_tAnd2, x_tAnd3, x_tOr, x_tOr1, x_tOr2, x_tOr3, x_tNot, x_tNot1, x_tNot2, x_tNot3, x_tTrue, x_z2, x_z21, x_z1, x_z11, x_zC, x_zC1, x_za, x_za1, x_za0, x_zV, x_zK, x_ch, x_ch1, x_ch2, x_eZ, x_eZ1, x_eZ2, x_eV, x_eV1, x_eM, x_eM1, x_b1, x_b2, x_b3, x_s1, x_s2, x_s3, x_oO, x_oO2, x_e2, x_e1, x_eC, x_aN, x_aC, x_tup, x_lst, x_call, x_oC1, x_oC2, x_call0, x_call01, x_eAnd, x_eAnd1, x_eOr, x_eOr1, x_eNot, x_eNot1, x_eIf, x_eIf1, x_fz_int, x_fr_int, x_fz_bl, x_fr_bl, x_fz_str, x_fr_str, x_fz_ty, x_fr_ty, x_fz_tup, x_fr_tup, x_fz_cst, x_fr_cst, x_fz_lst_false, x_fr_lst_false, x_fz_non, x_fr_non, x_fz_lt, x_fr_lt, x_fL0, x_fL1, x_cF, x_cR1, x_cR2, x_cR3, x_iL, x_iL1, x_iT, x_iT1, x_iS, x_iS1, x_iR1, x_iR11, x_iR2, x_iR21, x_iE, x_iE1, x_iV, x_iV1, x_iZ, x_iZ1, x_for, x_fo0, x_fo1, x_fo2, x_fo3, x_fo4, x_fo5, x_fo6, x_fo7, x_gT, x_gC, x_gC0, x_try, x_try1, x_try2, x_try3, x_try4, x_try5, x_nx1, x_nx2, x_try6, x_try7, x_nx3, x_nx4, x_app, x_app1, x_app2, x_lc, x_lcE, x_lc0, x_lc1, x_lcG, x_w0, x_w1, vMinL4, vMaxL4, vAll3, vAny3, vAll4, vAny4, x_wh1, x_wh2, x_wh0, x_abs, vI_ii, vI_ib, vI_it, vI_il, vI_is, vI_bb, vI_bi, vI_tt, vI_tl, vI_ti, vI_ll, vI_lt, vI_ss, vEqB, vNeB, x_ta, x_ta1, x_ta2, x_ta3, x_ta4, x_ta5, x_is, nc_0, nc_1, nc_2, nc_3, nc_4, nc_5, nc_6, nc_7, nc_8, nc_9, nc_10, nc_11, vMax2, vMin2, vIsN0, vIsN1, vNotN0, vNotN1, vIsN2, vNotN2, x_lo, x_lo1, x_lo2, vAll2, vAny2, x_sl, x_sl1, x_sl2, x_pn, x_ps, x_ps1, x_cutL, x_cutC, vEqS, vNeS, List.getD_cons_zero, List.getD_cons_succ, List.set_cons_zero, List.set_cons_succ, List.map_cons, List.map_nil, List.replicate_zero, List.replicate_succ, List.length_cons, List.length_nil, List.cons_append, List.nil_append, Option.bind_some, if_true, if_false, Bool.false_eq_true, Nat.reduceSub, Nat.reduceAdd, Nat.reduceLeDiff, Nat.reduceLT, vAdd, vSub, vLt, vLe, vGt, vGe, vNeg, vEq, vNe, vEq2, vNe2, vMod, vDiv, vMul, vPow, Int.reduceToNat, vIx0, vIx1, vLenT, vLenC, vLenL, reduceIte, decide_true, decide_false, Bool.not_true, Bool.not_false, beq_self_eq_true, Bool.and_true, Bool.true_and, Bool.and_self, Bool.and_false, Bool.false_and, hc, em, k]
        rw [e2]
        exact first_loop hev s0 s1 ht hb n l c (some (.int c)) (by omega) h1 c1 (by omega) k m2
      · have e2 : b [some (.tup [.int x0, .int x1]), some (.int J), some (.int lo), some (.int hi), some (.int l), some (.int h), r, none, none] = .nx [some (.tup [.int x0, .int x1]), some (.int J), some (.int lo), some (.int hi), some (.int (c + 1)), some (.int h), some (.int c), none, none] := by
          subst hb
          simp (disch := decide) only [x_seq, x_seq1, x_seq2, x_seq3, x_seq4, x_seq5, x_seq6, x_nil, x_if, x_if1, x_if2, x_if3, x_ret, x_ret1, x_ret2, x_ret3, x_retN, x_asg, x_asg1, x_asg2, x_asg3, x_asg4, x_asg5, x_gN, x_drop, x_drop1, x_drop2, x_bk, x_ct, x_raise, x_tZ, x_tZ1, x_tZ2, x_tE, x_tE1, x_tE2, x_tE3, x_tAnd, x_tAnd1, x_tAnd2, x_tAnd3, x_tOr, x_tOr1, x_tOr2, x_tOr3, x_tNot, x_tNot1, x_tNot2, x_tNot3, x_tTrue, x_z2, x_z21, x_z1, x_z11, x_zC, x_zC1, x_za, x_za1, x_za0, x_zV, x_zK, x_ch, x_ch1, x_ch2, x_eZ, x_eZ1, x_eZ2, x_eV, x_eV1, x_eM, x_eM1, x_b1, x_b2, x_b3, x_s1, x_s2, x_s3, x_oO, x_oO2, x_e2, x_e1, x_eC, x_aN, x_aC, x_tup, x_lst, x_call, x_oC1, x_oC2, x_call0, x_call01, x_eAnd, x_eAnd1, x_eOr, x_eOr1, x_eNot, x_eNot1, x_eIf, x_eIf1, x_fz_int, x_fr_int, x_fz_bl, x_fr_bl, x_fz_str, x_fr_str, x_fz_ty, x_fr_ty, x_fz_tup, x_fr_tup, x_fz_cst, x_fr_cst, x_fz_lst_false, x_fr_lst_false, x_fz_non, x_fr_non, x_fz_lt, x_fr_lt, x_fL0, x_fL1, x_cF, x_cR1, x_cR2, x_cR3, x_iL, x_iL1, x_iT, x_iT1, x_iS, x_iS1, x_iR1, x_iR11, x_iR2, x_iR21, x_iE, x_iE1, x_iV, x_iV1, x_iZ, x_iZ1, x_for, x_fo0, x_fo1, x_fo2, x_fo3, x_fo4, x_fo5, x_fo6, x_fo7, x_gT, x_gC, x_gC0, x_try, x_try1, x_try2, x_try3, x_try4, x_try5, x_nx1, x_nx2, x_try6, x_try7, x_nx3, x_nx4, x_app, x_app1, x_app2, x_lc, x_lcE, x_lc0, x_lc1, x_lcG, x_w0, x_w1, vMinL4, vMaxL4, vAll3, vAny3, vAll4, vAny4, x_wh1, x_wh2, x_wh0, x_abs, vI_ii, vI_ib, vI_it, vI_il, vI_is, vI_bb, vI_bi, vI_tt, vI_tl, vI_ti, vI_ll, vI_lt, vI_ss, vEqB, vNeB, x_ta, x_ta1, x_ta2, x_ta3, x_ta4, x_ta5, x_is, nc_0, nc_1, nc_2, nc_3, nc_4, nc_5, nc_6, nc_7, nc_8, nc_9, nc_10, nc_11, vMax2, vMin2, vIsN0, vIsN1, vNotN0, vNotN1, vIsN2, vNotN2, x_lo, x_lo1, x_lo2, vAll2, vAny2, x_sl, x_sl1, x_sl2, x_pn, x_ps, x_ps1, x_cutL, x_cutC, vEqS, vNeS, List.getD_cons_zero, List.getD_cons_succ, List.set_cons_zero, List.set_cons_succ, List.map_cons, List.map_nil, List.replicate_zero, List.replicate_succ, List.length_cons, List.length_nil, List.cons_append, List.nil_append, Option.bind_some, if_true, if_false, Bool.false_eq_true, Nat.reduceSub, Nat.reduceAdd, Nat.reduceLeDiff, Nat.reduceLT, vAdd, vSub, vLt, vLe, vGt, vGe, vNeg, vEq, vNe, vEq2, vNe2, vMod, vDiv, vMul, vPow, Int.reduceToNat, vIx0, vIx1, vLenT, vLenC, vLenL, reduceIte, decide_true, decide_false, Bool.not_true, Bool.not_false, beq_self_eq_true, Bool.and_true, Bool.true_and, Bool.and_self, Bool.and_false, Bool.false_and, hc, em, k]
        rw [e2]
        exact first_loop hev s0 s1 ht hb n (c + 1) h (some (.int c)) (by omega) (by omega) (by omega) h3 m1 (.inr (by rw [show c + 1 - 1 = c by omega]; exact k))
    · have e1 : t [some (.tup [.int x0, .int x1]), some (.int J), some (.int lo), some (.int hi), some (.int l), some (.int h), r, none, none] = .ok false [some (.tup [.int x0, .int x1]), some (.int J), some (.int lo), some (.int hi), some (.int l), some (.int h), r, none, none] := by
        subst ht
        simp only [x_seq, x_seq1, x_seq2, x_seq3, x_seq4, x_seq5, x_seq6, x_nil, x_if, x_if1, x_if2, x_if3, x_ret, x_ret1, x_ret2, x_ret3, x_retN, x_asg, x_asg1, x_asg2, x_asg3, x_asg4, x_asg5, x_gN, x_drop, x_drop1, x_drop2, x_bk, x_ct, x_raise, x_tZ, x_tZ1, x_tZ2, x_tE, x_tE1, x_tE2, x_tE3, x_tAnd, x_tAnd1, x_tAnd2, x_tAnd3, x_tOr, x_tOr1, x_tOr2, x_tOr3, x_tNot, x_tNot1, x_tNot2, x_tNot3, x_tTrue, x_z2, x_z21, x_z1, x_z11, x_zC, x_zC1, x_za, x_za1, x_za0, x_zV, x_zK, x_ch, x_ch1, x_ch2, x_eZ, x_eZ1, x_eZ2, x_eV, x_eV1, x_eM, x_eM1, x_b1, x_b2, x_b3, x_s1, x_s2, x_s3, x_oO, x_oO2, x_e2, x_e1, x_eC, x_aN, x_aC, x_tup, x_lst, x_call, x_oC1, x_oC2, x_call0, x_call01, x_eAnd, x_eAnd1, x_eOr, x_eOr1, x_eNot, x_eNot1, x_eIf, x_eIf1, x_fz_int, x_fr_int, x_fz_bl, x_fr_bl, x_fz_str, x_fr_str, x_fz_ty, x_fr_ty, x_fz_tup, x_fr_tup, x_fz_cst, x_fr_cst, x_fz_lst_false, x_fr_lst_false, x_fz_non, x_fr_non, x_fz_lt, x_fr_lt, x_fL0, x_fL1, x_cF, x_cR1, x_cR2, x_cR3, x_iL, x_iL1, x_iT, x_iT1, x_iS, x_iS1, x_iR1, x_iR11, x_iR2, x_iR21, x_iE, x_iE1, x_iV, x_iV1, x_iZ, x_iZ1, x_for, x_fo0, x_fo1, x_fo2, x_fo3, x_fo4, x_fo5, x_fo6, x_fo7, x_gT, x_gC, x_gC0, x_try, x_try1, x_try2, x_try3, x_try4, x_try5, x_nx1, x_nx2, x_try6, x_try7, x_nx3, x_nx4, x_app, x_app1, x_app2, x_lc, x_lcE, x_lc0, x_lc1, x_lcG, x_w0, x_w1, vMinL4, vMaxL4, vAll3, vAny3, vAll4, vAny4, x_wh1, x_wh2, x_wh0, x_abs, vI_ii, vI_ib, vI_it, vI_il, vI_is, vI_bb, vI_bi, vI_tt, vI_tl, vI_ti, vI_ll, vI_lt, vI_ss, vEqB, vNeB, x_ta, x_ta1, x_ta2, x_ta3, x_ta4, x_ta5, x_is, nc_0, nc_1, nc_2, nc_3, nc_4, nc_5, nc_6, nc_7, nc_8, nc_9, nc_10, nc_11, vMax2, vMin2, vIsN0, vIsN1, vNotN0, vNotN1, vIsN2, vNotN2, x_lo, x_lo1, x_lo2, vAll2, vAny2, x_sl, x_sl1, x_sl2, x_pn, x_ps, x_ps1, x_cutL, x_cutC, vEqS, vNeS, List.getD_cons_zero, List.getD_cons_succ, List.set_cons_zero, List.set_cons_succ, List.map_cons, List.map_nil, List.replicate_zero, List.replicate_succ, List.length_cons, List.length_nil, List.cons_append, List.nil_append, Option.bind_some, if_true, if_false, Bool.false_eq_true, Nat.reduceSub, Nat.reduceAdd, Nat.reduceLeDiff, Nat.reduceLT, vAdd, vSub, vLt, vLe, vGt, vGe, vNeg, vEq, vNe, vEq2, vNe2, vMod, vDiv, vMul, vPow, Int.reduceToNat, vIx0, vIx1, vLenT, vLenC, vLenL, reduceIte, decide_true, decide_false, Bool.not_true, Bool.not_false, beq_self_eq_true, Bool.and_true, Bool.true_and, Bool.and_self, Bool.and_false, Bool.false_and, q]
      have e : l = h := by omega
      subst e
      exact ⟨l, r, by rw [e1, x_wh2], h1, h3, m1, m2⟩
theorem first_ok {ev : Bool} (hev : ev = decide (M % 2 = 0)) {x0 x1 lo hi : Int} (x01 : x0 ≤ x1) (s0 : x0.natAbs < 2 ^ 59) (s1 : x1.natAbs < 2 ^ 59) (m : Meets (P M) ev lo hi x0 x1) :
    ∃ d, f__law_first [.tup [.int x0, .int x1], .int J, .int lo, .int hi] = .ok (.int d) ∧ Due (P M) ev lo hi x0 x1 d := by
  obtain ⟨L, r', e, l1, l2, l3, l4⟩ := first_loop m6 eJ j0 j1 hev (lo := lo) (hi := hi) (show x0.natAbs < 2 ^ 60 by omega) (show x1.natAbs < 2 ^ 60 by omega) rfl rfl ((x1 - x0).toNat + 1) x0 x1 none (by omega) (Int.le_refl _) x01 (Int.le_refl _) m (.inl rfl)
  have e1 := lpower_j (w := 60) (by decide) (show L.natAbs < 2 ^ 60 by omega) M m6 eJ (by omega) (by omega)
  have e2 := lpower_j (w := 60) (by decide) (show (L - 1).natAbs < 2 ^ 60 by omega) M m6 eJ (by omega) (by omega)
  refine ⟨_, ?_, L, l1, l2, l3, l4, rfl⟩
  clear l1 l2 l3 l4 s0 s1 m x01
  show _ = CR.ok (.int (if L = x0 then x0 else if ((L - 1) ^ M < lo ∧ L ^ M = lo) ∨ (hi < (L - 1) ^ M ∧ L ^ M = hi) then L else L - 1))
  by_cases h0 : L = x0
  · simp (disch := decide) only [f__law_first, m__law_first, u__law_first_1, u__law_first_2, u__law_first_3, fuel__law_first1, x_seq, x_seq1, x_seq2, x_seq3, x_seq4, x_seq5, x_seq6, x_nil, x_if, x_if1, x_if2, x_if3, x_ret, x_ret1, x_ret2, x_ret3, x_retN, x_asg, x_asg1, x_asg2, x_asg3, x_asg4, x_asg5, x_gN, x_drop, x_drop1, x_drop2, x_bk, x_ct, x_raise, x_tZ, x_tZ1, x_tZ2, x_tE, x_tE1, x_tE2, x_tE3, x_tAnd, x_tAnd1, x_tAnd2, x_tAnd3, x_tOr, x_tOr1, x_tOr2, x_tOr3, x_tNot, x_tNot1, x_tNot2, x_tNot3, x_tTrue, x_z2, x_z21, x_z1, x_z11, x_zC, x_zC1, x_za, x_za1, x_za0, x_zV, x_zK, x_ch, x_ch1, x_ch2, x_eZ, x_eZ1, x_eZ2, x_eV, x_eV1, x_eM, x_eM1, x_b1, x_b2, x_b3, x_s1, x_s2, x_s3, x_oO, x_oO2, x_e2, x_e1, x_eC, x_aN, x_aC, x_tup, x_lst, x_call, x_oC1, x_oC2, x_call0, x_call01, x_eAnd, x_eAnd1, x_eOr, x_eOr1, x_eNot, x_eNot1, x_eIf, x_eIf1, x_fz_int, x_fr_int, x_fz_bl, x_fr_bl, x_fz_str, x_fr_str, x_fz_ty, x_fr_ty, x_fz_tup, x_fr_tup, x_fz_cst, x_fr_cst, x_fz_lst_false, x_fr_lst_false, x_fz_non, x_fr_non, x_fz_lt, x_fr_lt, x_fL0, x_fL1, x_cF, x_cR1, x_cR2, x_cR3, x_iL, x_iL1, x_iT, x_iT1, x_iS, x_iS1, x_iR1, x_iR11, x_iR2, x_iR21, x_iE, x_iE1, x_iV, x_iV1, x_iZ, x_iZ1, x_for, x_fo0, x_fo1, x_fo2, x_fo3, x_fo4, x_fo5, x_fo6, x_fo7, x_gT, x_gC, x_gC0, x_try, x_try1, x_try2, x_try3, x_try4, x_try5, x_nx1, x_nx2, x_try6, x_try7, x_nx3, x_nx4, x_app, x_app1, x_app2, x_lc, x_lcE, x_lc0, x_lc1, x_lcG, x_w0, x_w1, vMinL4, vMaxL4, vAll3, vAny3, vAll4, vAny4, x_wh1, x_wh2, x_wh0, x_abs, vI_ii, vI_ib, vI_it, vI_il, vI_is, vI_bb, vI_bi, vI_tt, vI_tl, vI_ti, vI_ll, vI_lt, vI_ss, vEqB, vNeB, x_ta, x_ta1, x_ta2, x_ta3, x_ta4, x_ta5, x_is, nc_0, nc_1, nc_2, nc_3, nc_4, nc_5, nc_6, nc_7, nc_8, nc_9, nc_10, nc_11, vMax2, vMin2, vIsN0, vIsN1, vNotN0, vNotN1, vIsN2, vNotN2, x_lo, x_lo1, x_lo2, vAll2, vAny2, x_sl, x_sl1, x_sl2, x_pn, x_ps, x_ps1, x_cutL, x_cutC, vEqS, vNeS, List.getD_cons_zero, List.getD_cons_succ, List.set_cons_zero, List.set_cons_succ, List.map_cons, List.map_nil, List.replicate_zero, List.replicate_succ, List.length_cons, List.length_nil, List.cons_append, List.nil_append, Option.bind_some, if_true, if_false, Bool.false_eq_true, Nat.reduceSub, Nat.reduceAdd, Nat.reduceLeDiff, Nat.reduceLT, vAdd, vSub, vLt, vLe, vGt, vGe, vNeg, vEq, vNe, vEq2, vNe2, vMod, vDiv, vMul, vPow, Int.reduceToNat, vIx0, vIx1, vLenT, vLenC, vLenL, reduceIte, decide_true, decide_false, Bool.not_true, Bool.not_false, beq_self_eq_true, Bool.and_true, Bool.true_and, Bool.and_self, Bool.and_false, Bool.false_and, e, beq_dec, h0]
  · have rhs : (if ((L - 1) ^ M < lo ∧ L ^ M = lo) ∨ (hi < (L - 1) ^ M ∧ L ^ M = hi) then L else L - 1) = if ((decide ((L - 1) ^ M < lo) && (L ^ M == lo)) || (decide (hi < (L - 1) ^ M) && (L ^ M == hi))) = true then L else L - 1 := by
      simp only [Bool.or_eq_true, Bool.and_eq_true, decide_eq_true_eq, beq_iff_eq]
    rw [rhs]
    have h0' : (L == x0) = false := by simpa using h0
    cases h2 : (L ^ M == lo) <;> cases h4 : (L ^ M == hi) <;> by_cases h1 : (L - 1) ^ M < lo <;> by_cases h3 : hi < (L - 1) ^ M <;>
      simp (disch := decide) only [f__law_first, m__law_first, u__law_first_1, u__law_first_2, u__law_first_3, u__law_first_4, u__law_first_5, u__law_first_6, u__law_first_7, fuel__law_first1, x_seq, x_seq1, x_seq2, x_seq3, x_seq4, x_seq5, x_seq6, x_nil, x_if, x_if1, x_if2, x_if3, x_ret, x_ret1, x_ret2, x_ret3, x_retN, x_asg, x_asg1, x_asg2, x_asg3, x_asg4, x_asg5, x_gN, x_drop, x_drop1, x_drop2, x_bk, x_ct, x_raise, x_tZ, x_tZ1, x_tZ2, x_tE, x_tE1, x_tE2, x_tE3, x_tAnd, x_tAnd1, x_tAnd2, x_tAnd3, x_tOr, x_tOr1, x_tOr2, x_tOr3, x_tNot, x_tNot1, x_tNot2, x_tNot3, x_tTrue, x_z2, x_z21, x_z1, x_z11, x_zC, x_zC1, x_za, x_za1, x_za0, x_zV, x_zK, x_ch, x_ch1, x_ch2, x_eZ, x_eZ1, x_eZ2, x_eV, x_eV1, x_eM, x_eM1, x_b1, x_b2, x_b3, x_s1, x_s2, x_s3, x_oO, x_oO2, x_e2, x_e1, x_eC, x_aN, x_aC, x_tup, x_lst, x_call, x_oC1, x_oC2, x_call0, x_call01, x_eAnd, x_eAnd1, x_eOr, x_eOr1, x_eNot, x_eNot1, x_eIf, x_eIf1, x_fz_int, x_fr_int, x_fz_bl, x_fr_bl, x_fz_str, x_fr_str, x_fz_ty, x_fr_ty, x_fz_tup, x_fr_tup, x_fz_cst, x_fr_cst, x_fz_lst_false, x_fr_lst_false, x_fz_non, x_fr_non, x_fz_lt, x_fr_lt, x_fL0, x_fL1, x_cF, x_cR1, x_cR2, x_cR3, x_iL, x_iL1, x_iT, x_iT1, x_iS, x_iS1, x_iR1, x_iR11, x_iR2, x_iR21, x_iE, x_iE1, x_iV, x_iV1, x_iZ, x_iZ1, x_for, x_fo0, x_fo1, x_fo2, x_fo3, x_fo4, x_fo5, x_fo6, x_fo7, x_gT, x_gC, x_gC0, x_try, x_try1, x_try2, x_try3, x_try4, x_try5, x_nx1, x_nx2, x_try6, x_try7, x_nx3, x_nx4, x_app, x_app1, x_app2, x_lc, x_lcE, x_lc0, x_lc1, x_lcG, x_w0, x_w1, vMinL4, vMaxL4, vAll3, vAny3, vAll4, vAny4, x_wh1, x_wh2, x_wh0, x_abs, vI_ii, vI_ib, vI_it, vI_il, vI_is, vI_bb, vI_bi, vI_tt, vI_tl, vI_ti, vI_ll, vI_lt, vI_ss, vEqB, vNeB, x_ta, x_ta1, x_ta2, x_ta3, x_ta4, x_ta5, x_is, nc_0, nc_1, nc_2, nc_3, nc_4, nc_5, nc_6, nc_7, nc_8, nc_9, nc_10, nc_11, vMax2, vMin2, vIsN0, vIsN1, vNotN0, vNotN1, vIsN2, vNotN2, x_lo, x_lo1, x_lo2, vAll2, vAny2, x_sl, x_sl1, x_sl2, x_pn, x_ps, x_ps1, x_cutL, x_cutC, vEqS, vNeS, List.getD_cons_zero, List.getD_cons_succ, List.set_cons_zero, List.set_cons_succ, List.map_cons, List.map_nil, List.replicate_zero, List.replicate_succ, List.length_cons, List.length_nil, List.cons_append, List.nil_append, Option.bind_some, if_true, if_false, Bool.false_eq_true, Nat.reduceSub, Nat.reduceAdd, Nat.reduceLeDiff, Nat.reduceLT, vAdd, vSub, vLt, vLe, vGt, vGe, vNeg, vEq, vNe, vEq2, vNe2, vMod, vDiv, vMul, vPow, Int.reduceToNat, vIx0, vIx1, vLenT, vLenC, vLenL, reduceIte, decide_true, decide_false, Bool.not_true, Bool.not_false, beq_self_eq_true, Bool.and_true, Bool.true_and, Bool.and_self, Bool.and_false, Bool.false_and, e, e1, e2, h0', h0, h1, h2, h3, h4, Bool.or_true, Bool.or_false, Bool.or_self, Bool.true_or, Bool.false_or]
theorem due_ok {ev : Bool} (hev : ev = decide (M % 2 = 0)) {x0 x1 z0 z1 S : Int} (x01 : x0 ≤ x1) (s0 : x0.natAbs < 2 ^ 59) (s1 : x1.natAbs < 2 ^ 59) (sz0 : z0.natAbs < 2 ^ 700) (sz1 : z1.natAbs < 2 ^ 700) (sS : S.natAbs < 2 ^ 200) :
    (¬ Meets (P M) ev (z0 * S) (z1 * S) x0 x1 ∧ f__law_due [.tup [.int z0, .int z1], .tup [.int x0, .int x1], .int J, .int S] = .ok .non) ∨
    (Meets (P M) ev (z0 * S) (z1 * S) x0 x1 ∧ ∃ d1 d2, f__law_due [.tup [.int z0, .int z1], .tup [.int x0, .int x1], .int J, .int S] = .ok (.tup [.int d1, .int (-d2)]) ∧ Due (P M) ev (z0 * S) (z1 * S) x0 x1 d1 ∧
      ((ev = true ∧ Due (P M) true (z0 * S) (z1 * S) (-x1) (-x0) d2) ∨ (ev = false ∧ Due (P M) false (-(z1 * S)) (-(z0 * S)) (-x1) (-x0) d2))) := by
  have w1 : L2.CMulW z0 S := mulW 700 200 sz0 sS (by decide)
  have w2 : L2.CMulW z1 S := mulW 700 200 sz1 sS (by decide)
  have hp := par m6 eJ j0 j1 ev hev
  have em := meets_ok m6 eJ j0 j1 hev (lo := z0 * S) (hi := z1 * S) (show x0.natAbs < 2 ^ 60 by omega) (show x1.natAbs < 2 ^ 60 by omega)
  by_cases h : Meets (P M) ev (z0 * S) (z1 * S) x0 x1
  · refine .inr ⟨h, ?_⟩
    obtain ⟨d1, e1, D1⟩ := first_ok m6 eJ j0 j1 hev x01 s0 s1 h
    cases q : ev with
    | true =>
      subst q
      have hm : M % 2 = 0 := by simpa using hev.symm
      obtain ⟨d2, e2, D2⟩ := first_ok m6 eJ j0 j1 hev (x0 := -x1) (x1 := -x0) (by omega) (by omega) (by omega) (meets_flip hm h)
      refine ⟨d1, d2, ?_, D1, .inl ⟨rfl, D2⟩⟩
      clear D1 D2 sz0 sz1 sS
      simp (disch := decide) only [f__law_due, m__law_due, x_seq, x_seq1, x_seq2, x_seq3, x_seq4, x_seq5, x_seq6, x_nil, x_if, x_if1, x_if2, x_if3, x_ret, x_ret1, x_ret2, x_ret3, x_retN, x_asg, x_asg1, x_asg2, x_asg3, x_asg4, x_asg5, x_gN, x_drop, x_drop1, x_drop2, x_bk, x_ct, x_raise, x_tZ, x_tZ1, x_tZ2, x_tE, x_tE1, x_tE2, x_tE3, x_tAnd, x_tAnd1, x_tAnd2, x_tAnd3, x_tOr, x_tOr1, x_tOr2, x_tOr3, x_tNot, x_tNot1, x_tNot2, x_tNot3, x_tTrue, x_z2, x_z21, x_z1, x_z11, x_zC, x_zC1, x_za, x_za1, x_za0, x_zV, x_zK, x_ch, x_ch1, x_ch2, x_eZ, x_eZ1, x_eZ2, x_eV, x_eV1, x_eM, x_eM1, x_b1, x_b2, x_b3, x_s1, x_s2, x_s3, x_oO, x_oO2, x_e2, x_e1, x_eC, x_aN, x_aC, x_tup, x_lst, x_call, x_oC1, x_oC2, x_call0, x_call01, x_eAnd, x_eAnd1, x_eOr, x_eOr1, x_eNot, x_eNot1, x_eIf, x_eIf1, x_fz_int, x_fr_int, x_fz_bl, x_fr_bl, x_fz_str, x_fr_str, x_fz_ty, x_fr_ty, x_fz_tup, x_fr_tup, x_fz_cst, x_fr_cst, x_fz_lst_false, x_fr_lst_false, x_fz_non, x_fr_non, x_fz_lt, x_fr_lt, x_fL0, x_fL1, x_cF, x_cR1, x_cR2, x_cR3, x_iL, x_iL1, x_iT, x_iT1, x_iS, x_iS1, x_iR1, x_iR11, x_iR2, x_iR21, x_iE, x_iE1, x_iV, x_iV1, x_iZ, x_iZ1, x_for, x_fo0, x_fo1, x_fo2, x_fo3, x_fo4, x_fo5, x_fo6, x_fo7, x_gT, x_gC, x_gC0, x_try, x_try1, x_try2, x_try3, x_try4, x_try5, x_nx1, x_nx2, x_try6, x_try7, x_nx3, x_nx4, x_app, x_app1, x_app2, x_lc, x_lcE, x_lc0, x_lc1, x_lcG, x_w0, x_w1, vMinL4, vMaxL4, vAll3, vAny3, vAll4, vAny4, x_wh1, x_wh2, x_wh0, x_abs, vI_ii, vI_ib, vI_it, vI_il, vI_is, vI_bb, vI_bi, vI_tt, vI_tl, vI_ti, vI_ll, vI_lt, vI_ss, vEqB, vNeB, x_ta, x_ta1, x_ta2, x_ta3, x_ta4, x_ta5, x_is, nc_0, nc_1, nc_2, nc_3, nc_4, nc_5, nc_6, nc_7, nc_8, nc_9, nc_10, nc_11, vMax2, vMin2, vIsN0, vIsN1, vNotN0, vNotN1, vIsN2, vNotN2, x_lo, x_lo1, x_lo2, vAll2, vAny2, x_sl, x_sl1, x_sl2, x_pn, x_ps, x_ps1, x_cutL, x_cutC, vEqS, vNeS, List.getD_cons_zero, List.getD_cons_succ, List.set_cons_zero, List.set_cons_succ, List.map_cons, List.map_nil, List.replicate_zero, List.replicate_succ, List.length_cons, List.length_nil, List.cons_append, List.nil_append, Option.bind_some, if_true, if_false, Bool.false_eq_true, Nat.reduceSub, Nat.reduceAdd, Nat.reduceLeDiff, Nat.reduceLT, vAdd, vSub, vLt, vLe, vGt, vGe, vNeg, vEq, vNe, vEq2, vNe2, vMod, vDiv, vMul, vPow, Int.reduceToNat, vIx0, vIx1, vLenT, vLenC, vLenL, reduceIte, decide_true, decide_false, Bool.not_true, Bool.not_false, beq_self_eq_true, Bool.and_true, Bool.true_and, Bool.and_self, Bool.and_false, Bool.false_and, vMul w1, vMul w2, em, h, e1, e2, hp]
    | false =>
      subst q
      have hm : M % 2 ≠ 0 := by simpa using hev
      obtain ⟨d2, e2, D2⟩ := first_ok m6 eJ j0 j1 hev (x0 := -x1) (x1 := -x0) (by omega) (by omega) (by omega) (meets_flip' hm x01 h)
      refine ⟨d1, d2, ?_, D1, .inr ⟨rfl, D2⟩⟩
      clear D1 D2 sz0 sz1 sS
      simp (disch := decide) only [f__law_due, m__law_due, x_seq, x_seq1, x_seq2, x_seq3, x_seq4, x_seq5, x_seq6, x_nil, x_if, x_if1, x_if2, x_if3, x_ret, x_ret1, x_ret2, x_ret3, x_retN, x_asg, x_asg1, x_asg2, x_asg3, x_asg4, x_asg5, x_gN, x_drop, x_drop1, x_drop2, x_bk, x_ct, x_raise, x_tZ, x_tZ1, x_tZ2, x_tE, x_tE1, x_tE2, x_tE3, x_tAnd, x_tAnd1, x_tAnd2, x_tAnd3, x_tOr, x_tOr1, x_tOr2, x_tOr3, x_tNot, x_tNot1, x_tNot2, x_tNot3, x_tTrue, x_z2, x_z21, x_z1, x_z11, x_zC, x_zC1, x_za, x_za1, x_za0, x_zV, x_zK, x_ch, x_ch1, x_ch2, x_eZ, x_eZ1, x_eZ2, x_eV, x_eV1, x_eM, x_eM1, x_b1, x_b2, x_b3, x_s1, x_s2, x_s3, x_oO, x_oO2, x_e2, x_e1, x_eC, x_aN, x_aC, x_tup, x_lst, x_call, x_oC1, x_oC2, x_call0, x_call01, x_eAnd, x_eAnd1, x_eOr, x_eOr1, x_eNot, x_eNot1, x_eIf, x_eIf1, x_fz_int, x_fr_int, x_fz_bl, x_fr_bl, x_fz_str, x_fr_str, x_fz_ty, x_fr_ty, x_fz_tup, x_fr_tup, x_fz_cst, x_fr_cst, x_fz_lst_false, x_fr_lst_false, x_fz_non, x_fr_non, x_fz_lt, x_fr_lt, x_fL0, x_fL1, x_cF, x_cR1, x_cR2, x_cR3, x_iL, x_iL1, x_iT, x_iT1, x_iS, x_iS1, x_iR1, x_iR11, x_iR2, x_iR21, x_iE, x_iE1, x_iV, x_iV1, x_iZ, x_iZ1, x_for, x_fo0, x_fo1, x_fo2, x_fo3, x_fo4, x_fo5, x_fo6, x_fo7, x_gT, x_gC, x_gC0, x_try, x_try1, x_try2, x_try3, x_try4, x_try5, x_nx1, x_nx2, x_try6, x_try7, x_nx3, x_nx4, x_app, x_app1, x_app2, x_lc, x_lcE, x_lc0, x_lc1, x_lcG, x_w0, x_w1, vMinL4, vMaxL4, vAll3, vAny3, vAll4, vAny4, x_wh1, x_wh2, x_wh0, x_abs, vI_ii, vI_ib, vI_it, vI_il, vI_is, vI_bb, vI_bi, vI_tt, vI_tl, vI_ti, vI_ll, vI_lt, vI_ss, vEqB, vNeB, x_ta, x_ta1, x_ta2, x_ta3, x_ta4, x_ta5, x_is, nc_0, nc_1, nc_2, nc_3, nc_4, nc_5, nc_6, nc_7, nc_8, nc_9, nc_10, nc_11, vMax2, vMin2, vIsN0, vIsN1, vNotN0, vNotN1, vIsN2, vNotN2, x_lo, x_lo1, x_lo2, vAll2, vAny2, x_sl, x_sl1, x_sl2, x_pn, x_ps, x_ps1, x_cutL, x_cutC, vEqS, vNeS, List.getD_cons_zero, List.getD_cons_succ, List.set_cons_zero, List.set_cons_succ, List.map_cons, List.map_nil, List.replicate_zero, List.replicate_succ, List.length_cons, List.length_nil, List.cons_append, List.nil_append, Option.bind_some, if_true, if_false, Bool.false_eq_true, Nat.reduceSub, Nat.reduceAdd, Nat.reduceLeDiff, Nat.reduceLT, vAdd, vSub, vLt, vLe, vGt, vGe, vNeg, vEq, vNe, vEq2, vNe2, vMod, vDiv, vMul, vPow, Int.reduceToNat, vIx0, vIx1, vLenT, vLenC, vLenL, reduceIte, decide_true, decide_false, Bool.not_true, Bool.not_false, beq_self_eq_true, Bool.and_true, Bool.true_and, Bool.and_self, Bool.and_false, Bool.false_and, vMul w1, vMul w2, em, h, e1, e2, hp]
  · refine .inl ⟨h, ?_⟩
    clear sz0 sz1 sS
    simp (disch := decide) only [f__law_due, m__law_due, x_seq, x_seq1, x_seq2, x_seq3, x_seq4, x_seq5, x_seq6, x_nil, x_if, x_if1, x_if2, x_if3, x_ret, x_ret1, x_ret2, x_ret3, x_retN, x_asg, x_asg1, x_asg2, x_asg3, x_asg4, x_asg5, x_gN, x_drop, x_drop1, x_drop2, x_bk, x_ct, x_raise, x_tZ, x_tZ1, x_tZ2, x_tE, x_tE1, x_tE2, x_tE3, x_tAnd, x_tAnd1, x_tAnd2, x_tAnd3, x_tOr, x_tOr1, x_tOr2, x_tOr3, x_tNot, x_tNot1, x_tNot2, x_tNot3, x_tTrue, x_z2, x_z21, x_z1, x_z11, x_zC, x_zC1, x_za, x_za1, x_za0, x_zV, x_zK, x_ch, x_ch1, x_ch2, x_eZ, x_eZ1, x_eZ2, x_eV, x_eV1, x_eM, x_eM1, x_b1, x_b2, x_b3, x_s1, x_s2, x_s3, x_oO, x_oO2, x_e2, x_e1, x_eC, x_aN, x_aC, x_tup, x_lst, x_call, x_oC1, x_oC2, x_call0, x_call01, x_eAnd, x_eAnd1, x_eOr, x_eOr1, x_eNot, x_eNot1, x_eIf, x_eIf1, x_fz_int, x_fr_int, x_fz_bl, x_fr_bl, x_fz_str, x_fr_str, x_fz_ty, x_fr_ty, x_fz_tup, x_fr_tup, x_fz_cst, x_fr_cst, x_fz_lst_false, x_fr_lst_false, x_fz_non, x_fr_non, x_fz_lt, x_fr_lt, x_fL0, x_fL1, x_cF, x_cR1, x_cR2, x_cR3, x_iL, x_iL1, x_iT, x_iT1, x_iS, x_iS1, x_iR1, x_iR11, x_iR2, x_iR21, x_iE, x_iE1, x_iV, x_iV1, x_iZ, x_iZ1, x_for, x_fo0, x_fo1, x_fo2, x_fo3, x_fo4, x_fo5, x_fo6, x_fo7, x_gT, x_gC, x_gC0, x_try, x_try1, x_try2, x_try3, x_try4, x_try5, x_nx1, x_nx2, x_try6, x_try7, x_nx3, x_nx4, x_app, x_app1, x_app2, x_lc, x_lcE, x_lc0, x_lc1, x_lcG, x_w0, x_w1, vMinL4, vMaxL4, vAll3, vAny3, vAll4, vAny4, x_wh1, x_wh2, x_wh0, x_abs, vI_ii, vI_ib, vI_it, vI_il, vI_is, vI_bb, vI_bi, vI_tt, vI_tl, vI_ti, vI_ll, vI_lt, vI_ss, vEqB, vNeB, x_ta, x_ta1, x_ta2, x_ta3, x_ta4, x_ta5, x_is, nc_0, nc_1, nc_2, nc_3, nc_4, nc_5, nc_6, nc_7, nc_8, nc_9, nc_10, nc_11, vMax2, vMin2, vIsN0, vIsN1, vNotN0, vNotN1, vIsN2, vNotN2, x_lo, x_lo1, x_lo2, vAll2, vAny2, x_sl, x_sl1, x_sl2, x_pn, x_ps, x_ps1, x_cutL, x_cutC, vEqS, vNeS, List.getD_cons_zero, List.getD_cons_succ, List.set_cons_zero, List.set_cons_succ, List.map_cons, List.map_nil, List.replicate_zero, List.replicate_succ, List.length_cons, List.length_nil, List.cons_append, List.nil_append, Option.bind_some, if_true, if_false, Bool.false_eq_true, Nat.reduceSub, Nat.reduceAdd, Nat.reduceLeDiff, Nat.reduceLT, vAdd, vSub, vLt, vLe, vGt, vGe, vNeg, vEq, vNe, vEq2, vNe2, vMod, vDiv, vMul, vPow, Int.reduceToNat, vIx0, vIx1, vLenT, vLenC, vLenL, reduceIte, decide_true, decide_false, Bool.not_true, Bool.not_false, beq_self_eq_true, Bool.and_true, Bool.true_and, Bool.and_self, Bool.and_false, Bool.false_and, vMul w1, vMul w2, em, h]
/-! ### the program's own -/
theorem below_loop {a b B : Int} (s0 : a.natAbs < 2 ^ 59) (s1 : b.natAbs < 2 ^ 59) {t : MT} {c : MS} (ht : t = tZ (Bn.z2 gLt (zVar 0) (zVar 1)))
    (hb : c = sSeq (sAsg (eZ (Bn.z2 gDiv (Bn.z2 gAdd (Bn.z2 gAdd (zVar 0) (zVar 1)) (zC (.int 1))) (zC (.int 2)))) (gN 4))
      (sIf (tE (e2 gLe (eCall f_multiplied (aCons (eVar 4) (aCons (eVar 2) aNil))) (eVar 3))) (sAsg (eVar 4) (gN 0)) (sAsg (eZ (Bn.z2 gSub (zVar 4) (zC (.int 1)))) (gN 1)))) :
    ∀ (n : Nat) (l h : Int) (r : Option D), (h - l).toNat < n → a ≤ l → l ≤ h → h ≤ b → P M l ≤ B → (h = b ∨ B < P M (h + 1)) →
      ∃ L r', whileM t c n [some (.int l), some (.int h), some (.int J), some (.int B), r] = .nx [some (.int L), some (.int L), some (.int J), some (.int B), r'] ∧ a ≤ L ∧ L ≤ b ∧ P M L ≤ B ∧ (L = b ∨ B < P M (L + 1))
  | 0, _, _, _, h, _, _, _, _, _ => absurd h (Nat.not_lt_zero _)
  | n + 1, l, h, r, hn, h1, h2, h3, m1, m2 => by
    rw [x_wh]
    by_cases q : l < h
    · have e1 : t [some (.int l), some (.int h), some (.int J), some (.int B), r] = .ok true [some (.int l), some (.int h), some (.int J), some (.int B), r] := by
        subst ht
        simp only [x_seq, x_seq1, x_seq2, x_seq3, x_seq4, x_seq5, x_seq6, x_nil, x_if, x_if1, x_if2, x_if3, x_ret, x_ret1, x_ret2, x_ret3, x_retN, x_asg, x_asg1, x_asg2, x_asg3, x_asg4, x_asg5, x_gN, x_drop, x_drop1, x_drop2, x_bk, x_ct, x_raise, x_tZ, x_tZ1, x_tZ2, x_tE, x_tE1, x_tE2, x_tE3, x_tAnd, x_tAnd1, x_tAnd2, x_tAnd3, x_tOr, x_tOr1, x_tOr2, x_tOr3, x_tNot, x_tNot1, x_tNot2, x_tNot3, x_tTrue, x_z2, x_z21, x_z1, x_z11, x_zC, x_zC1, x_za, x_za1, x_za0, x_zV, x_zK, x_ch, x_ch1, x_ch2, x_eZ, x_eZ1, x_eZ2, x_eV, x_eV1, x_eM, x_eM1, x_b1, x_b2, x_b3, x_s1, x_s2, x_s3, x_oO, x_oO2, x_e2, x_e1, x_eC, x_aN, x_aC, x_tup, x_lst, x_call, x_oC1, x_oC2, x_call0, x_call01, x_eAnd, x_eAnd1, x_eOr, x_eOr1, x_eNot, x_eNot1, x_eIf, x_eIf1, x_fz_int, x_fr_int, x_fz_bl, x_fr_bl, x_fz_str, x_fr_str, x_fz_ty, x_fr_ty, x_fz_tup, x_fr_tup, x_fz_cst, x_fr_cst, x_fz_lst_false, x_fr_lst_false, x_fz_non, x_fr_non, x_fz_lt, x_fr_lt, x_fL0, x_fL1, x_cF, x_cR1, x_cR2, x_cR3, x_iL, x_iL1, x_iT, x_iT1, x_iS, x_iS1, x_iR1, x_iR11, x_iR2, x_iR21, x_iE, x_iE1, x_iV, x_iV1, x_iZ, x_iZ1, x_for, x_fo0, x_fo1, x_fo2, x_fo3, x_fo4, x_fo5, x_fo6, x_fo7, x_gT, x_gC, x_gC0, x_try, x_try1, x_try2, x_try3, x_try4, x_try5, x_nx1, x_nx2, x_try6, x_try7, x_nx3, x_nx4, x_app, x_app1, x_app2, x_lc, x_lcE, x_lc0, x_lc1, x_lcG, x_w0, x_w1, vMinL4, vMaxL4, vAll3, vAny3, vAll4, vAny4, x_wh1, x_wh2, x_wh0, x_abs, vI_ii, vI_ib, vI_it, vI_il, vI_is, vI_bb, vI_bi, vI_tt, vI_tl, vI_ti, vI_ll, vI_lt, vI_ss, vEqB, vNeB, x_ta, x_ta1, x_ta2, x_ta3, x_ta4, x_ta5, x_is, nc_0, nc_1, nc_2, nc_3, nc_4, nc_5, nc_6, nc_7, nc_8, nc_9, nc_10, nc_11, vMax2, vMin2, vIsN0, vIsN1, vNotN0, vNotN1, vIsN2, vNotN2, x_lo, x_lo1, x_lo2, vAll2, vAny2, x_sl, x_sl1, x_sl2, x_pn, x_ps, x_ps1, x_cutL, x_cutC, vEqS, vNeS, List.getD_cons_zero, List.getD_cons_succ, List.set_cons_zero, List.set_cons_succ, List.map_cons, List.map_nil, List.replicate_zero, List.replicate_succ, List.length_cons, List.length_nil, List.cons_append, List.nil_append, Option.bind_some, if_true, if_false, Bool.false_eq_true, Nat.reduceSub, Nat.reduceAdd, Nat.reduceLeDiff, Nat.reduceLT, vAdd, vSub, vLt, vLe, vGt, vGe, vNeg, vEq, vNe, vEq2, vNe2, vMod, vDiv, vMul, vPow, Int.reduceToNat, vIx0, vIx1, vLenT, vLenC, vLenL, reduceIte, decide_true, decide_false, Bool.not_true, Bool.not_false, beq_self_eq_true, Bool.and_true, Bool.true_and, Bool.and_self, Bool.and_false, Bool.false_and, q]
      obtain ⟨g, hc⟩ : ∃ g, (l + h + 1) / 2 = g := ⟨_, rfl⟩
      have c1 : l < g := by omega
      have c2 : g ≤ h := by omega
      have em := multiplied_j (w := 60) (by decide) (show g.natAbs < 2 ^ 60 by omega) M m6 eJ (by omega) (by omega)
      rw [e1, x_wh1]
      by_cases k : g ^ M ≤ B
      · have e2 : c [some (.int l), some (.int h), some (.int J), some (.int B), r] = .nx [some (.int g), some (.int h), some (.int J), some (.int B), some (.int g)] := by
          subst hb
          simp (disch := decide) only [x_seq, x_seq1, x_seq2, x_seq3, x_seq4, x_seq5, x_seq6, x_nil, x_if, x_if1, x_if2, x_if3, x_ret, x_ret1, x_ret2, x_ret3, x_retN, x_asg, x_asg1, x_asg2, x_asg3, x_asg4, x_asg5, x_gN, x_drop, x_drop1, x_drop2, x_bk, x_ct, x_raise, x_tZ, x_tZ1, x_tZ2, x_tE, x_tE1, x_tE2, x_tE3, x_tAnd, x_tAnd1, x_tAnd2, x_tAnd3, x_tOr, x_tOr1, x_tOr2, x_tOr3, x_tNot, x_tNot1, x_tNot2, x_tNot3, x_tTrue, x_z2, x_z21, x_z1, x_z11, x_zC, x_zC1, x_za, x_za1, x_za0, x_zV, x_zK, x_ch, x_ch1, x_ch2, x_eZ, x_eZ1, x_eZ2, x_eV, x_eV1, x_eM, x_eM1, x_b1, x_b2, x_b3, x_s1, x_s2, x_s3, x_oO, x_oO2, x_e2, x_e1, x_eC, x_aN, x_aC, x_tup, x_lst, x_call, x_oC1, x_oC2, x_call0, x_call01, x_eAnd, x_eAnd1, x_eOr, x_eOr1, x_eNot, x_eNot1, x_eIf, x_eIf1, x_fz_int, x_fr_int, x_fz_bl, x_fr_bl, x_fz_str, x_fr_str, x_fz_ty, x_fr_ty, x_fz_tup, x_fr_tup, x_fz_cst, x_fr_cst, x_fz_lst_false, x_fr_lst_false, x_fz_non, x_fr_non, x_fz_lt, x_fr_lt, x_fL0, x_fL1, x_cF, x_cR1, x_cR2, x_cR3, x_iL, x_iL1, x_iT, x_iT1, x_iS, x_iS1, x_iR1, x_iR11, x_iR2, x_iR21, x_iE, x_iE1, x_iV, x_iV1, x_iZ, x_iZ1, x_for, x_fo0, x_fo1, x_fo2, x_fo3, x_fo4, x_fo5, x_fo6, x_fo7, x_gT, x_gC, x_gC0, x_try, x_try1, x_try2, x_try3, x_try4, x_try5, x_nx1, x_nx2, x_try6, x_try7, x_nx3, x_nx4, x_app, x_app1, x_app2, x_lc, x_lcE, x_lc0, x_lc1, x_lcG, x_w0, x_w1, vMinL4, vMaxL4, vAll3, vAny3, vAll4, vAny4, x_wh1, x_wh2, x_wh0, x_abs, vI_ii, vI_ib, vI_it, vI_il, vI_is, vI_bb, vI_bi, vI_tt, vI_tl, vI_ti, vI_ll, vI_lt, vI_ss, vEqB, vNeB, x_ta, x_ta1, x_ta2, x_ta3, x_ta4, x_ta5, x_is, nc_0, nc_1, nc_2, nc_3, nc_4, nc_5, nc_6, nc_7, nc_8, nc_9, nc_10, nc_11, vMax2, vMin2, vIsN0, vIsN1, vNotN0, vNotN1, vIsN2, vNotN2, x_lo, x_lo1, x_lo2, vAll2, vAny2, x_sl, x_sl1, x_sl2, x_pn, x_ps, x_ps1, x_cutL, x_cutC, vEqS, vNeS, List.getD_cons_zero, List.getD_cons_succ, List.set_cons_zero, List.set_cons_succ, List.map_cons, List.map_nil, List.replicate_zero, List.replicate_succ, List.length_cons, List.length_nil, List.cons_append, List.nil_append, Option.bind_some, if_true, if_false, Bool.false_eq_true, Nat.reduceSub, Nat.reduceAdd, Nat.reduceLeDiff, Nat.reduceLT, vAdd, vSub, vLt, vLe, vGt, vGe, vNeg, vEq, vNe, vEq2, vNe2, vMod, vDiv, vMul, vPow, Int.reduceToNat, vIx0, vIx1, vLenT, vLenC, vLenL, reduceIte, decide_true, decide_false, Bool.not_true, Bool.not_false, beq_self_eq_true, Bool.and_true, Bool.true_and, Bool.and_self, Bool.and_false, Bool.false_and, hc, em, k]
        rw [e2]
        exact below_loop s0 s1 ht hb n g h (some (.int g)) (by omega) (by omega) c2 h3 k m2
      · have e2 : c [some (.int l), some (.int h), some (.int J), some (.int B), r] = .nx [some (.int l), some (.int (g - 1)), some (.int J), some (.int B), some (.int g)] := by
          subst hb
          simp (disch := decide) only [x_seq, x_seq1, x_seq2, x_seq3, x_seq4, x_seq5, x_seq6, x_nil, x_if, x_if1, x_if2, x_if3, x_ret, x_ret1, x_ret2, x_ret3, x_retN, x_asg, x_asg1, x_asg2, x_asg3, x_asg4, x_asg5, x_gN, x_drop, x_drop1, x_drop2, x_bk, x_ct, x_raise, x_tZ, x_tZ1, x_tZ2, x_tE, x_tE1, x_tE2, x_tE3, x_tAnd, x_tAnd1, x_tAnd2, x_tAnd3, x_tOr, x_tOr1, x_tOr2, x_tOr3, x_tNot, x_tNot1, x_tNot2, x_tNot3, x_tTrue, x_z2, x_z21, x_z1, x_z11, x_zC, x_zC1, x_za, x_za1, x_za0, x_zV, x_zK, x_ch, x_ch1, x_ch2, x_eZ, x_eZ1, x_eZ2, x_eV, x_eV1, x_eM, x_eM1, x_b1, x_b2, x_b3, x_s1, x_s2, x_s3, x_oO, x_oO2, x_e2, x_e1, x_eC, x_aN, x_aC, x_tup, x_lst, x_call, x_oC1, x_oC2, x_call0, x_call01, x_eAnd, x_eAnd1, x_eOr, x_eOr1, x_eNot, x_eNot1, x_eIf, x_eIf1, x_fz_int, x_fr_int, x_fz_bl, x_fr_bl, x_fz_str, x_fr_str, x_fz_ty, x_fr_ty, x_fz_tup, x_fr_tup, x_fz_cst, x_fr_cst, x_fz_lst_false, x_fr_lst_false, x_fz_non, x_fr_non, x_fz_lt, x_fr_lt, x_fL0, x_fL1, x_cF, x_cR1, x_cR2, x_cR3, x_iL, x_iL1, x_iT, x_iT1, x_iS, x_iS1, x_iR1, x_iR11, x_iR2, x_iR21, x_iE, x_iE1, x_iV, x_iV1, x_iZ, x_iZ1, x_for, x_fo0, x_fo1, x_fo2, x_fo3, x_fo4, x_fo5, x_fo6, x_fo7, x_gT, x_gC, x_gC0, x_try, x_try1, x_try2, x_try3, x_try4, x_try5, x_nx1, x_nx2, x_try6, x_try7, x_nx3, x_nx4, x_app, x_app1, x_app2, x_lc, x_lcE, x_lc0, x_lc1, x_lcG, x_w0, x_w1, vMinL4, vMaxL4, vAll3, vAny3, vAll4, vAny4, x_wh1, x_wh2, x_wh0, x_abs, vI_ii, vI_ib, vI_it, vI_il, vI_is, vI_bb, vI_bi, vI_tt, vI_tl, vI_ti, vI_ll, vI_lt, vI_ss, vEqB, vNeB, x_ta, x_ta1, x_ta2, x_ta3, x_ta4, x_ta5, x_is, nc_0, nc_1, nc_2, nc_3, nc_4, nc_5, nc_6, nc_7, nc_8, nc_9, nc_10, nc_11, vMax2, vMin2, vIsN0, vIsN1, vNotN0, vNotN1, vIsN2, vNotN2, x_lo, x_lo1, x_lo2, vAll2, vAny2, x_sl, x_sl1, x_sl2, x_pn, x_ps, x_ps1, x_cutL, x_cutC, vEqS, vNeS, List.getD_cons_zero, List.getD_cons_succ, List.set_cons_zero, List.set_cons_succ, List.map_cons, List.map_nil, List.replicate_zero, List.replicate_succ, List.length_cons, List.length_nil, List.cons_append, List.nil_append, Option.bind_some, if_true, if_false, Bool.false_eq_true, Nat.reduceSub, Nat.reduceAdd, Nat.reduceLeDiff, Nat.reduceLT, vAdd, vSub, vLt, vLe, vGt, vGe, vNeg, vEq, vNe, vEq2, vNe2, vMod, vDiv, vMul, vPow, Int.reduceToNat, vIx0, vIx1, vLenT, vLenC, vLenL, reduceIte, decide_true, decide_false, Bool.not_true, Bool.not_false, beq_self_eq_true, Bool.and_true, Bool.true_and, Bool.and_self, Bool.and_false, Bool.false_and, hc, em, k]
        rw [e2]
        exact below_loop s0 s1 ht hb n l (g - 1) (some (.int g)) (by omega) h1 (by omega) (by omega) m1 (.inr (by rw [show g - 1 + 1 = g by omega]; exact Int.not_le.mp k))
    · have e1 : t [some (.int l), some (.int h), some (.int J), some (.int B), r] = .ok false [some (.int l), some (.int h), some (.int J), some (.int B), r] := by
        subst ht
        simp only [x_seq, x_seq1, x_seq2, x_seq3, x_seq4, x_seq5, x_seq6, x_nil, x_if, x_if1, x_if2, x_if3, x_ret, x_ret1, x_ret2, x_ret3, x_retN, x_asg, x_asg1, x_asg2, x_asg3, x_asg4, x_asg5, x_gN, x_drop, x_drop1, x_drop2, x_bk, x_ct, x_raise, x_tZ, x_tZ1, x_tZ2, x_tE, x_tE1, x_tE2, x_tE3, x_tAnd, x_tAnd1, x_tAnd2, x_tAnd3, x_tOr, x_tOr1, x_tOr2, x_tOr3, x_tNot, x_tNot1, x_tNot2, x_tNot3, x_tTrue, x_z2, x_z21, x_z1, x_z11, x_zC, x_zC1, x_za, x_za1, x_za0, x_zV, x_zK, x_ch, x_ch1, x_ch2, x_eZ, x_eZ1, x_eZ2, x_eV, x_eV1, x_eM, x_eM1, x_b1, x_b2, x_b3, x_s1, x_s2, x_s3, x_oO, x_oO2, x_e2, x_e1, x_eC, x_aN, x_aC, x_tup, x_lst, x_call, x_oC1, x_oC2, x_call0, x_call01, x_eAnd, x_eAnd1, x_eOr, x_eOr1, x_eNot, x_eNot1, x_eIf, x_eIf1, x_fz_int, x_fr_int, x_fz_bl, x_fr_bl, x_fz_str, x_fr_str, x_fz_ty, x_fr_ty, x_fz_tup, x_fr_tup, x_fz_cst, x_fr_cst, x_fz_lst_false, x_fr_lst_false, x_fz_non, x_fr_non, x_fz_lt, x_fr_lt, x_fL0, x_fL1, x_cF, x_cR1, x_cR2, x_cR3, x_iL, x_iL1, x_iT, x_iT1, x_iS, x_iS1, x_iR1, x_iR11, x_iR2, x_iR21, x_iE, x_iE1, x_iV, x_iV1, x_iZ, x_iZ1, x_for, x_fo0, x_fo1, x_fo2, x_fo3, x_fo4, x_fo5, x_fo6, x_fo7, x_gT, x_gC, x_gC0, x_try, x_try1, x_try2, x_try3, x_try4, x_try5, x_nx1, x_nx2, x_try6, x_try7, x_nx3, x_nx4, x_app, x_app1, x_app2, x_lc, x_lcE, x_lc0, x_lc1, x_lcG, x_w0, x_w1, vMinL4, vMaxL4, vAll3, vAny3, vAll4, vAny4, x_wh1, x_wh2, x_wh0, x_abs, vI_ii, vI_ib, vI_it, vI_il, vI_is, vI_bb, vI_bi, vI_tt, vI_tl, vI_ti, vI_ll, vI_lt, vI_ss, vEqB, vNeB, x_ta, x_ta1, x_ta2, x_ta3, x_ta4, x_ta5, x_is, nc_0, nc_1, nc_2, nc_3, nc_4, nc_5, nc_6, nc_7, nc_8, nc_9, nc_10, nc_11, vMax2, vMin2, vIsN0, vIsN1, vNotN0, vNotN1, vIsN2, vNotN2, x_lo, x_lo1, x_lo2, vAll2, vAny2, x_sl, x_sl1, x_sl2, x_pn, x_ps, x_ps1, x_cutL, x_cutC, vEqS, vNeS, List.getD_cons_zero, List.getD_cons_succ, List.set_cons_zero, List.set_cons_succ, List.map_cons, List.map_nil, List.replicate_zero, List.replicate_succ, List.length_cons, List.length_nil, List.cons_append, List.nil_append, Option.bind_some, if_true, if_false, Bool.false_eq_true, Nat.reduceSub, Nat.reduceAdd, Nat.reduceLeDiff, Nat.reduceLT, vAdd, vSub, vLt, vLe, vGt, vGe, vNeg, vEq, vNe, vEq2, vNe2, vMod, vDiv, vMul, vPow, Int.reduceToNat, vIx0, vIx1, vLenT, vLenC, vLenL, reduceIte, decide_true, decide_false, Bool.not_true, Bool.not_false, beq_self_eq_true, Bool.and_true, Bool.true_and, Bool.and_self, Bool.and_false, Bool.false_and, q]
      have e : l = h := by omega
      subst e
      exact ⟨l, r, by rw [e1, x_wh2], h1, h3, m1, m2⟩
theorem above_loop {a b B : Int} (s0 : a.natAbs < 2 ^ 59) (s1 : b.natAbs < 2 ^ 59) {t : MT} {c : MS} (ht : t = tZ (Bn.z2 gLt (zVar 0) (zVar 1)))
    (hb : c = sSeq (sAsg (eZ (Bn.z2 gDiv (Bn.z2 gAdd (zVar 0) (zVar 1)) (zC (.int 2)))) (gN 4))
      (sIf (tE (e2 gGe (eCall f_multiplied (aCons (eVar 4) (aCons (eVar 2) aNil))) (eVar 3))) (sAsg (eVar 4) (gN 1)) (sAsg (eZ (Bn.z2 gAdd (zVar 4) (zC (.int 1)))) (gN 0)))) :
    ∀ (n : Nat) (l h : Int) (r : Option D), (h - l).toNat < n → a ≤ l → l ≤ h → h ≤ b → B ≤ P M h → (l = a ∨ P M (l - 1) < B) →
      ∃ L r', whileM t c n [some (.int l), some (.int h), some (.int J), some (.int B), r] = .nx [some (.int L), some (.int L), some (.int J), some (.int B), r'] ∧ a ≤ L ∧ L ≤ b ∧ B ≤ P M L ∧ (L = a ∨ P M (L - 1) < B)
  | 0, _, _, _, h, _, _, _, _, _ => absurd h (Nat.not_lt_zero _)
  | n + 1, l, h, r, hn, h1, h2, h3, m1, m2 => by
    rw [x_wh]
    by_cases q : l < h
    · have e1 : t [some (.int l), some (.int h), some (.int J), some (.int B), r] = .ok true [some (.int l), some (.int h), some (.int J), some (.int B), r] := by
        subst ht
        simp only [x_seq, x_seq1, x_seq2, x_seq3, x_seq4, x_seq5, x_seq6, x_nil, x_if, x_if1, x_if2, x_if3, x_ret, x_ret1, x_ret2, x_ret3, x_retN, x_asg, x_asg1, x_asg2, x_asg3, x_asg4, x_asg5, x_gN, x_drop, x_drop1, x_drop2, x_bk, x_ct, x_raise, x_tZ, x_tZ1, x_tZ2, x_tE, x_tE1, x_tE2, x_tE3, x_tAnd, x_tAnd1, x_tAnd2, x_tAnd3, x_tOr, x_tOr1, x_tOr2, x_tOr3, x_tNot, x_tNot1, x_tNot2, x_tNot3, x_tTrue, x_z2, x_z21, x_z1, x_z11, x_zC, x_zC1, x_za, x_za1, x_za0, x_zV, x_zK, x_ch, x_ch1, x_ch2, x_eZ, x_eZ1, x_eZ2, x_eV, x_eV1, x_eM, x_eM1, x_b1, x_b2, x_b3, x_s1, x_s2, x_s3, x_oO, x_oO2, x_e2, x_e1, x_eC, x_aN, x_aC, x_tup, x_lst, x_call, x_oC1, x_oC2, x_call0, x_call01, x_eAnd, x_eAnd1, x_eOr, x_eOr1, x_eNot, x_eNot1, x_eIf, x_eIf1, x_fz_int, x_fr_int, x_fz_bl, x_fr_bl, x_fz_str, x_fr_str, x_fz_ty, x_fr_ty, x_fz_tup, x_fr_tup, x_fz_cst, x_fr_cst, x_fz_lst_false, x_fr_lst_false, x_fz_non, x_fr_non, x_fz_lt, x_fr_lt, x_fL0, x_fL1, x_cF, x_cR1, x_cR2, x_cR3, x_iL, x_iL1, x_iT, x_iT1, x_iS, x_iS1, x_iR1, x_iR11, x_iR2, x_iR21, x_iE, x_iE1, x_iV, x_iV1, x_iZ, x_iZ1, x_for, x_fo0, x_fo1, x_fo2, x_fo3, x_fo4, x_fo5, x_fo6, x_fo7, x_gT, x_gC, x_gC0, x_try, x_try1, x_try2, x_try3, x_try4, x_try5, x_nx1, x_nx2, x_try6, x_try7, x_nx3, x_nx4, x_app, x_app1, x_app2, x_lc, x_lcE, x_lc0, x_lc1, x_lcG, x_w0, x_w1, vMinL4, vMaxL4, vAll3, vAny3, vAll4, vAny4, x_wh1, x_wh2, x_wh0, x_abs, vI_ii, vI_ib, vI_it, vI_il, vI_is, vI_bb, vI_bi, vI_tt, vI_tl, vI_ti, vI_ll, vI_lt, vI_ss, vEqB, vNeB, x_ta, x_ta1, x_ta2, x_ta3, x_ta4, x_ta5, x_is, nc_0, nc_1, nc_2, nc_3, nc_4, nc_5, nc_6, nc_7, nc_8, nc_9, nc_10, nc_11, vMax2, vMin2, vIsN0, vIsN1, vNotN0, vNotN1, vIsN2, vNotN2, x_lo, x_lo1, x_lo2, vAll2, vAny2, x_sl, x_sl1, x_sl2, x_pn, x_ps, x_ps1, x_cutL, x_cutC, vEqS, vNeS, List.getD_cons_zero, List.getD_cons_succ, List.set_cons_zero, List.set_cons_succ, List.map_cons, List.map_nil, List.replicate_zero, List.replicate_succ, List.length_cons, List.length_nil, List.cons_append, List.nil_append, Option.bind_some, if_true, if_false, Bool.false_eq_true, Nat.reduceSub, Nat.reduceAdd, Nat.reduceLeDiff, Nat.reduceLT, vAdd, vSub, vLt, vLe, vGt, vGe, vNeg, vEq, vNe, vEq2, vNe2, vMod, vDiv, vMul, vPow, Int.reduceToNat, vIx0, vIx1, vLenT, vLenC, vLenL, reduceIte, decide_true, decide_false, Bool.not_true, Bool.not_false, beq_self_eq_true, Bool.and_true, Bool.true_and, Bool.and_self, Bool.and_false, Bool.false_and, q]
      obtain ⟨g, hc⟩ : ∃ g, (l + h) / 2 = g := ⟨_, rfl⟩
      have c1 : l ≤ g := by omega
      have c2 : g < h := by omega
      have em := multiplied_j (w := 60) (by decide) (show g.natAbs < 2 ^ 60 by omega) M m6 eJ (by omega) (by omega)
      rw [e1, x_wh1]
      by_cases k : B ≤ g ^ M
      · have e2 : c [some (.int l), some (.int h), some (.int J), some (.int B), r] = .nx [some (.int l), some (.int g), some (.int J), some (.int B), some (.int g)] := by
          subst hb
          simp (disch := decide) only [x_seq, x_seq1, x_seq2, x_seq3, x_seq4, x_seq5, x_seq6, x_nil, x_if, x_if1, x_if2, x_if3, x_ret, x_ret1, x_ret2, x_ret3, x_retN, x_asg, x_asg1, x_asg2, x_asg3, x_asg4, x_asg5, x_gN, x_drop, x_drop1, x_drop2, x_bk, x_ct, x_raise, x_tZ, x_tZ1, x_tZ2, x_tE, x_tE1, x_tE2, x_tE3, x_tAnd, x_tAnd1, x_tAnd2, x_tAnd3, x_tOr, x_tOr1, x_tOr2, x_tOr3, x_tNot, x_tNot1, x_tNot2, x_tNot3, x_tTrue, x_z2, x_z21, x_z1, x_z11, x_zC, x_zC1, x_za, x_za1, x_za0, x_zV, x_zK, x_ch, x_ch1, x_ch2, x_eZ, x_eZ1, x_eZ2, x_eV, x_eV1, x_eM, x_eM1, x_b1, x_b2, x_b3, x_s1, x_s2, x_s3, x_oO, x_oO2, x_e2, x_e1, x_eC, x_aN, x_aC, x_tup, x_lst, x_call, x_oC1, x_oC2, x_call0, x_call01, x_eAnd, x_eAnd1, x_eOr, x_eOr1, x_eNot, x_eNot1, x_eIf, x_eIf1, x_fz_int, x_fr_int, x_fz_bl, x_fr_bl, x_fz_str, x_fr_str, x_fz_ty, x_fr_ty, x_fz_tup, x_fr_tup, x_fz_cst, x_fr_cst, x_fz_lst_false, x_fr_lst_false, x_fz_non, x_fr_non, x_fz_lt, x_fr_lt, x_fL0, x_fL1, x_cF, x_cR1, x_cR2, x_cR3, x_iL, x_iL1, x_iT, x_iT1, x_iS, x_iS1, x_iR1, x_iR11, x_iR2, x_iR21, x_iE, x_iE1, x_iV, x_iV1, x_iZ, x_iZ1, x_for, x_fo0, x_fo1, x_fo2, x_fo3, x_fo4, x_fo5, x_fo6, x_fo7, x_gT, x_gC, x_gC0, x_try, x_try1, x_try2, x_try3, x_try4, x_try5, x_nx1, x_nx2, x_try6, x_try7, x_nx3, x_nx4, x_app, x_app1, x_app2, x_lc, x_lcE, x_lc0, x_lc1, x_lcG, x_w0, x_w1, vMinL4, vMaxL4, vAll3, vAny3, vAll4, vAny4, x_wh1, x_wh2, x_wh0, x_abs, vI_ii, vI_ib, vI_it, vI_il, vI_is, vI_bb, vI_bi, vI_tt, vI_tl, vI_ti, vI_ll, vI_lt, vI_ss, vEqB, vNeB, x_ta, x_ta1, x_ta2, x_ta3, x_ta4, x_ta5, x_is, nc_0, nc_1, nc_2, nc_3, nc_4, nc_5, nc_6, nc_7, nc_8, nc_9, nc_10, nc_11, vMax2, vMin2, vIsN0, vIsN1, vNotN0, vNotN1, vIsN2, vNotN2, x_lo, x_lo1, x_lo2, vAll2, vAny2, x_sl, x_sl1, x_sl2, x_pn, x_ps, x_ps1, x_cutL, x_cutC, vEqS, vNeS, List.getD_cons_zero, List.getD_cons_succ, List.set_cons_zero, List.set_cons_succ, List.map_cons, List.map_nil, List.replicate_zero, List.replicate_succ, List.length_cons, List.length_nil, List.cons_append, List.nil_append, Option.bind_some, if_true, if_false, Bool.false_eq_true, Nat.reduceSub, Nat.reduceAdd, Nat.reduceLeDiff, Nat.reduceLT, vAdd, vSub, vLt, vLe, vGt, vGe, vNeg, vEq, vNe, vEq2, vNe2, vMod, vDiv, vMul, vPow, Int.reduceToNat, vIx0, vIx1, vLenT, vLenC, vLenL, reduceIte, decide_true, decide_false, Bool.not_true, Bool.not_false, beq_self_eq_true, Bool.and_true, Bool.true_and, Bool.and_self, Bool.and_false, Bool.false_and, hc, em, k]
        rw [e2]
        exact above_loop s0 s1 ht hb n l g (some (.int g)) (by omega) h1 c1 (by omega) k m2
      · have e2 : c [some (.int l), some (.int h), some (.int J), some (.int B), r] = .nx [some (.int (g + 1)), some (.int h), some (.int J), some (.int B), some (.int g)] := by
          subst hb
          simp (disch := decide) only [x_seq, x_seq1, x_seq2, x_seq3, x_seq4, x_seq5, x_seq6, x_nil, x_if, x_if1, x_if2, x_if3, x_ret, x_ret1, x_ret2, x_ret3, x_retN, x_asg, x_asg1, x_asg2, x_asg3, x_asg4, x_asg5, x_gN, x_drop, x_drop1, x_drop2, x_bk, x_ct, x_raise, x_tZ, x_tZ1, x_tZ2, x_tE, x_tE1, x_tE2, x_tE3, x_tAnd, x_tAnd1, x_tAnd2, x_tAnd3, x_tOr, x_tOr1, x_tOr2, x_tOr3, x_tNot, x_tNot1, x_tNot2, x_tNot3, x_tTrue, x_z2, x_z21, x_z1, x_z11, x_zC, x_zC1, x_za, x_za1, x_za0, x_zV, x_zK, x_ch, x_ch1, x_ch2, x_eZ, x_eZ1, x_eZ2, x_eV, x_eV1, x_eM, x_eM1, x_b1, x_b2, x_b3, x_s1, x_s2, x_s3, x_oO, x_oO2, x_e2, x_e1, x_eC, x_aN, x_aC, x_tup, x_lst, x_call, x_oC1, x_oC2, x_call0, x_call01, x_eAnd, x_eAnd1, x_eOr, x_eOr1, x_eNot, x_eNot1, x_eIf, x_eIf1, x_fz_int, x_fr_int, x_fz_bl, x_fr_bl, x_fz_str, x_fr_str, x_fz_ty, x_fr_ty, x_fz_tup, x_fr_tup, x_fz_cst, x_fr_cst, x_fz_lst_false, x_fr_lst_false, x_fz_non, x_fr_non, x_fz_lt, x_fr_lt, x_fL0, x_fL1, x_cF, x_cR1, x_cR2, x_cR3, x_iL, x_iL1, x_iT, x_iT1, x_iS, x_iS1, x_iR1, x_iR11, x_iR2, x_iR21, x_iE, x_iE1, x_iV, x_iV1, x_iZ, x_iZ1, x_for, x_fo0, x_fo1, x_fo2, x_fo3, x_fo4, x_fo5, x_fo6, x_fo7, x_gT, x_gC, x_gC0, x_try, x_try1, x_try2, x_try3, x_try4, x_try5, x_nx1, x_nx2, x_try6, x_try7, x_nx3, x_nx4, x_app, x_app1, x_app2, x_lc, x_lcE, x_lc0, x_lc1, x_lcG, x_w0, x_w1, vMinL4, vMaxL4, vAll3, vAny3, vAll4, vAny4, x_wh1, x_wh2, x_wh0, x_abs, vI_ii, vI_ib, vI_it, vI_il, vI_is, vI_bb, vI_bi, vI_tt, vI_tl, vI_ti, vI_ll, vI_lt, vI_ss, vEqB, vNeB, x_ta, x_ta1, x_ta2, x_ta3, x_ta4, x_ta5, x_is, nc_0, nc_1, nc_2, nc_3, nc_4, nc_5, nc_6, nc_7, nc_8, nc_9, nc_10, nc_11, vMax2, vMin2, vIsN0, vIsN1, vNotN0, vNotN1, vIsN2, vNotN2, x_lo, x_lo1, x_lo2, vAll2, vAny2, x_sl, x_sl1, x_sl2, x_pn, x_ps, x_ps1, x_cutL, x_cutC, vEqS, vNeS, List.getD_cons_zero, List.getD_cons_succ, List.set_cons_zero, List.set_cons_succ, List.map_cons, List.map_nil, List.replicate_zero, List.replicate_succ, List.length_cons, List.length_nil, List.cons_append, List.nil_append, Option.bind_some, if_true, if_false, Bool.false_eq_true, Nat.reduceSub, Nat.reduceAdd, Nat.reduceLeDiff, Nat.reduceLT, vAdd, vSub, vLt, vLe, vGt, vGe, vNeg, vEq, vNe, vEq2, vNe2, vMod, vDiv, vMul, vPow, Int.reduceToNat, vIx0, vIx1, vLenT, vLenC, vLenL, reduceIte, decide_true, decide_false, Bool.not_true, Bool.not_false, beq_self_eq_true, Bool.and_true, Bool.true_and, Bool.and_self, Bool.and_false, Bool.false_and, hc, em, k]
        rw [e2]
        exact above_loop s0 s1 ht hb n (g + 1) h (some (.int g)) (by omega) (by omega) (by omega) h3 m1 (.inr (by rw [show g + 1 - 1 = g by omega]; exact Int.not_le.mp k))
    · have e1 : t [some (.int l), some (.int h), some (.int J), some (.int B), r] = .ok false [some (.int l), some (.int h), some (.int J), some (.int B), r] := by
        subst ht
        simp only [x_seq, x_seq1, x_seq2, x_seq3, x_seq4, x_seq5, x_seq6, x_nil, x_if, x_if1, x_if2, x_if3, x_ret, x_ret1, x_ret2, x_ret3, x_retN, x_asg, x_asg1, x_asg2, x_asg3, x_asg4, x_asg5, x_gN, x_drop, x_drop1, x_drop2, x_bk, x_ct, x_raise, x_tZ, x_tZ1, x_tZ2, x_tE, x_tE1, x_tE2, x_tE3, x_tAnd, x_tAnd1, x_tAnd2, x_tAnd3, x_tOr, x_tOr1, x_tOr2, x_tOr3, x_tNot, x_tNot1, x_tNot2, x_tNot3, x_tTrue, x_z2, x_z21, x_z1, x_z11, x_zC, x_zC1, x_za, x_za1, x_za0, x_zV, x_zK, x_ch, x_ch1, x_ch2, x_eZ, x_eZ1, x_eZ2, x_eV, x_eV1, x_eM, x_eM1, x_b1, x_b2, x_b3, x_s1, x_s2, x_s3, x_oO, x_oO2, x_e2, x_e1, x_eC, x_aN, x_aC, x_tup, x_lst, x_call, x_oC1, x_oC2, x_call0, x_call01, x_eAnd, x_eAnd1, x_eOr, x_eOr1, x_eNot, x_eNot1, x_eIf, x_eIf1, x_fz_int, x_fr_int, x_fz_bl, x_fr_bl, x_fz_str, x_fr_str, x_fz_ty, x_fr_ty, x_fz_tup, x_fr_tup, x_fz_cst, x_fr_cst, x_fz_lst_false, x_fr_lst_false, x_fz_non, x_fr_non, x_fz_lt, x_fr_lt, x_fL0, x_fL1, x_cF, x_cR1, x_cR2, x_cR3, x_iL, x_iL1, x_iT, x_iT1, x_iS, x_iS1, x_iR1, x_iR11, x_iR2, x_iR21, x_iE, x_iE1, x_iV, x_iV1, x_iZ, x_iZ1, x_for, x_fo0, x_fo1, x_fo2, x_fo3, x_fo4, x_fo5, x_fo6, x_fo7, x_gT, x_gC, x_gC0, x_try, x_try1, x_try2, x_try3, x_try4, x_try5, x_nx1, x_nx2, x_try6, x_try7, x_nx3, x_nx4, x_app, x_app1, x_app2, x_lc, x_lcE, x_lc0, x_lc1, x_lcG, x_w0, x_w1, vMinL4, vMaxL4, vAll3, vAny3, vAll4, vAny4, x_wh1, x_wh2, x_wh0, x_abs, vI_ii, vI_ib, vI_it, vI_il, vI_is, vI_bb, vI_bi, vI_tt, vI_tl, vI_ti, vI_ll, vI_lt, vI_ss, vEqB, vNeB, x_ta, x_ta1, x_ta2, x_ta3, x_ta4, x_ta5, x_is, nc_0, nc_1, nc_2, nc_3, nc_4, nc_5, nc_6, nc_7, nc_8, nc_9, nc_10, nc_11, vMax2, vMin2, vIsN0, vIsN1, vNotN0, vNotN1, vIsN2, vNotN2, x_lo, x_lo1, x_lo2, vAll2, vAny2, x_sl, x_sl1, x_sl2, x_pn, x_ps, x_ps1, x_cutL, x_cutC, vEqS, vNeS, List.getD_cons_zero, List.getD_cons_succ, List.set_cons_zero, List.set_cons_succ, List.map_cons, List.map_nil, List.replicate_zero, List.replicate_succ, List.length_cons, List.length_nil, List.cons_append, List.nil_append, Option.bind_some, if_true, if_false, Bool.false_eq_true, Nat.reduceSub, Nat.reduceAdd, Nat.reduceLeDiff, Nat.reduceLT, vAdd, vSub, vLt, vLe, vGt, vGe, vNeg, vEq, vNe, vEq2, vNe2, vMod, vDiv, vMul, vPow, Int.reduceToNat, vIx0, vIx1, vLenT, vLenC, vLenL, reduceIte, decide_true, decide_false, Bool.not_true, Bool.not_false, beq_self_eq_true, Bool.and_true, Bool.true_and, Bool.and_self, Bool.and_false, Bool.false_and, q]
      have e : l = h := by omega
      subst e
      exact ⟨l, r, by rw [e1, x_wh2], h1, h3, m1, m2⟩
theorem below_ok {a b B : Int} (ab : a ≤ b) (s0 : a.natAbs < 2 ^ 59) (s1 : b.natAbs < 2 ^ 59) (h : P M a < B) : ∃ f, f_root_below [.int a, .int b, .int J, .int B] = .ok (.int f) ∧ a ≤ f ∧ f ≤ b ∧ P M f ≤ B ∧ (f = b ∨ B < P M (f + 1)) := by
  obtain ⟨L, r, e, l⟩ := below_loop m6 eJ j0 j1 s0 s1 rfl rfl ((b - a).toNat + 1) a b none (by omega) (Int.le_refl _) ab (Int.le_refl _) (Int.le_of_lt h) (.inl rfl)
  refine ⟨L, ?_, l⟩
  clear l
  simp (disch := decide) only [f_root_below, m_root_below, u_root_below_1, fuel_root_below1, x_seq, x_seq1, x_seq2, x_seq3, x_seq4, x_seq5, x_seq6, x_nil, x_if, x_if1, x_if2, x_if3, x_ret, x_ret1, x_ret2, x_ret3, x_retN, x_asg, x_asg1, x_asg2, x_asg3, x_asg4, x_asg5, x_gN, x_drop, x_drop1, x_drop2, x_bk, x_ct, x_raise, x_tZ, x_tZ1, x_tZ2, x_tE, x_tE1, x_tE2, x_tE3, x_tAnd, x_tAnd1, x_tAnd2, x_tAnd3, x_tOr, x_tOr1, x_tOr2, x_tOr3, x_tNot, x_tNot1, x_tNot2, x_tNot3, x_tTrue, x_z2, x_z21, x_z1, x_z11, x_zC, x_zC1, x_za, x_za1, x_za0, x_zV, x_zK, x_ch, x_ch1, x_ch2, x_eZ, x_eZ1, x_eZ2, x_eV, x_eV1, x_eM, x_eM1, x_b1, x_b2, x_b3, x_s1, x_s2, x_s3, x_oO, x_oO2, x_e2, x_e1, x_eC, x_aN, x_aC, x_tup, x_lst, x_call, x_oC1, x_oC2, x_call0, x_call01, x_eAnd, x_eAnd1, x_eOr, x_eOr1, x_eNot, x_eNot1, x_eIf, x_eIf1, x_fz_int, x_fr_int, x_fz_bl, x_fr_bl, x_fz_str, x_fr_str, x_fz_ty, x_fr_ty, x_fz_tup, x_fr_tup, x_fz_cst, x_fr_cst, x_fz_lst_false, x_fr_lst_false, x_fz_non, x_fr_non, x_fz_lt, x_fr_lt, x_fL0, x_fL1, x_cF, x_cR1, x_cR2, x_cR3, x_iL, x_iL1, x_iT, x_iT1, x_iS, x_iS1, x_iR1, x_iR11, x_iR2, x_iR21, x_iE, x_iE1, x_iV, x_iV1, x_iZ, x_iZ1, x_for, x_fo0, x_fo1, x_fo2, x_fo3, x_fo4, x_fo5, x_fo6, x_fo7, x_gT, x_gC, x_gC0, x_try, x_try1, x_try2, x_try3, x_try4, x_try5, x_nx1, x_nx2, x_try6, x_try7, x_nx3, x_nx4, x_app, x_app1, x_app2, x_lc, x_lcE, x_lc0, x_lc1, x_lcG, x_w0, x_w1, vMinL4, vMaxL4, vAll3, vAny3, vAll4, vAny4, x_wh1, x_wh2, x_wh0, x_abs, vI_ii, vI_ib, vI_it, vI_il, vI_is, vI_bb, vI_bi, vI_tt, vI_tl, vI_ti, vI_ll, vI_lt, vI_ss, vEqB, vNeB, x_ta, x_ta1, x_ta2, x_ta3, x_ta4, x_ta5, x_is, nc_0, nc_1, nc_2, nc_3, nc_4, nc_5, nc_6, nc_7, nc_8, nc_9, nc_10, nc_11, vMax2, vMin2, vIsN0, vIsN1, vNotN0, vNotN1, vIsN2, vNotN2, x_lo, x_lo1, x_lo2, vAll2, vAny2, x_sl, x_sl1, x_sl2, x_pn, x_ps, x_ps1, x_cutL, x_cutC, vEqS, vNeS, List.getD_cons_zero, List.getD_cons_succ, List.set_cons_zero, List.set_cons_succ, List.map_cons, List.map_nil, List.replicate_zero, List.replicate_succ, List.length_cons, List.length_nil, List.cons_append, List.nil_append, Option.bind_some, if_true, if_false, Bool.false_eq_true, Nat.reduceSub, Nat.reduceAdd, Nat.reduceLeDiff, Nat.reduceLT, vAdd, vSub, vLt, vLe, vGt, vGe, vNeg, vEq, vNe, vEq2, vNe2, vMod, vDiv, vMul, vPow, Int.reduceToNat, vIx0, vIx1, vLenT, vLenC, vLenL, reduceIte, decide_true, decide_false, Bool.not_true, Bool.not_false, beq_self_eq_true, Bool.and_true, Bool.true_and, Bool.and_self, Bool.and_false, Bool.false_and, e]
theorem above_ok {a b B : Int} (ab : a ≤ b) (s0 : a.natAbs < 2 ^ 59) (s1 : b.natAbs < 2 ^ 59) (h : B < P M b) : ∃ f, f_root_above [.int a, .int b, .int J, .int B] = .ok (.int f) ∧ a ≤ f ∧ f ≤ b ∧ B ≤ P M f ∧ (f = a ∨ P M (f - 1) < B) := by
  obtain ⟨L, r, e, l⟩ := above_loop m6 eJ j0 j1 s0 s1 rfl rfl ((b - a).toNat + 1) a b none (by omega) (Int.le_refl _) ab (Int.le_refl _) (Int.le_of_lt h) (.inl rfl)
  refine ⟨L, ?_, l⟩
  clear l
  simp (disch := decide) only [f_root_above, m_root_above, u_root_above_1, fuel_root_above1, x_seq, x_seq1, x_seq2, x_seq3, x_seq4, x_seq5, x_seq6, x_nil, x_if, x_if1, x_if2, x_if3, x_ret, x_ret1, x_ret2, x_ret3, x_retN, x_asg, x_asg1, x_asg2, x_asg3, x_asg4, x_asg5, x_gN, x_drop, x_drop1, x_drop2, x_bk, x_ct, x_raise, x_tZ, x_tZ1, x_tZ2, x_tE, x_tE1, x_tE2, x_tE3, x_tAnd, x_tAnd1, x_tAnd2, x_tAnd3, x_tOr, x_tOr1, x_tOr2, x_tOr3, x_tNot, x_tNot1, x_tNot2, x_tNot3, x_tTrue, x_z2, x_z21, x_z1, x_z11, x_zC, x_zC1, x_za, x_za1, x_za0, x_zV, x_zK, x_ch, x_ch1, x_ch2, x_eZ, x_eZ1, x_eZ2, x_eV, x_eV1, x_eM, x_eM1, x_b1, x_b2, x_b3, x_s1, x_s2, x_s3, x_oO, x_oO2, x_e2, x_e1, x_eC, x_aN, x_aC, x_tup, x_lst, x_call, x_oC1, x_oC2, x_call0, x_call01, x_eAnd, x_eAnd1, x_eOr, x_eOr1, x_eNot, x_eNot1, x_eIf, x_eIf1, x_fz_int, x_fr_int, x_fz_bl, x_fr_bl, x_fz_str, x_fr_str, x_fz_ty, x_fr_ty, x_fz_tup, x_fr_tup, x_fz_cst, x_fr_cst, x_fz_lst_false, x_fr_lst_false, x_fz_non, x_fr_non, x_fz_lt, x_fr_lt, x_fL0, x_fL1, x_cF, x_cR1, x_cR2, x_cR3, x_iL, x_iL1, x_iT, x_iT1, x_iS, x_iS1, x_iR1, x_iR11, x_iR2, x_iR21, x_iE, x_iE1, x_iV, x_iV1, x_iZ, x_iZ1, x_for, x_fo0, x_fo1, x_fo2, x_fo3, x_fo4, x_fo5, x_fo6, x_fo7, x_gT, x_gC, x_gC0, x_try, x_try1, x_try2, x_try3, x_try4, x_try5, x_nx1, x_nx2, x_try6, x_try7, x_nx3, x_nx4, x_app, x_app1, x_app2, x_lc, x_lcE, x_lc0, x_lc1, x_lcG, x_w0, x_w1, vMinL4, vMaxL4, vAll3, vAny3, vAll4, vAny4, x_wh1, x_wh2, x_wh0, x_abs, vI_ii, vI_ib, vI_it, vI_il, vI_is, vI_bb, vI_bi, vI_tt, vI_tl, vI_ti, vI_ll, vI_lt, vI_ss, vEqB, vNeB, x_ta, x_ta1, x_ta2, x_ta3, x_ta4, x_ta5, x_is, nc_0, nc_1, nc_2, nc_3, nc_4, nc_5, nc_6, nc_7, nc_8, nc_9, nc_10, nc_11, vMax2, vMin2, vIsN0, vIsN1, vNotN0, vNotN1, vIsN2, vNotN2, x_lo, x_lo1, x_lo2, vAll2, vAny2, x_sl, x_sl1, x_sl2, x_pn, x_ps, x_ps1, x_cutL, x_cutC, vEqS, vNeS, List.getD_cons_zero, List.getD_cons_succ, List.set_cons_zero, List.set_cons_succ, List.map_cons, List.map_nil, List.replicate_zero, List.replicate_succ, List.length_cons, List.length_nil, List.cons_append, List.nil_append, Option.bind_some, if_true, if_false, Bool.false_eq_true, Nat.reduceSub, Nat.reduceAdd, Nat.reduceLeDiff, Nat.reduceLT, vAdd, vSub, vLt, vLe, vGt, vGe, vNeg, vEq, vNe, vEq2, vNe2, vMod, vDiv, vMul, vPow, Int.reduceToNat, vIx0, vIx1, vLenT, vLenC, vLenL, reduceIte, decide_true, decide_false, Bool.not_true, Bool.not_false, beq_self_eq_true, Bool.and_true, Bool.true_and, Bool.and_self, Bool.and_false, Bool.false_and, e]
theorem rising_ok {a b lo hi : Int} (ab : a ≤ b) (s0 : a.natAbs < 2 ^ 59) (s1 : b.natAbs < 2 ^ 59) : ∃ o, f_rising [.tup [.int a, .int b], .int J, .int lo, .int hi] = .ok (oD o) ∧ Rs (P M) a b lo hi o := by
  have e1 := multiplied_j (w := 60) (by decide) (show a.natAbs < 2 ^ 60 by omega) M m6 eJ (by omega) (by omega)
  have e2 := multiplied_j (w := 60) (by decide) (show b.natAbs < 2 ^ 60 by omega) M m6 eJ (by omega) (by omega)
  by_cases h1 : b ^ M < lo
  · refine ⟨none, ?_, .inl ⟨rfl, .inl h1⟩⟩
    clear ab s0 s1
    simp (disch := decide) only [f_rising, m_rising, x_seq, x_seq1, x_seq2, x_seq3, x_seq4, x_seq5, x_seq6, x_nil, x_if, x_if1, x_if2, x_if3, x_ret, x_ret1, x_ret2, x_ret3, x_retN, x_asg, x_asg1, x_asg2, x_asg3, x_asg4, x_asg5, x_gN, x_drop, x_drop1, x_drop2, x_bk, x_ct, x_raise, x_tZ, x_tZ1, x_tZ2, x_tE, x_tE1, x_tE2, x_tE3, x_tAnd, x_tAnd1, x_tAnd2, x_tAnd3, x_tOr, x_tOr1, x_tOr2, x_tOr3, x_tNot, x_tNot1, x_tNot2, x_tNot3, x_tTrue, x_z2, x_z21, x_z1, x_z11, x_zC, x_zC1, x_za, x_za1, x_za0, x_zV, x_zK, x_ch, x_ch1, x_ch2, x_eZ, x_eZ1, x_eZ2, x_eV, x_eV1, x_eM, x_eM1, x_b1, x_b2, x_b3, x_s1, x_s2, x_s3, x_oO, x_oO2, x_e2, x_e1, x_eC, x_aN, x_aC, x_tup, x_lst, x_call, x_oC1, x_oC2, x_call0, x_call01, x_eAnd, x_eAnd1, x_eOr, x_eOr1, x_eNot, x_eNot1, x_eIf, x_eIf1, x_fz_int, x_fr_int, x_fz_bl, x_fr_bl, x_fz_str, x_fr_str, x_fz_ty, x_fr_ty, x_fz_tup, x_fr_tup, x_fz_cst, x_fr_cst, x_fz_lst_false, x_fr_lst_false, x_fz_non, x_fr_non, x_fz_lt, x_fr_lt, x_fL0, x_fL1, x_cF, x_cR1, x_cR2, x_cR3, x_iL, x_iL1, x_iT, x_iT1, x_iS, x_iS1, x_iR1, x_iR11, x_iR2, x_iR21, x_iE, x_iE1, x_iV, x_iV1, x_iZ, x_iZ1, x_for, x_fo0, x_fo1, x_fo2, x_fo3, x_fo4, x_fo5, x_fo6, x_fo7, x_gT, x_gC, x_gC0, x_try, x_try1, x_try2, x_try3, x_try4, x_try5, x_nx1, x_nx2, x_try6, x_try7, x_nx3, x_nx4, x_app, x_app1, x_app2, x_lc, x_lcE, x_lc0, x_lc1, x_lcG, x_w0, x_w1, vMinL4, vMaxL4, vAll3, vAny3, vAll4, vAny4, x_wh1, x_wh2, x_wh0, x_abs, vI_ii, vI_ib, vI_it, vI_il, vI_is, vI_bb, vI_bi, vI_tt, vI_tl, vI_ti, vI_ll, vI_lt, vI_ss, vEqB, vNeB, x_ta, x_ta1, x_ta2, x_ta3, x_ta4, x_ta5, x_is, nc_0, nc_1, nc_2, nc_3, nc_4, nc_5, nc_6, nc_7, nc_8, nc_9, nc_10, nc_11, vMax2, vMin2, vIsN0, vIsN1, vNotN0, vNotN1, vIsN2, vNotN2, x_lo, x_lo1, x_lo2, vAll2, vAny2, x_sl, x_sl1, x_sl2, x_pn, x_ps, x_ps1, x_cutL, x_cutC, vEqS, vNeS, List.getD_cons_zero, List.getD_cons_succ, List.set_cons_zero, List.set_cons_succ, List.map_cons, List.map_nil, List.replicate_zero, List.replicate_succ, List.length_cons, List.length_nil, List.cons_append, List.nil_append, Option.bind_some, if_true, if_false, Bool.false_eq_true, Nat.reduceSub, Nat.reduceAdd, Nat.reduceLeDiff, Nat.reduceLT, vAdd, vSub, vLt, vLe, vGt, vGe, vNeg, vEq, vNe, vEq2, vNe2, vMod, vDiv, vMul, vPow, Int.reduceToNat, vIx0, vIx1, vLenT, vLenC, vLenL, reduceIte, decide_true, decide_false, Bool.not_true, Bool.not_false, beq_self_eq_true, Bool.and_true, Bool.true_and, Bool.and_self, Bool.and_false, Bool.false_and, e1, e2, h1, oD]
  by_cases h2 : hi < a ^ M
  · refine ⟨none, ?_, .inl ⟨rfl, .inr h2⟩⟩
    clear ab s0 s1
    simp (disch := decide) only [f_rising, m_rising, x_seq, x_seq1, x_seq2, x_seq3, x_seq4, x_seq5, x_seq6, x_nil, x_if, x_if1, x_if2, x_if3, x_ret, x_ret1, x_ret2, x_ret3, x_retN, x_asg, x_asg1, x_asg2, x_asg3, x_asg4, x_asg5, x_gN, x_drop, x_drop1, x_drop2, x_bk, x_ct, x_raise, x_tZ, x_tZ1, x_tZ2, x_tE, x_tE1, x_tE2, x_tE3, x_tAnd, x_tAnd1, x_tAnd2, x_tAnd3, x_tOr, x_tOr1, x_tOr2, x_tOr3, x_tNot, x_tNot1, x_tNot2, x_tNot3, x_tTrue, x_z2, x_z21, x_z1, x_z11, x_zC, x_zC1, x_za, x_za1, x_za0, x_zV, x_zK, x_ch, x_ch1, x_ch2, x_eZ, x_eZ1, x_eZ2, x_eV, x_eV1, x_eM, x_eM1, x_b1, x_b2, x_b3, x_s1, x_s2, x_s3, x_oO, x_oO2, x_e2, x_e1, x_eC, x_aN, x_aC, x_tup, x_lst, x_call, x_oC1, x_oC2, x_call0, x_call01, x_eAnd, x_eAnd1, x_eOr, x_eOr1, x_eNot, x_eNot1, x_eIf, x_eIf1, x_fz_int, x_fr_int, x_fz_bl, x_fr_bl, x_fz_str, x_fr_str, x_fz_ty, x_fr_ty, x_fz_tup, x_fr_tup, x_fz_cst, x_fr_cst, x_fz_lst_false, x_fr_lst_false, x_fz_non, x_fr_non, x_fz_lt, x_fr_lt, x_fL0, x_fL1, x_cF, x_cR1, x_cR2, x_cR3, x_iL, x_iL1, x_iT, x_iT1, x_iS, x_iS1, x_iR1, x_iR11, x_iR2, x_iR21, x_iE, x_iE1, x_iV, x_iV1, x_iZ, x_iZ1, x_for, x_fo0, x_fo1, x_fo2, x_fo3, x_fo4, x_fo5, x_fo6, x_fo7, x_gT, x_gC, x_gC0, x_try, x_try1, x_try2, x_try3, x_try4, x_try5, x_nx1, x_nx2, x_try6, x_try7, x_nx3, x_nx4, x_app, x_app1, x_app2, x_lc, x_lcE, x_lc0, x_lc1, x_lcG, x_w0, x_w1, vMinL4, vMaxL4, vAll3, vAny3, vAll4, vAny4, x_wh1, x_wh2, x_wh0, x_abs, vI_ii, vI_ib, vI_it, vI_il, vI_is, vI_bb, vI_bi, vI_tt, vI_tl, vI_ti, vI_ll, vI_lt, vI_ss, vEqB, vNeB, x_ta, x_ta1, x_ta2, x_ta3, x_ta4, x_ta5, x_is, nc_0, nc_1, nc_2, nc_3, nc_4, nc_5, nc_6, nc_7, nc_8, nc_9, nc_10, nc_11, vMax2, vMin2, vIsN0, vIsN1, vNotN0, vNotN1, vIsN2, vNotN2, x_lo, x_lo1, x_lo2, vAll2, vAny2, x_sl, x_sl1, x_sl2, x_pn, x_ps, x_ps1, x_cutL, x_cutC, vEqS, vNeS, List.getD_cons_zero, List.getD_cons_succ, List.set_cons_zero, List.set_cons_succ, List.map_cons, List.map_nil, List.replicate_zero, List.replicate_succ, List.length_cons, List.length_nil, List.cons_append, List.nil_append, Option.bind_some, if_true, if_false, Bool.false_eq_true, Nat.reduceSub, Nat.reduceAdd, Nat.reduceLeDiff, Nat.reduceLT, vAdd, vSub, vLt, vLe, vGt, vGe, vNeg, vEq, vNe, vEq2, vNe2, vMod, vDiv, vMul, vPow, Int.reduceToNat, vIx0, vIx1, vLenT, vLenC, vLenL, reduceIte, decide_true, decide_false, Bool.not_true, Bool.not_false, beq_self_eq_true, Bool.and_true, Bool.true_and, Bool.and_self, Bool.and_false, Bool.false_and, e1, e2, h1, h2, oD]
  have F : ∃ f, (a ^ M < lo → f_root_below [.int a, .int b, .int J, .int lo] = .ok (.int f)) ∧ (¬ a ^ M < lo → f = a) ∧ Fst (P M) a b lo f := by
    by_cases h3 : a ^ M < lo
    · obtain ⟨f, e, k⟩ := below_ok m6 eJ j0 j1 ab s0 s1 (B := lo) h3
      exact ⟨f, fun _ => e, fun z => absurd h3 z, .inr ⟨h3, k⟩⟩
    · exact ⟨a, fun z => absurd z h3, fun _ => rfl, .inl ⟨Int.not_lt.mp h3, rfl⟩⟩
  have G : ∃ f, (hi < b ^ M → f_root_above [.int a, .int b, .int J, .int hi] = .ok (.int f)) ∧ (¬ hi < b ^ M → f = b) ∧ Lst (P M) a b hi f := by
    by_cases h3 : hi < b ^ M
    · obtain ⟨f, e, k⟩ := above_ok m6 eJ j0 j1 ab s0 s1 (B := hi) h3
      exact ⟨f, fun _ => e, fun z => absurd h3 z, .inr ⟨h3, k⟩⟩
    · exact ⟨b, fun z => absurd z h3, fun _ => rfl, .inl ⟨Int.not_lt.mp h3, rfl⟩⟩
  obtain ⟨f, f1, f2, F⟩ := F
  obtain ⟨l, l1, l2, G⟩ := G
  refine ⟨some (f, l), ?_, .inr ⟨f, l, rfl, Int.not_lt.mp h1, Int.not_lt.mp h2, F, G⟩⟩
  clear F G ab s0 s1
  by_cases h3 : a ^ M < lo
  · have f1' := f1 h3
    clear f1 f2
    by_cases h4 : hi < b ^ M
    · have l1' := l1 h4
      clear l1 l2
      simp (disch := decide) only [f_rising, m_rising, x_seq, x_seq1, x_seq2, x_seq3, x_seq4, x_seq5, x_seq6, x_nil, x_if, x_if1, x_if2, x_if3, x_ret, x_ret1, x_ret2, x_ret3, x_retN, x_asg, x_asg1, x_asg2, x_asg3, x_asg4, x_asg5, x_gN, x_drop, x_drop1, x_drop2, x_bk, x_ct, x_raise, x_tZ, x_tZ1, x_tZ2, x_tE, x_tE1, x_tE2, x_tE3, x_tAnd, x_tAnd1, x_tAnd2, x_tAnd3, x_tOr, x_tOr1, x_tOr2, x_tOr3, x_tNot, x_tNot1, x_tNot2, x_tNot3, x_tTrue, x_z2, x_z21, x_z1, x_z11, x_zC, x_zC1, x_za, x_za1, x_za0, x_zV, x_zK, x_ch, x_ch1, x_ch2, x_eZ, x_eZ1, x_eZ2, x_eV, x_eV1, x_eM, x_eM1, x_b1, x_b2, x_b3, x_s1, x_s2, x_s3, x_oO, x_oO2, x_e2, x_e1, x_eC, x_aN, x_aC, x_tup, x_lst, x_call, x_oC1, x_oC2, x_call0, x_call01, x_eAnd, x_eAnd1, x_eOr, x_eOr1, x_eNot, x_eNot1, x_eIf, x_eIf1, x_fz_int, x_fr_int, x_fz_bl, x_fr_bl, x_fz_str, x_fr_str, x_fz_ty, x_fr_ty, x_fz_tup, x_fr_tup, x_fz_cst, x_fr_cst, x_fz_lst_false, x_fr_lst_false, x_fz_non, x_fr_non, x_fz_lt, x_fr_lt, x_fL0, x_fL1, x_cF, x_cR1, x_cR2, x_cR3, x_iL, x_iL1, x_iT, x_iT1, x_iS, x_iS1, x_iR1, x_iR11, x_iR2, x_iR21, x_iE, x_iE1, x_iV, x_iV1, x_iZ, x_iZ1, x_for, x_fo0, x_fo1, x_fo2, x_fo3, x_fo4, x_fo5, x_fo6, x_fo7, x_gT, x_gC, x_gC0, x_try, x_try1, x_try2, x_try3, x_try4, x_try5, x_nx1, x_nx2, x_try6, x_try7, x_nx3, x_nx4, x_app, x_app1, x_app2, x_lc, x_lcE, x_lc0, x_lc1, x_lcG, x_w0, x_w1, vMinL4, vMaxL4, vAll3, vAny3, vAll4, vAny4, x_wh1, x_wh2, x_wh0, x_abs, vI_ii, vI_ib, vI_it, vI_il, vI_is, vI_bb, vI_bi, vI_tt, vI_tl, vI_ti, vI_ll, vI_lt, vI_ss, vEqB, vNeB, x_ta, x_ta1, x_ta2, x_ta3, x_ta4, x_ta5, x_is, nc_0, nc_1, nc_2, nc_3, nc_4, nc_5, nc_6, nc_7, nc_8, nc_9, nc_10, nc_11, vMax2, vMin2, vIsN0, vIsN1, vNotN0, vNotN1, vIsN2, vNotN2, x_lo, x_lo1, x_lo2, vAll2, vAny2, x_sl, x_sl1, x_sl2, x_pn, x_ps, x_ps1, x_cutL, x_cutC, vEqS, vNeS, List.getD_cons_zero, List.getD_cons_succ, List.set_cons_zero, List.set_cons_succ, List.map_cons, List.map_nil, List.replicate_zero, List.replicate_succ, List.length_cons, List.length_nil, List.cons_append, List.nil_append, Option.bind_some, if_true, if_false, Bool.false_eq_true, Nat.reduceSub, Nat.reduceAdd, Nat.reduceLeDiff, Nat.reduceLT, vAdd, vSub, vLt, vLe, vGt, vGe, vNeg, vEq, vNe, vEq2, vNe2, vMod, vDiv, vMul, vPow, Int.reduceToNat, vIx0, vIx1, vLenT, vLenC, vLenL, reduceIte, decide_true, decide_false, Bool.not_true, Bool.not_false, beq_self_eq_true, Bool.and_true, Bool.true_and, Bool.and_self, Bool.and_false, Bool.false_and, e1, e2, h1, h2, h3, h4, f1', l1', oD]
    · have l1' := l2 h4
      clear l1 l2
      simp (disch := decide) only [f_rising, m_rising, x_seq, x_seq1, x_seq2, x_seq3, x_seq4, x_seq5, x_seq6, x_nil, x_if, x_if1, x_if2, x_if3, x_ret, x_ret1, x_ret2, x_ret3, x_retN, x_asg, x_asg1, x_asg2, x_asg3, x_asg4, x_asg5, x_gN, x_drop, x_drop1, x_drop2, x_bk, x_ct, x_raise, x_tZ, x_tZ1, x_tZ2, x_tE, x_tE1, x_tE2, x_tE3, x_tAnd, x_tAnd1, x_tAnd2, x_tAnd3, x_tOr, x_tOr1, x_tOr2, x_tOr3, x_tNot, x_tNot1, x_tNot2, x_tNot3, x_tTrue, x_z2, x_z21, x_z1, x_z11, x_zC, x_zC1, x_za, x_za1, x_za0, x_zV, x_zK, x_ch, x_ch1, x_ch2, x_eZ, x_eZ1, x_eZ2, x_eV, x_eV1, x_eM, x_eM1, x_b1, x_b2, x_b3, x_s1, x_s2, x_s3, x_oO, x_oO2, x_e2, x_e1, x_eC, x_aN, x_aC, x_tup, x_lst, x_call, x_oC1, x_oC2, x_call0, x_call01, x_eAnd, x_eAnd1, x_eOr, x_eOr1, x_eNot, x_eNot1, x_eIf, x_eIf1, x_fz_int, x_fr_int, x_fz_bl, x_fr_bl, x_fz_str, x_fr_str, x_fz_ty, x_fr_ty, x_fz_tup, x_fr_tup, x_fz_cst, x_fr_cst, x_fz_lst_false, x_fr_lst_false, x_fz_non, x_fr_non, x_fz_lt, x_fr_lt, x_fL0, x_fL1, x_cF, x_cR1, x_cR2, x_cR3, x_iL, x_iL1, x_iT, x_iT1, x_iS, x_iS1, x_iR1, x_iR11, x_iR2, x_iR21, x_iE, x_iE1, x_iV, x_iV1, x_iZ, x_iZ1, x_for, x_fo0, x_fo1, x_fo2, x_fo3, x_fo4, x_fo5, x_fo6, x_fo7, x_gT, x_gC, x_gC0, x_try, x_try1, x_try2, x_try3, x_try4, x_try5, x_nx1, x_nx2, x_try6, x_try7, x_nx3, x_nx4, x_app, x_app1, x_app2, x_lc, x_lcE, x_lc0, x_lc1, x_lcG, x_w0, x_w1, vMinL4, vMaxL4, vAll3, vAny3, vAll4, vAny4, x_wh1, x_wh2, x_wh0, x_abs, vI_ii, vI_ib, vI_it, vI_il, vI_is, vI_bb, vI_bi, vI_tt, vI_tl, vI_ti, vI_ll, vI_lt, vI_ss, vEqB, vNeB, x_ta, x_ta1, x_ta2, x_ta3, x_ta4, x_ta5, x_is, nc_0, nc_1, nc_2, nc_3, nc_4, nc_5, nc_6, nc_7, nc_8, nc_9, nc_10, nc_11, vMax2, vMin2, vIsN0, vIsN1, vNotN0, vNotN1, vIsN2, vNotN2, x_lo, x_lo1, x_lo2, vAll2, vAny2, x_sl, x_sl1, x_sl2, x_pn, x_ps, x_ps1, x_cutL, x_cutC, vEqS, vNeS, List.getD_cons_zero, List.getD_cons_succ, List.set_cons_zero, List.set_cons_succ, List.map_cons, List.map_nil, List.replicate_zero, List.replicate_succ, List.length_cons, List.length_nil, List.cons_append, List.nil_append, Option.bind_some, if_true, if_false, Bool.false_eq_true, Nat.reduceSub, Nat.reduceAdd, Nat.reduceLeDiff, Nat.reduceLT, vAdd, vSub, vLt, vLe, vGt, vGe, vNeg, vEq, vNe, vEq2, vNe2, vMod, vDiv, vMul, vPow, Int.reduceToNat, vIx0, vIx1, vLenT, vLenC, vLenL, reduceIte, decide_true, decide_false, Bool.not_true, Bool.not_false, beq_self_eq_true, Bool.and_true, Bool.true_and, Bool.and_self, Bool.and_false, Bool.false_and, e1, e2, h1, h2, h3, h4, f1', l1', oD]
  · have f1' := f2 h3
    clear f1 f2
    by_cases h4 : hi < b ^ M
    · have l1' := l1 h4
      clear l1 l2
      simp (disch := decide) only [f_rising, m_rising, x_seq, x_seq1, x_seq2, x_seq3, x_seq4, x_seq5, x_seq6, x_nil, x_if, x_if1, x_if2, x_if3, x_ret, x_ret1, x_ret2, x_ret3, x_retN, x_asg, x_asg1, x_asg2, x_asg3, x_asg4, x_asg5, x_gN, x_drop, x_drop1, x_drop2, x_bk, x_ct, x_raise, x_tZ, x_tZ1, x_tZ2, x_tE, x_tE1, x_tE2, x_tE3, x_tAnd, x_tAnd1, x_tAnd2, x_tAnd3, x_tOr, x_tOr1, x_tOr2, x_tOr3, x_tNot, x_tNot1, x_tNot2, x_tNot3, x_tTrue, x_z2, x_z21, x_z1, x_z11, x_zC, x_zC1, x_za, x_za1, x_za0, x_zV, x_zK, x_ch, x_ch1, x_ch2, x_eZ, x_eZ1, x_eZ2, x_eV, x_eV1, x_eM, x_eM1, x_b1, x_b2, x_b3, x_s1, x_s2, x_s3, x_oO, x_oO2, x_e2, x_e1, x_eC, x_aN, x_aC, x_tup, x_lst, x_call, x_oC1, x_oC2, x_call0, x_call01, x_eAnd, x_eAnd1, x_eOr, x_eOr1, x_eNot, x_eNot1, x_eIf, x_eIf1, x_fz_int, x_fr_int, x_fz_bl, x_fr_bl, x_fz_str, x_fr_str, x_fz_ty, x_fr_ty, x_fz_tup, x_fr_tup, x_fz_cst, x_fr_cst, x_fz_lst_false, x_fr_lst_false, x_fz_non, x_fr_non, x_fz_lt, x_fr_lt, x_fL0, x_fL1, x_cF, x_cR1, x_cR2, x_cR3, x_iL, x_iL1, x_iT, x_iT1, x_iS, x_iS1, x_iR1, x_iR11, x_iR2, x_iR21, x_iE, x_iE1, x_iV, x_iV1, x_iZ, x_iZ1, x_for, x_fo0, x_fo1, x_fo2, x_fo3, x_fo4, x_fo5, x_fo6, x_fo7, x_gT, x_gC, x_gC0, x_try, x_try1, x_try2, x_try3, x_try4, x_try5, x_nx1, x_nx2, x_try6, x_try7, x_nx3, x_nx4, x_app, x_app1, x_app2, x_lc, x_lcE, x_lc0, x_lc1, x_lcG, x_w0, x_w1, vMinL4, vMaxL4, vAll3, vAny3, vAll4, vAny4, x_wh1, x_wh2, x_wh0, x_abs, vI_ii, vI_ib, vI_it, vI_il, vI_is, vI_bb, vI_bi, vI_tt, vI_tl, vI_ti, vI_ll, vI_lt, vI_ss, vEqB, vNeB, x_ta, x_ta1, x_ta2, x_ta3, x_ta4, x_ta5, x_is, nc_0, nc_1, nc_2, nc_3, nc_4, nc_5, nc_6, nc_7, nc_8, nc_9, nc_10, nc_11, vMax2, vMin2, vIsN0, vIsN1, vNotN0, vNotN1, vIsN2, vNotN2, x_lo, x_lo1, x_lo2, vAll2, vAny2, x_sl, x_sl1, x_sl2, x_pn, x_ps, x_ps1, x_cutL, x_cutC, vEqS, vNeS, List.getD_cons_zero, List.getD_cons_succ, List.set_cons_zero, List.set_cons_succ, List.map_cons, List.map_nil, List.replicate_zero, List.replicate_succ, List.length_cons, List.length_nil, List.cons_append, List.nil_append, Option.bind_some, if_true, if_false, Bool.false_eq_true, Nat.reduceSub, Nat.reduceAdd, Nat.reduceLeDiff, Nat.reduceLT, vAdd, vSub, vLt, vLe, vGt, vGe, vNeg, vEq, vNe, vEq2, vNe2, vMod, vDiv, vMul, vPow, Int.reduceToNat, vIx0, vIx1, vLenT, vLenC, vLenL, reduceIte, decide_true, decide_false, Bool.not_true, Bool.not_false, beq_self_eq_true, Bool.and_true, Bool.true_and, Bool.and_self, Bool.and_false, Bool.false_and, e1, e2, h1, h2, h3, h4, f1', l1', oD]
    · have l1' := l2 h4
      clear l1 l2
      simp (disch := decide) only [f_rising, m_rising, x_seq, x_seq1, x_seq2, x_seq3, x_seq4, x_seq5, x_seq6, x_nil, x_if, x_if1, x_if2, x_if3, x_ret, x_ret1, x_ret2, x_ret3, x_retN, x_asg, x_asg1, x_asg2, x_asg3, x_asg4, x_asg5, x_gN, x_drop, x_drop1, x_drop2, x_bk, x_ct, x_raise, x_tZ, x_tZ1, x_tZ2, x_tE, x_tE1, x_tE2, x_tE3, x_tAnd, x_tAnd1, x_tAnd2, x_tAnd3, x_tOr, x_tOr1, x_tOr2, x_tOr3, x_tNot, x_tNot1, x_tNot2, x_tNot3, x_tTrue, x_z2, x_z21, x_z1, x_z11, x_zC, x_zC1, x_za, x_za1, x_za0, x_zV, x_zK, x_ch, x_ch1, x_ch2, x_eZ, x_eZ1, x_eZ2, x_eV, x_eV1, x_eM, x_eM1, x_b1, x_b2, x_b3, x_s1, x_s2, x_s3, x_oO, x_oO2, x_e2, x_e1, x_eC, x_aN, x_aC, x_tup, x_lst, x_call, x_oC1, x_oC2, x_call0, x_call01, x_eAnd, x_eAnd1, x_eOr, x_eOr1, x_eNot, x_eNot1, x_eIf, x_eIf1, x_fz_int, x_fr_int, x_fz_bl, x_fr_bl, x_fz_str, x_fr_str, x_fz_ty, x_fr_ty, x_fz_tup, x_fr_tup, x_fz_cst, x_fr_cst, x_fz_lst_false, x_fr_lst_false, x_fz_non, x_fr_non, x_fz_lt, x_fr_lt, x_fL0, x_fL1, x_cF, x_cR1, x_cR2, x_cR3, x_iL, x_iL1, x_iT, x_iT1, x_iS, x_iS1, x_iR1, x_iR11, x_iR2, x_iR21, x_iE, x_iE1, x_iV, x_iV1, x_iZ, x_iZ1, x_for, x_fo0, x_fo1, x_fo2, x_fo3, x_fo4, x_fo5, x_fo6, x_fo7, x_gT, x_gC, x_gC0, x_try, x_try1, x_try2, x_try3, x_try4, x_try5, x_nx1, x_nx2, x_try6, x_try7, x_nx3, x_nx4, x_app, x_app1, x_app2, x_lc, x_lcE, x_lc0, x_lc1, x_lcG, x_w0, x_w1, vMinL4, vMaxL4, vAll3, vAny3, vAll4, vAny4, x_wh1, x_wh2, x_wh0, x_abs, vI_ii, vI_ib, vI_it, vI_il, vI_is, vI_bb, vI_bi, vI_tt, vI_tl, vI_ti, vI_ll, vI_lt, vI_ss, vEqB, vNeB, x_ta, x_ta1, x_ta2, x_ta3, x_ta4, x_ta5, x_is, nc_0, nc_1, nc_2, nc_3, nc_4, nc_5, nc_6, nc_7, nc_8, nc_9, nc_10, nc_11, vMax2, vMin2, vIsN0, vIsN1, vNotN0, vNotN1, vIsN2, vNotN2, x_lo, x_lo1, x_lo2, vAll2, vAny2, x_sl, x_sl1, x_sl2, x_pn, x_ps, x_ps1, x_cutL, x_cutC, vEqS, vNeS, List.getD_cons_zero, List.getD_cons_succ, List.set_cons_zero, List.set_cons_succ, List.map_cons, List.map_nil, List.replicate_zero, List.replicate_succ, List.length_cons, List.length_nil, List.cons_append, List.nil_append, Option.bind_some, if_true, if_false, Bool.false_eq_true, Nat.reduceSub, Nat.reduceAdd, Nat.reduceLeDiff, Nat.reduceLT, vAdd, vSub, vLt, vLe, vGt, vGe, vNeg, vEq, vNe, vEq2, vNe2, vMod, vDiv, vMul, vPow, Int.reduceToNat, vIx0, vIx1, vLenT, vLenC, vLenL, reduceIte, decide_true, decide_false, Bool.not_true, Bool.not_false, beq_self_eq_true, Bool.and_true, Bool.true_and, Bool.and_self, Bool.and_false, Bool.false_and, e1, e2, h1, h2, h3, h4, f1', l1', oD]
theorem half1 {x0 x1 lo hi : Int} (x01 : x0 ≤ x1) (s0 : x0.natAbs < 2 ^ 59) (s1 : x1.natAbs < 2 ^ 59) (h : 0 ≤ x1) : ∃ o, f_rising [.tup [.int (mxI x0 0), .int x1], .int J, .int lo, .int hi] = .ok (oD o) ∧ Half (P M) 0 x1 x0 lo hi o := by
  have e := mx0 x0
  obtain ⟨o, k, R⟩ := rising_ok m6 eJ j0 j1 (a := mxI x0 0) (b := x1) (lo := lo) (hi := hi) (by rw [e]; split <;> omega) (by rw [e]; split <;> omega) s1
  exact ⟨o, k, .inl ⟨h, by rw [e] at R; exact R⟩⟩
/-- what the way back gives -/
def Bk (p : Int → Int) (ev : Bool) (x0 x1 lo hi : Int) (o : Option (Int × Int)) : Prop :=
  (ev = false ∧ Rs p x0 x1 lo hi o) ∨ (ev = true ∧ hi < 0 ∧ o = none) ∨ (ev = true ∧ 0 ≤ hi ∧ ∃ o1 o2 lo', (lo' = if 0 < lo then lo else 0) ∧ Half p 0 x1 x0 lo' hi o1 ∧ Half p 0 (-x0) (-x1) lo' hi o2 ∧ o = Jn o1 o2)
theorem back_ok {ev : Bool} (hev : ev = decide (M % 2 = 0)) {x0 x1 z0 z1 g J1 : Int} (m2 : 2 ≤ M) (eJ1 : J1.toNat = M - 1) (eJm : J - 1 = J1) (x01 : x0 ≤ x1) (s0 : x0.natAbs < 2 ^ 59) (s1 : x1.natAbs < 2 ^ 59) (sz0 : z0.natAbs < 2 ^ 700) (sz1 : z1.natAbs < 2 ^ 700) (g1 : 1 ≤ g) (sg : g.natAbs < 2 ^ 20) :
    ∃ o, f_back_power [.tup [.int z0, .int z1], .tup [.int x0, .int x1], .int J, .int g] = .ok (oD o) ∧ Bk (P M) ev x0 x1 (z0 * g ^ (M - 1)) (z1 * g ^ (M - 1)) o := by
  have e0 := multiplied_j (w := 20) (by decide) sg (M - 1) (by omega) eJ1 (by omega) (by omega)
  have sS : (g ^ (M - 1)).natAbs < 2 ^ 200 := up (pow_size sg (M - 1)) (by omega)
  generalize g ^ (M - 1) = S at *
  have w1 : L2.CMulW z0 S := mulW 700 200 sz0 sS (by decide)
  have w2 : L2.CMulW z1 S := mulW 700 200 sz1 sS (by decide)
  have hp := par1 m6 eJ j0 j1 ev hev
  clear sz0 sz1 sS sg g1
  generalize hlo : z0 * S = lo at *
  generalize hhi : z1 * S = hi at *
  cases q : ev with
  | false =>
    rw [q] at hp; simp only [Bool.not_true, Bool.not_false] at hp
    obtain ⟨o, e, R⟩ := rising_ok m6 eJ j0 j1 (lo := lo) (hi := hi) x01 s0 s1
    refine ⟨o, ?_, .inl ⟨rfl, R⟩⟩
    clear R x01 s0 s1 m6 m2 j0 j1 eJ eJ1
    rcases o with _ | ⟨u, v⟩ <;>
      simp (disch := decide) only [f_back_power, m_back_power, x_seq, x_seq1, x_seq2, x_seq3, x_seq4, x_seq5, x_seq6, x_nil, x_if, x_if1, x_if2, x_if3, x_ret, x_ret1, x_ret2, x_ret3, x_retN, x_asg, x_asg1, x_asg2, x_asg3, x_asg4, x_asg5, x_gN, x_drop, x_drop1, x_drop2, x_bk, x_ct, x_raise, x_tZ, x_tZ1, x_tZ2, x_tE, x_tE1, x_tE2, x_tE3, x_tAnd, x_tAnd1, x_tAnd2, x_tAnd3, x_tOr, x_tOr1, x_tOr2, x_tOr3, x_tNot, x_tNot1, x_tNot2, x_tNot3, x_tTrue, x_z2, x_z21, x_z1, x_z11, x_zC, x_zC1, x_za, x_za1, x_za0, x_zV, x_zK, x_ch, x_ch1, x_ch2, x_eZ, x_eZ1, x_eZ2, x_eV, x_eV1, x_eM, x_eM1, x_b1, x_b2, x_b3, x_s1, x_s2, x_s3, x_oO, x_oO2, x_e2, x_e1, x_eC, x_aN, x_aC, x_tup, x_lst, x_call, x_oC1, x_oC2, x_call0, x_call01, x_eAnd, x_eAnd1, x_eOr, x_eOr1, x_eNot, x_eNot1, x_eIf, x_eIf1, x_fz_int, x_fr_int, x_fz_bl, x_fr_bl, x_fz_str, x_fr_str, x_fz_ty, x_fr_ty, x_fz_tup, x_fr_tup, x_fz_cst, x_fr_cst, x_fz_lst_false, x_fr_lst_false, x_fz_non, x_fr_non, x_fz_lt, x_fr_lt, x_fL0, x_fL1, x_cF, x_cR1, x_cR2, x_cR3, x_iL, x_iL1, x_iT, x_iT1, x_iS, x_iS1, x_iR1, x_iR11, x_iR2, x_iR21, x_iE, x_iE1, x_iV, x_iV1, x_iZ, x_iZ1, x_for, x_fo0, x_fo1, x_fo2, x_fo3, x_fo4, x_fo5, x_fo6, x_fo7, x_gT, x_gC, x_gC0, x_try, x_try1, x_try2, x_try3, x_try4, x_try5, x_nx1, x_nx2, x_try6, x_try7, x_nx3, x_nx4, x_app, x_app1, x_app2, x_lc, x_lcE, x_lc0, x_lc1, x_lcG, x_w0, x_w1, vMinL4, vMaxL4, vAll3, vAny3, vAll4, vAny4, x_wh1, x_wh2, x_wh0, x_abs, vI_ii, vI_ib, vI_it, vI_il, vI_is, vI_bb, vI_bi, vI_tt, vI_tl, vI_ti, vI_ll, vI_lt, vI_ss, vEqB, vNeB, x_ta, x_ta1, x_ta2, x_ta3, x_ta4, x_ta5, x_is, nc_0, nc_1, nc_2, nc_3, nc_4, nc_5, nc_6, nc_7, nc_8, nc_9, nc_10, nc_11, vMax2, vMin2, vIsN0, vIsN1, vNotN0, vNotN1, vIsN2, vNotN2, x_lo, x_lo1, x_lo2, vAll2, vAny2, x_sl, x_sl1, x_sl2, x_pn, x_ps, x_ps1, x_cutL, x_cutC, vEqS, vNeS, List.getD_cons_zero, List.getD_cons_succ, List.set_cons_zero, List.set_cons_succ, List.map_cons, List.map_nil, List.replicate_zero, List.replicate_succ, List.length_cons, List.length_nil, List.cons_append, List.nil_append, Option.bind_some, if_true, if_false, Bool.false_eq_true, Nat.reduceSub, Nat.reduceAdd, Nat.reduceLeDiff, Nat.reduceLT, vAdd, vSub, vLt, vLe, vGt, vGe, vNeg, vEq, vNe, vEq2, vNe2, vMod, vDiv, vMul, vPow, Int.reduceToNat, vIx0, vIx1, vLenT, vLenC, vLenL, reduceIte, decide_true, decide_false, Bool.not_true, Bool.not_false, beq_self_eq_true, Bool.and_true, Bool.true_and, Bool.and_self, Bool.and_false, Bool.false_and, eJm, e0, vMul w1, vMul w2, hlo, hhi, hp, e, oD]
  | true =>
    rw [q] at hp; simp only [Bool.not_true, Bool.not_false] at hp
    by_cases h0 : hi < 0
    · refine ⟨none, ?_, .inr (.inl ⟨rfl, h0, rfl⟩)⟩
      clear x01 s0 s1 m6 m2 j0 j1 eJ eJ1
      simp (disch := decide) only [f_back_power, m_back_power, x_seq, x_seq1, x_seq2, x_seq3, x_seq4, x_seq5, x_seq6, x_nil, x_if, x_if1, x_if2, x_if3, x_ret, x_ret1, x_ret2, x_ret3, x_retN, x_asg, x_asg1, x_asg2, x_asg3, x_asg4, x_asg5, x_gN, x_drop, x_drop1, x_drop2, x_bk, x_ct, x_raise, x_tZ, x_tZ1, x_tZ2, x_tE, x_tE1, x_tE2, x_tE3, x_tAnd, x_tAnd1, x_tAnd2, x_tAnd3, x_tOr, x_tOr1, x_tOr2, x_tOr3, x_tNot, x_tNot1, x_tNot2, x_tNot3, x_tTrue, x_z2, x_z21, x_z1, x_z11, x_zC, x_zC1, x_za, x_za1, x_za0, x_zV, x_zK, x_ch, x_ch1, x_ch2, x_eZ, x_eZ1, x_eZ2, x_eV, x_eV1, x_eM, x_eM1, x_b1, x_b2, x_b3, x_s1, x_s2, x_s3, x_oO, x_oO2, x_e2, x_e1, x_eC, x_aN, x_aC, x_tup, x_lst, x_call, x_oC1, x_oC2, x_call0, x_call01, x_eAnd, x_eAnd1, x_eOr, x_eOr1, x_eNot, x_eNot1, x_eIf, x_eIf1, x_fz_int, x_fr_int, x_fz_bl, x_fr_bl, x_fz_str, x_fr_str, x_fz_ty, x_fr_ty, x_fz_tup, x_fr_tup, x_fz_cst, x_fr_cst, x_fz_lst_false, x_fr_lst_false, x_fz_non, x_fr_non, x_fz_lt, x_fr_lt, x_fL0, x_fL1, x_cF, x_cR1, x_cR2, x_cR3, x_iL, x_iL1, x_iT, x_iT1, x_iS, x_iS1, x_iR1, x_iR11, x_iR2, x_iR21, x_iE, x_iE1, x_iV, x_iV1, x_iZ, x_iZ1, x_for, x_fo0, x_fo1, x_fo2, x_fo3, x_fo4, x_fo5, x_fo6, x_fo7, x_gT, x_gC, x_gC0, x_try, x_try1, x_try2, x_try3, x_try4, x_try5, x_nx1, x_nx2, x_try6, x_try7, x_nx3, x_nx4, x_app, x_app1, x_app2, x_lc, x_lcE, x_lc0, x_lc1, x_lcG, x_w0, x_w1, vMinL4, vMaxL4, vAll3, vAny3, vAll4, vAny4, x_wh1, x_wh2, x_wh0, x_abs, vI_ii, vI_ib, vI_it, vI_il, vI_is, vI_bb, vI_bi, vI_tt, vI_tl, vI_ti, vI_ll, vI_lt, vI_ss, vEqB, vNeB, x_ta, x_ta1, x_ta2, x_ta3, x_ta4, x_ta5, x_is, nc_0, nc_1, nc_2, nc_3, nc_4, nc_5, nc_6, nc_7, nc_8, nc_9, nc_10, nc_11, vMax2, vMin2, vIsN0, vIsN1, vNotN0, vNotN1, vIsN2, vNotN2, x_lo, x_lo1, x_lo2, vAll2, vAny2, x_sl, x_sl1, x_sl2, x_pn, x_ps, x_ps1, x_cutL, x_cutC, vEqS, vNeS, List.getD_cons_zero, List.getD_cons_succ, List.set_cons_zero, List.set_cons_succ, List.map_cons, List.map_nil, List.replicate_zero, List.replicate_succ, List.length_cons, List.length_nil, List.cons_append, List.nil_append, Option.bind_some, if_true, if_false, Bool.false_eq_true, Nat.reduceSub, Nat.reduceAdd, Nat.reduceLeDiff, Nat.reduceLT, vAdd, vSub, vLt, vLe, vGt, vGe, vNeg, vEq, vNe, vEq2, vNe2, vMod, vDiv, vMul, vPow, Int.reduceToNat, vIx0, vIx1, vLenT, vLenC, vLenL, reduceIte, decide_true, decide_false, Bool.not_true, Bool.not_false, beq_self_eq_true, Bool.and_true, Bool.true_and, Bool.and_self, Bool.and_false, Bool.false_and, eJm, e0, vMul w1, vMul w2, hlo, hhi, hp, h0, oD]
    · have A : ∃ o1, (0 ≤ x1 → f_rising [.tup [.int (mxI x0 0), .int x1], .int J, .int (mxI lo 0), .int hi] = .ok (oD o1)) ∧ (¬ 0 ≤ x1 → o1 = none) ∧ Half (P M) 0 x1 x0 (mxI lo 0) hi o1 := by
        by_cases h : 0 ≤ x1
        · obtain ⟨o, e, H⟩ := half1 m6 eJ j0 j1 (lo := mxI lo 0) (hi := hi) x01 s0 s1 h
          exact ⟨o, fun _ => e, fun z => absurd h z, H⟩
        · exact ⟨none, fun z => absurd z h, fun _ => rfl, .inr ⟨by omega, rfl⟩⟩
      have A2 : ∃ o1, (x0 ≤ 0 → f_rising [.tup [.int (mxI (-x1) 0), .int (-x0)], .int J, .int (mxI lo 0), .int hi] = .ok (oD o1)) ∧ (¬ x0 ≤ 0 → o1 = none) ∧ Half (P M) 0 (-x0) (-x1) (mxI lo 0) hi o1 := by
        by_cases h : x0 ≤ 0
        · obtain ⟨o, e, H⟩ := half1 m6 eJ j0 j1 (x0 := -x1) (x1 := -x0) (lo := mxI lo 0) (hi := hi) (by omega) (by omega) (by omega) (by omega)
          exact ⟨o, fun _ => e, fun z => absurd h z, H⟩
        · exact ⟨none, fun z => absurd z h, fun _ => rfl, .inr ⟨by omega, rfl⟩⟩
      obtain ⟨o1, a1, a2, A⟩ := A
      obtain ⟨o2, b1, b2, B⟩ := A2
      refine ⟨Jn o1 o2, ?_, .inr (.inr ⟨rfl, Int.not_lt.mp h0, o1, o2, mxI lo 0, mx0 lo, A, B, rfl⟩)⟩
      clear A B x01 s0 s1 m6 m2 j0 j1 eJ eJ1
      by_cases h1 : 0 ≤ x1
      · have a1' := a1 h1
        clear a1 a2
        by_cases h2 : x0 ≤ 0
        · have b1' := b1 h2
          clear b1 b2
          rcases o1 with _ | ⟨u, v⟩ <;> rcases o2 with _ | ⟨u2, v2⟩ <;> simp only [oD] at a1' b1' <;>
            simp (disch := decide) only [f_back_power, m_back_power, f_both, m_both, f_hull, m_hull, x_seq, x_seq1, x_seq2, x_seq3, x_seq4, x_seq5, x_seq6, x_nil, x_if, x_if1, x_if2, x_if3, x_ret, x_ret1, x_ret2, x_ret3, x_retN, x_asg, x_asg1, x_asg2, x_asg3, x_asg4, x_asg5, x_gN, x_drop, x_drop1, x_drop2, x_bk, x_ct, x_raise, x_tZ, x_tZ1, x_tZ2, x_tE, x_tE1, x_tE2, x_tE3, x_tAnd, x_tAnd1, x_tAnd2, x_tAnd3, x_tOr, x_tOr1, x_tOr2, x_tOr3, x_tNot, x_tNot1, x_tNot2, x_tNot3, x_tTrue, x_z2, x_z21, x_z1, x_z11, x_zC, x_zC1, x_za, x_za1, x_za0, x_zV, x_zK, x_ch, x_ch1, x_ch2, x_eZ, x_eZ1, x_eZ2, x_eV, x_eV1, x_eM, x_eM1, x_b1, x_b2, x_b3, x_s1, x_s2, x_s3, x_oO, x_oO2, x_e2, x_e1, x_eC, x_aN, x_aC, x_tup, x_lst, x_call, x_oC1, x_oC2, x_call0, x_call01, x_eAnd, x_eAnd1, x_eOr, x_eOr1, x_eNot, x_eNot1, x_eIf, x_eIf1, x_fz_int, x_fr_int, x_fz_bl, x_fr_bl, x_fz_str, x_fr_str, x_fz_ty, x_fr_ty, x_fz_tup, x_fr_tup, x_fz_cst, x_fr_cst, x_fz_lst_false, x_fr_lst_false, x_fz_non, x_fr_non, x_fz_lt, x_fr_lt, x_fL0, x_fL1, x_cF, x_cR1, x_cR2, x_cR3, x_iL, x_iL1, x_iT, x_iT1, x_iS, x_iS1, x_iR1, x_iR11, x_iR2, x_iR21, x_iE, x_iE1, x_iV, x_iV1, x_iZ, x_iZ1, x_for, x_fo0, x_fo1, x_fo2, x_fo3, x_fo4, x_fo5, x_fo6, x_fo7, x_gT, x_gC, x_gC0, x_try, x_try1, x_try2, x_try3, x_try4, x_try5, x_nx1, x_nx2, x_try6, x_try7, x_nx3, x_nx4, x_app, x_app1, x_app2, x_lc, x_lcE, x_lc0, x_lc1, x_lcG, x_w0, x_w1, vMinL4, vMaxL4, vAll3, vAny3, vAll4, vAny4, x_wh1, x_wh2, x_wh0, x_abs, vI_ii, vI_ib, vI_it, vI_il, vI_is, vI_bb, vI_bi, vI_tt, vI_tl, vI_ti, vI_ll, vI_lt, vI_ss, vEqB, vNeB, x_ta, x_ta1, x_ta2, x_ta3, x_ta4, x_ta5, x_is, nc_0, nc_1, nc_2, nc_3, nc_4, nc_5, nc_6, nc_7, nc_8, nc_9, nc_10, nc_11, vMax2, vMin2, vIsN0, vIsN1, vNotN0, vNotN1, vIsN2, vNotN2, x_lo, x_lo1, x_lo2, vAll2, vAny2, x_sl, x_sl1, x_sl2, x_pn, x_ps, x_ps1, x_cutL, x_cutC, vEqS, vNeS, List.getD_cons_zero, List.getD_cons_succ, List.set_cons_zero, List.set_cons_succ, List.map_cons, List.map_nil, List.replicate_zero, List.replicate_succ, List.length_cons, List.length_nil, List.cons_append, List.nil_append, Option.bind_some, if_true, if_false, Bool.false_eq_true, Nat.reduceSub, Nat.reduceAdd, Nat.reduceLeDiff, Nat.reduceLT, vAdd, vSub, vLt, vLe, vGt, vGe, vNeg, vEq, vNe, vEq2, vNe2, vMod, vDiv, vMul, vPow, Int.reduceToNat, vIx0, vIx1, vLenT, vLenC, vLenL, reduceIte, decide_true, decide_false, Bool.not_true, Bool.not_false, beq_self_eq_true, Bool.and_true, Bool.true_and, Bool.and_self, Bool.and_false, Bool.false_and, eJm, e0, vMul w1, vMul w2, hlo, hhi, hp, h0, h1, h2, a1', b1', oD, Jn] <;> rfl
        · have b1' := b2 h2
          clear b1 b2
          subst b1'
          rcases o1 with _ | ⟨u, v⟩ <;> simp only [oD] at a1' <;>
            simp (disch := decide) only [f_back_power, m_back_power, f_both, m_both, f_hull, m_hull, x_seq, x_seq1, x_seq2, x_seq3, x_seq4, x_seq5, x_seq6, x_nil, x_if, x_if1, x_if2, x_if3, x_ret, x_ret1, x_ret2, x_ret3, x_retN, x_asg, x_asg1, x_asg2, x_asg3, x_asg4, x_asg5, x_gN, x_drop, x_drop1, x_drop2, x_bk, x_ct, x_raise, x_tZ, x_tZ1, x_tZ2, x_tE, x_tE1, x_tE2, x_tE3, x_tAnd, x_tAnd1, x_tAnd2, x_tAnd3, x_tOr, x_tOr1, x_tOr2, x_tOr3, x_tNot, x_tNot1, x_tNot2, x_tNot3, x_tTrue, x_z2, x_z21, x_z1, x_z11, x_zC, x_zC1, x_za, x_za1, x_za0, x_zV, x_zK, x_ch, x_ch1, x_ch2, x_eZ, x_eZ1, x_eZ2, x_eV, x_eV1, x_eM, x_eM1, x_b1, x_b2, x_b3, x_s1, x_s2, x_s3, x_oO, x_oO2, x_e2, x_e1, x_eC, x_aN, x_aC, x_tup, x_lst, x_call, x_oC1, x_oC2, x_call0, x_call01, x_eAnd, x_eAnd1, x_eOr, x_eOr1, x_eNot, x_eNot1, x_eIf, x_eIf1, x_fz_int, x_fr_int, x_fz_bl, x_fr_bl, x_fz_str, x_fr_str, x_fz_ty, x_fr_ty, x_fz_tup, x_fr_tup, x_fz_cst, x_fr_cst, x_fz_lst_false, x_fr_lst_false, x_fz_non, x_fr_non, x_fz_lt, x_fr_lt, x_fL0, x_fL1, x_cF, x_cR1, x_cR2, x_cR3, x_iL, x_iL1, x_iT, x_iT1, x_iS, x_iS1, x_iR1, x_iR11, x_iR2, x_iR21, x_iE, x_iE1, x_iV, x_iV1, x_iZ, x_iZ1, x_for, x_fo0, x_fo1, x_fo2, x_fo3, x_fo4, x_fo5, x_fo6, x_fo7, x_gT, x_gC, x_gC0, x_try, x_try1, x_try2, x_try3, x_try4, x_try5, x_nx1, x_nx2, x_try6, x_try7, x_nx3, x_nx4, x_app, x_app1, x_app2, x_lc, x_lcE, x_lc0, x_lc1, x_lcG, x_w0, x_w1, vMinL4, vMaxL4, vAll3, vAny3, vAll4, vAny4, x_wh1, x_wh2, x_wh0, x_abs, vI_ii, vI_ib, vI_it, vI_il, vI_is, vI_bb, vI_bi, vI_tt, vI_tl, vI_ti, vI_ll, vI_lt, vI_ss, vEqB, vNeB, x_ta, x_ta1, x_ta2, x_ta3, x_ta4, x_ta5, x_is, nc_0, nc_1, nc_2, nc_3, nc_4, nc_5, nc_6, nc_7, nc_8, nc_9, nc_10, nc_11, vMax2, vMin2, vIsN0, vIsN1, vNotN0, vNotN1, vIsN2, vNotN2, x_lo, x_lo1, x_lo2, vAll2, vAny2, x_sl, x_sl1, x_sl2, x_pn, x_ps, x_ps1, x_cutL, x_cutC, vEqS, vNeS, List.getD_cons_zero, List.getD_cons_succ, List.set_cons_zero, List.set_cons_succ, List.map_cons, List.map_nil, List.replicate_zero, List.replicate_succ, List.length_cons, List.length_nil, List.cons_append, List.nil_append, Option.bind_some, if_true, if_false, Bool.false_eq_true, Nat.reduceSub, Nat.reduceAdd, Nat.reduceLeDiff, Nat.reduceLT, vAdd, vSub, vLt, vLe, vGt, vGe, vNeg, vEq, vNe, vEq2, vNe2, vMod, vDiv, vMul, vPow, Int.reduceToNat, vIx0, vIx1, vLenT, vLenC, vLenL, reduceIte, decide_true, decide_false, Bool.not_true, Bool.not_false, beq_self_eq_true, Bool.and_true, Bool.true_and, Bool.and_self, Bool.and_false, Bool.false_and, eJm, e0, vMul w1, vMul w2, hlo, hhi, hp, h0, h1, h2, a1', oD, Jn]
      · have a1' := a2 h1
        clear a1 a2
        subst a1'
        by_cases h2 : x0 ≤ 0
        · have b1' := b1 h2
          clear b1 b2
          rcases o2 with _ | ⟨u2, v2⟩ <;> simp only [oD] at b1' <;>
            simp (disch := decide) only [f_back_power, m_back_power, f_both, m_both, f_hull, m_hull, x_seq, x_seq1, x_seq2, x_seq3, x_seq4, x_seq5, x_seq6, x_nil, x_if, x_if1, x_if2, x_if3, x_ret, x_ret1, x_ret2, x_ret3, x_retN, x_asg, x_asg1, x_asg2, x_asg3, x_asg4, x_asg5, x_gN, x_drop, x_drop1, x_drop2, x_bk, x_ct, x_raise, x_tZ, x_tZ1, x_tZ2, x_tE, x_tE1, x_tE2, x_tE3, x_tAnd, x_tAnd1, x_tAnd2, x_tAnd3, x_tOr, x_tOr1, x_tOr2, x_tOr3, x_tNot, x_tNot1, x_tNot2, x_tNot3, x_tTrue, x_z2, x_z21, x_z1, x_z11, x_zC, x_zC1, x_za, x_za1, x_za0, x_zV, x_zK, x_ch, x_ch1, x_ch2, x_eZ, x_eZ1, x_eZ2, x_eV, x_eV1, x_eM, x_eM1, x_b1, x_b2, x_b3, x_s1, x_s2, x_s3, x_oO, x_oO2, x_e2, x_e1, x_eC, x_aN, x_aC, x_tup, x_lst, x_call, x_oC1, x_oC2, x_call0, x_call01, x_eAnd, x_eAnd1, x_eOr, x_eOr1, x_eNot, x_eNot1, x_eIf, x_eIf1, x_fz_int, x_fr_int, x_fz_bl, x_fr_bl, x_fz_str, x_fr_str, x_fz_ty, x_fr_ty, x_fz_tup, x_fr_tup, x_fz_cst, x_fr_cst, x_fz_lst_false, x_fr_lst_false, x_fz_non, x_fr_non, x_fz_lt, x_fr_lt, x_fL0, x_fL1, x_cF, x_cR1, x_cR2, x_cR3, x_iL, x_iL1, x_iT, x_iT1, x_iS, x_iS1, x_iR1, x_iR11, x_iR2, x_iR21, x_iE, x_iE1, x_iV, x_iV1, x_iZ, x_iZ1, x_for, x_fo0, x_fo1, x_fo2, x_fo3, x_fo4, x_fo5, x_fo6, x_fo7, x_gT, x_gC, x_gC0, x_try, x_try1, x_try2, x_try3, x_try4, x_try5, x_nx1, x_nx2, x_try6, x_try7, x_nx3, x_nx4, x_app, x_app1, x_app2, x_lc, x_lcE, x_lc0, x_lc1, x_lcG, x_w0, x_w1, vMinL4, vMaxL4, vAll3, vAny3, vAll4, vAny4, x_wh1, x_wh2, x_wh0, x_abs, vI_ii, vI_ib, vI_it, vI_il, vI_is, vI_bb, vI_bi, vI_tt, vI_tl, vI_ti, vI_ll, vI_lt, vI_ss, vEqB, vNeB, x_ta, x_ta1, x_ta2, x_ta3, x_ta4, x_ta5, x_is, nc_0, nc_1, nc_2, nc_3, nc_4, nc_5, nc_6, nc_7, nc_8, nc_9, nc_10, nc_11, vMax2, vMin2, vIsN0, vIsN1, vNotN0, vNotN1, vIsN2, vNotN2, x_lo, x_lo1, x_lo2, vAll2, vAny2, x_sl, x_sl1, x_sl2, x_pn, x_ps, x_ps1, x_cutL, x_cutC, vEqS, vNeS, List.getD_cons_zero, List.getD_cons_succ, List.set_cons_zero, List.set_cons_succ, List.map_cons, List.map_nil, List.replicate_zero, List.replicate_succ, List.length_cons, List.length_nil, List.cons_append, List.nil_append, Option.bind_some, if_true, if_false, Bool.false_eq_true, Nat.reduceSub, Nat.reduceAdd, Nat.reduceLeDiff, Nat.reduceLT, vAdd, vSub, vLt, vLe, vGt, vGe, vNeg, vEq, vNe, vEq2, vNe2, vMod, vDiv, vMul, vPow, Int.reduceToNat, vIx0, vIx1, vLenT, vLenC, vLenL, reduceIte, decide_true, decide_false, Bool.not_true, Bool.not_false, beq_self_eq_true, Bool.and_true, Bool.true_and, Bool.and_self, Bool.and_false, Bool.false_and, eJm, e0, vMul w1, vMul w2, hlo, hhi, hp, h0, h1, h2, b1', oD, Jn]
        · have b1' := b2 h2
          clear b1 b2
          subst b1'
          simp (disch := decide) only [f_back_power, m_back_power, f_both, m_both, f_hull, m_hull, x_seq, x_seq1, x_seq2, x_seq3, x_seq4, x_seq5, x_seq6, x_nil, x_if, x_if1, x_if2, x_if3, x_ret, x_ret1, x_ret2, x_ret3, x_retN, x_asg, x_asg1, x_asg2, x_asg3, x_asg4, x_asg5, x_gN, x_drop, x_drop1, x_drop2, x_bk, x_ct, x_raise, x_tZ, x_tZ1, x_tZ2, x_tE, x_tE1, x_tE2, x_tE3, x_tAnd, x_tAnd1, x_tAnd2, x_tAnd3, x_tOr, x_tOr1, x_tOr2, x_tOr3, x_tNot, x_tNot1, x_tNot2, x_tNot3, x_tTrue, x_z2, x_z21, x_z1, x_z11, x_zC, x_zC1, x_za, x_za1, x_za0, x_zV, x_zK, x_ch, x_ch1, x_ch2, x_eZ, x_eZ1, x_eZ2, x_eV, x_eV1, x_eM, x_eM1, x_b1, x_b2, x_b3, x_s1, x_s2, x_s3, x_oO, x_oO2, x_e2, x_e1, x_eC, x_aN, x_aC, x_tup, x_lst, x_call, x_oC1, x_oC2, x_call0, x_call01, x_eAnd, x_eAnd1, x_eOr, x_eOr1, x_eNot, x_eNot1, x_eIf, x_eIf1, x_fz_int, x_fr_int, x_fz_bl, x_fr_bl, x_fz_str, x_fr_str, x_fz_ty, x_fr_ty, x_fz_tup, x_fr_tup, x_fz_cst, x_fr_cst, x_fz_lst_false, x_fr_lst_false, x_fz_non, x_fr_non, x_fz_lt, x_fr_lt, x_fL0, x_fL1, x_cF, x_cR1, x_cR2, x_cR3, x_iL, x_iL1, x_iT, x_iT1, x_iS, x_iS1, x_iR1, x_iR11, x_iR2, x_iR21, x_iE, x_iE1, x_iV, x_iV1, x_iZ, x_iZ1, x_for, x_fo0, x_fo1, x_fo2, x_fo3, x_fo4, x_fo5, x_fo6, x_fo7, x_gT, x_gC, x_gC0, x_try, x_try1, x_try2, x_try3, x_try4, x_try5, x_nx1, x_nx2, x_try6, x_try7, x_nx3, x_nx4, x_app, x_app1, x_app2, x_lc, x_lcE, x_lc0, x_lc1, x_lcG, x_w0, x_w1, vMinL4, vMaxL4, vAll3, vAny3, vAll4, vAny4, x_wh1, x_wh2, x_wh0, x_abs, vI_ii, vI_ib, vI_it, vI_il, vI_is, vI_bb, vI_bi, vI_tt, vI_tl, vI_ti, vI_ll, vI_lt, vI_ss, vEqB, vNeB, x_ta, x_ta1, x_ta2, x_ta3, x_ta4, x_ta5, x_is, nc_0, nc_1, nc_2, nc_3, nc_4, nc_5, nc_6, nc_7, nc_8, nc_9, nc_10, nc_11, vMax2, vMin2, vIsN0, vIsN1, vNotN0, vNotN1, vIsN2, vNotN2, x_lo, x_lo1, x_lo2, vAll2, vAny2, x_sl, x_sl1, x_sl2, x_pn, x_ps, x_ps1, x_cutL, x_cutC, vEqS, vNeS, List.getD_cons_zero, List.getD_cons_succ, List.set_cons_zero, List.set_cons_succ, List.map_cons, List.map_nil, List.replicate_zero, List.replicate_succ, List.length_cons, List.length_nil, List.cons_append, List.nil_append, Option.bind_some, if_true, if_false, Bool.false_eq_true, Nat.reduceSub, Nat.reduceAdd, Nat.reduceLeDiff, Nat.reduceLT, vAdd, vSub, vLt, vLe, vGt, vGe, vNeg, vEq, vNe, vEq2, vNe2, vMod, vDiv, vMul, vPow, Int.reduceToNat, vIx0, vIx1, vLenT, vLenC, vLenL, reduceIte, decide_true, decide_false, Bool.not_true, Bool.not_false, beq_self_eq_true, Bool.and_true, Bool.true_and, Bool.and_self, Bool.and_false, Bool.false_and, eJm, e0, vMul w1, vMul w2, hlo, hhi, hp, h0, h1, h2, oD, Jn]
end

theorem rs_le {p : Int → Int} {a b lo hi f l : Int} (inc : ∀ s t, a ≤ s → s < t → p s < p t) (ab : a ≤ b) (lh : lo ≤ hi) (F : Fst p a b lo f) (L : Lst p a b hi l) : f ≤ l := by
  have r1 := fst_rng ab F
  have r2 := lst_rng ab L
  rcases F with F | F
  · omega
  · rcases L with L | L
    · omega
    · rcases Int.lt_or_le l f with q | q
      · have := inc l f (by omega) q
        omega
      · exact q
def MDue (p : Int → Int) (ev : Bool) (lo hi x0 x1 d : Int) : Prop := (ev = true ∧ Due p true lo hi (-x1) (-x0) d) ∨ (ev = false ∧ Due p false (-hi) (-lo) (-x1) (-x0) d)
theorem agree {M : Nat} {ev : Bool} (hev : ev = decide (M % 2 = 0)) (n0 : M ≠ 0) {x0 x1 lo hi : Int} (lh : lo ≤ hi) (x01 : x0 ≤ x1) {o : Option (Int × Int)} (B : Bk (P M) ev x0 x1 lo hi o) :
    (o = none ∧ ¬ Meets (P M) ev lo hi x0 x1) ∨ (Meets (P M) ev lo hi x0 x1 ∧ ∃ g h, o = some (g, h) ∧ g ≤ h ∧ (∀ d, Due (P M) ev lo hi x0 x1 d → d = g) ∧ ∀ d, MDue (P M) ev lo hi x0 x1 d → -d = h) := by
  rcases B with ⟨q, R⟩ | ⟨q, h, rfl⟩ | ⟨q, h, o1, o2, lo', hlo, H1, H2, rfl⟩
  · have ho : M % 2 ≠ 0 := by rw [q] at hev; simpa using hev
    subst q
    have inc := p_inc ho
    rw [odd_meets inc x01]
    rcases R with ⟨rfl, R⟩ | ⟨f, l, rfl, k1, k2, F, L⟩
    · exact .inl ⟨rfl, by omega⟩
    · refine .inr ⟨⟨k2, k1⟩, f, l, rfl, rs_le (fun s t _ h => inc s t h) x01 lh F L, fun d D => odd_low inc lh k2 F D, fun d D => ?_⟩
      rcases D with ⟨z, _⟩ | ⟨_, D⟩
      · cases z
      · exact odd_high (p_odd ho) inc lh k1 L D
  · have he : M % 2 = 0 := by rw [q] at hev; simpa using hev.symm
    subst q
    refine .inl ⟨rfl, fun m => ?_⟩
    have nn := ev_nonneg (p_zero n0) (p_even he) (p_inc0 n0)
    have m1 := m.1
    have n1 := nn x0
    have n2 := nn x1
    unfold rmin at m1
    split at m1
    · omega
    · split at m1 <;> omega
  · have he : M % 2 = 0 := by rw [q] at hev; simpa using hev.symm
    subst q
    have P0 := p_zero n0
    have ev' := p_even he
    have inc := p_inc0 n0
    cases e : Jn o1 o2 with
    | none => exact .inl ⟨rfl, even_none P0 ev' inc lh h x01 hlo H1 H2 e⟩
    | some s =>
      obtain ⟨g, k⟩ := s
      refine .inr ⟨even_some P0 ev' inc lh h x01 hlo H1 H2 e, g, k, rfl, ?_, fun d D => even_low P0 ev' inc lh h x01 hlo H1 H2 e D, fun d D => ?_⟩
      · have lh' : lo' ≤ hi := by split at hlo <;> omega
        have w1 : ∀ f l, o1 = some (f, l) → f ≤ l := fun f l z => by
          rcases H1 with ⟨k, ⟨z', R⟩ | ⟨f', l', z', R1, R2, F, L⟩⟩ | ⟨k, z'⟩
          · rw [z'] at z; cases z
          · rw [z'] at z
            cases z
            exact rs_le (fun s t hs h => inc s t (by split at hs <;> omega) h) (by split <;> omega) lh' F L
          · rw [z'] at z; cases z
        have w2 : ∀ f l, o2 = some (f, l) → f ≤ l := fun f l z => by
          rcases H2 with ⟨k, ⟨z', R⟩ | ⟨f', l', z', R1, R2, F, L⟩⟩ | ⟨k, z'⟩
          · rw [z'] at z; cases z
          · rw [z'] at z
            cases z
            exact rs_le (fun s t hs h => inc s t (by split at hs <;> omega) h) (by split <;> omega) lh' F L
          · rw [z'] at z; cases z
        rcases o1 with _ | ⟨f1, l1⟩ <;> rcases o2 with _ | ⟨f2, l2⟩
        · cases e
        · cases e
          have := w2 _ _ rfl
          omega
        · cases e
          exact w1 _ _ rfl
        · cases e
          have := w1 _ _ rfl
          split <;> split <;> omega
      · rcases D with ⟨_, D⟩ | ⟨z, _⟩
        · exact even_high P0 ev' inc lh h x01 hlo H1 H2 e D
        · cases z
/-- a planted number lies in what is found -/
theorem planted {M : Nat} {ev : Bool} (hev : ev = decide (M % 2 = 0)) (n0 : M ≠ 0) {x0 x1 lo hi d1 d2 t : Int} (D1 : Due (P M) ev lo hi x0 x1 d1) (D2 : MDue (P M) ev lo hi x0 x1 d2) (h1 : x0 ≤ t) (h2 : t ≤ x1) (h3 : lo ≤ P M t) (h4 : P M t ≤ hi) : d1 ≤ t ∧ t ≤ -d2 := by
  refine ⟨due_le hev n0 h1 h3 h4 D1, ?_⟩
  have : d2 ≤ -t := by
    rcases D2 with ⟨q, D⟩ | ⟨q, D⟩
    · have he : M % 2 = 0 := by rw [q] at hev; simpa using hev.symm
      exact due_le (q ▸ hev) n0 (by omega) (by rw [p_even he]; exact h3) (by rw [p_even he]; exact h4) D
    · have ho : M % 2 ≠ 0 := by rw [q] at hev; simpa using hev
      exact due_le (q ▸ hev) n0 (by omega) (by rw [p_odd ho]; omega) (by rw [p_odd ho]; omega) D
  omega
theorem meets_of {M : Nat} {ev : Bool} (hev : ev = decide (M % 2 = 0)) (n0 : M ≠ 0) {x0 x1 lo hi t : Int} (h1 : x0 ≤ t) (h2 : t ≤ x1) (h3 : lo ≤ P M t) (h4 : P M t ≤ hi) : Meets (P M) ev lo hi x0 x1 := by
  have := in_range hev n0 h1 h2
  exact ⟨by omega, by omega⟩

theorem min_le_max (a b : Int) : mnI a b ≤ mxI a b := by
  have := mnI_le a b
  have := mxI_le a b
  omega
/-- from the way back on -/
theorem tail_ok (ns : List Int) {M : Nat} {ev : Bool} {K J J1 g x0 x1 z0 z1 one oth : Int} {e8 : D} {r11 : Option D} (pl : Bool) (hev : ev = decide (M % 2 = 0)) (m2 : 2 ≤ M) (m6 : M ≤ 6) (eJ : J.toNat = M) (j0 : 0 ≤ J) (j1 : J ≤ 10) (eJ1 : J1.toNat = M - 1) (eJm : J - 1 = J1)
    (x01 : x0 ≤ x1) (s0 : x0.natAbs < 2 ^ 59) (s1 : x1.natAbs < 2 ^ 59) (sz0 : z0.natAbs < 2 ^ 700) (sz1 : z1.natAbs < 2 ^ 700) (z01 : z0 ≤ z1) (g1 : 1 ≤ g) (sg : g.natAbs < 2 ^ 20)
    (hpl : pl = true → (x0 ≤ one ∧ one ≤ x1 ∧ z0 * g ^ (M - 1) ≤ P M one ∧ P M one ≤ z1 * g ^ (M - 1)) ∧ (x0 ≤ oth ∧ oth ≤ x1 ∧ z0 * g ^ (M - 1) ≤ P M oth ∧ P M oth ≤ z1 * g ^ (M - 1))) :
    callR (u_law_12 [some (.cst (ns.map D.int)), some (.int K), some (.int g), some (.tup [.int x0, .int x1]), some (.int J), some (.int (g ^ (M - 1))), some (.int one), some (.int oth), some e8, some (.tup [.int z0, .int z1]), some (.bl pl), r11, none, none]) = .ok (.bl true) := by
  have n0 : M ≠ 0 := by omega
  obtain ⟨o, e1, B⟩ := back_ok m6 eJ j0 j1 hev m2 eJ1 eJm x01 s0 s1 sz0 sz1 g1 sg
  have sS : (g ^ (M - 1)).natAbs < 2 ^ 200 := up (pow_size sg (M - 1)) (by omega)
  have S1 : 0 ≤ g ^ (M - 1) := pow_nonneg (by omega) _
  have lh : z0 * g ^ (M - 1) ≤ z1 * g ^ (M - 1) := Int.mul_le_mul_of_nonneg_right z01 S1
  have Dd := due_ok m6 eJ j0 j1 hev x01 s0 s1 sz0 sz1 sS
  have A := agree hev n0 lh x01 B
  generalize g ^ (M - 1) = S at *
  clear sz0 sz1 sS sg S1 s0 s1
  rcases A with ⟨rfl, nm⟩ | ⟨m, u, v, rfl, uv, A1, A2⟩
  · rcases Dd with ⟨_, e2⟩ | ⟨m, _⟩
    · have hp : pl = false := by
        cases h : pl with
        | false => rfl
        | true => exact absurd (meets_of hev n0 (hpl h).1.1 (hpl h).1.2.1 (hpl h).1.2.2.1 (hpl h).1.2.2.2) nm
      subst hp
      clear hpl B nm
      simp only [oD] at e1
      simp (disch := decide) only [u_law_12, u_law_13, u_law_14, x_seq, x_seq1, x_seq2, x_seq3, x_seq4, x_seq5, x_seq6, x_nil, x_if, x_if1, x_if2, x_if3, x_ret, x_ret1, x_ret2, x_ret3, x_retN, x_asg, x_asg1, x_asg2, x_asg3, x_asg4, x_asg5, x_gN, x_drop, x_drop1, x_drop2, x_bk, x_ct, x_raise, x_tZ, x_tZ1, x_tZ2, x_tE, x_tE1, x_tE2, x_tE3, x_tAnd, x_tAnd1, x_tAnd2, x_tAnd3, x_tOr, x_tOr1, x_tOr2, x_tOr3, x_tNot, x_tNot1, x_tNot2, x_tNot3, x_tTrue, x_z2, x_z21, x_z1, x_z11, x_zC, x_zC1, x_za, x_za1, x_za0, x_zV, x_zK, x_ch, x_ch1, x_ch2, x_eZ, x_eZ1, x_eZ2, x_eV, x_eV1, x_eM, x_eM1, x_b1, x_b2, x_b3, x_s1, x_s2, x_s3, x_oO, x_oO2, x_e2, x_e1, x_eC, x_aN, x_aC, x_tup, x_lst, x_call, x_oC1, x_oC2, x_call0, x_call01, x_eAnd, x_eAnd1, x_eOr, x_eOr1, x_eNot, x_eNot1, x_eIf, x_eIf1, x_fz_int, x_fr_int, x_fz_bl, x_fr_bl, x_fz_str, x_fr_str, x_fz_ty, x_fr_ty, x_fz_tup, x_fr_tup, x_fz_cst, x_fr_cst, x_fz_lst_false, x_fr_lst_false, x_fz_non, x_fr_non, x_fz_lt, x_fr_lt, x_fL0, x_fL1, x_cF, x_cR1, x_cR2, x_cR3, x_iL, x_iL1, x_iT, x_iT1, x_iS, x_iS1, x_iR1, x_iR11, x_iR2, x_iR21, x_iE, x_iE1, x_iV, x_iV1, x_iZ, x_iZ1, x_for, x_fo0, x_fo1, x_fo2, x_fo3, x_fo4, x_fo5, x_fo6, x_fo7, x_gT, x_gC, x_gC0, x_try, x_try1, x_try2, x_try3, x_try4, x_try5, x_nx1, x_nx2, x_try6, x_try7, x_nx3, x_nx4, x_app, x_app1, x_app2, x_lc, x_lcE, x_lc0, x_lc1, x_lcG, x_w0, x_w1, vMinL4, vMaxL4, vAll3, vAny3, vAll4, vAny4, x_wh1, x_wh2, x_wh0, x_abs, vI_ii, vI_ib, vI_it, vI_il, vI_is, vI_bb, vI_bi, vI_tt, vI_tl, vI_ti, vI_ll, vI_lt, vI_ss, vEqB, vNeB, x_ta, x_ta1, x_ta2, x_ta3, x_ta4, x_ta5, x_is, nc_0, nc_1, nc_2, nc_3, nc_4, nc_5, nc_6, nc_7, nc_8, nc_9, nc_10, nc_11, vMax2, vMin2, vIsN0, vIsN1, vNotN0, vNotN1, vIsN2, vNotN2, x_lo, x_lo1, x_lo2, vAll2, vAny2, x_sl, x_sl1, x_sl2, x_pn, x_ps, x_ps1, x_cutL, x_cutC, vEqS, vNeS, List.getD_cons_zero, List.getD_cons_succ, List.set_cons_zero, List.set_cons_succ, List.map_cons, List.map_nil, List.replicate_zero, List.replicate_succ, List.length_cons, List.length_nil, List.cons_append, List.nil_append, Option.bind_some, if_true, if_false, Bool.false_eq_true, Nat.reduceSub, Nat.reduceAdd, Nat.reduceLeDiff, Nat.reduceLT, vAdd, vSub, vLt, vLe, vGt, vGe, vNeg, vEq, vNe, vEq2, vNe2, vMod, vDiv, vMul, vPow, Int.reduceToNat, vIx0, vIx1, vLenT, vLenC, vLenL, reduceIte, decide_true, decide_false, Bool.not_true, Bool.not_false, beq_self_eq_true, Bool.and_true, Bool.true_and, Bool.and_self, Bool.and_false, Bool.false_and, e1, e2]
    · exact absurd m nm
  · rcases Dd with ⟨nm, _⟩ | ⟨_, d1, d2, e2, D1, D2⟩
    · exact absurd m nm
    · have q1 := A1 d1 D1
      have q2 := A2 d2 D2
      have P1 : pl = true → u ≤ mnI one oth ∧ mxI one oth ≤ v := fun h => by
        obtain ⟨⟨a1, a2, a3, a4⟩, b1, b2, b3, b4⟩ := hpl h
        have r1 := planted hev n0 D1 D2 a1 a2 a3 a4
        have r2 := planted hev n0 D1 D2 b1 b2 b3 b4
        have t1 := mnI_le one oth
        have t2 := mxI_le one oth
        omega
      rw [q1, q2] at e2
      clear hpl B A1 A2 D1 D2 q1 q2 m lh
      simp only [oD] at e1
      cases h : pl with
      | false =>
        simp (disch := decide) only [u_law_12, u_law_13, u_law_14, u_law_15, u_law_16, x_seq, x_seq1, x_seq2, x_seq3, x_seq4, x_seq5, x_seq6, x_nil, x_if, x_if1, x_if2, x_if3, x_ret, x_ret1, x_ret2, x_ret3, x_retN, x_asg, x_asg1, x_asg2, x_asg3, x_asg4, x_asg5, x_gN, x_drop, x_drop1, x_drop2, x_bk, x_ct, x_raise, x_tZ, x_tZ1, x_tZ2, x_tE, x_tE1, x_tE2, x_tE3, x_tAnd, x_tAnd1, x_tAnd2, x_tAnd3, x_tOr, x_tOr1, x_tOr2, x_tOr3, x_tNot, x_tNot1, x_tNot2, x_tNot3, x_tTrue, x_z2, x_z21, x_z1, x_z11, x_zC, x_zC1, x_za, x_za1, x_za0, x_zV, x_zK, x_ch, x_ch1, x_ch2, x_eZ, x_eZ1, x_eZ2, x_eV, x_eV1, x_eM, x_eM1, x_b1, x_b2, x_b3, x_s1, x_s2, x_s3, x_oO, x_oO2, x_e2, x_e1, x_eC, x_aN, x_aC, x_tup, x_lst, x_call, x_oC1, x_oC2, x_call0, x_call01, x_eAnd, x_eAnd1, x_eOr, x_eOr1, x_eNot, x_eNot1, x_eIf, x_eIf1, x_fz_int, x_fr_int, x_fz_bl, x_fr_bl, x_fz_str, x_fr_str, x_fz_ty, x_fr_ty, x_fz_tup, x_fr_tup, x_fz_cst, x_fr_cst, x_fz_lst_false, x_fr_lst_false, x_fz_non, x_fr_non, x_fz_lt, x_fr_lt, x_fL0, x_fL1, x_cF, x_cR1, x_cR2, x_cR3, x_iL, x_iL1, x_iT, x_iT1, x_iS, x_iS1, x_iR1, x_iR11, x_iR2, x_iR21, x_iE, x_iE1, x_iV, x_iV1, x_iZ, x_iZ1, x_for, x_fo0, x_fo1, x_fo2, x_fo3, x_fo4, x_fo5, x_fo6, x_fo7, x_gT, x_gC, x_gC0, x_try, x_try1, x_try2, x_try3, x_try4, x_try5, x_nx1, x_nx2, x_try6, x_try7, x_nx3, x_nx4, x_app, x_app1, x_app2, x_lc, x_lcE, x_lc0, x_lc1, x_lcG, x_w0, x_w1, vMinL4, vMaxL4, vAll3, vAny3, vAll4, vAny4, x_wh1, x_wh2, x_wh0, x_abs, vI_ii, vI_ib, vI_it, vI_il, vI_is, vI_bb, vI_bi, vI_tt, vI_tl, vI_ti, vI_ll, vI_lt, vI_ss, vEqB, vNeB, x_ta, x_ta1, x_ta2, x_ta3, x_ta4, x_ta5, x_is, nc_0, nc_1, nc_2, nc_3, nc_4, nc_5, nc_6, nc_7, nc_8, nc_9, nc_10, nc_11, vMax2, vMin2, vIsN0, vIsN1, vNotN0, vNotN1, vIsN2, vNotN2, x_lo, x_lo1, x_lo2, vAll2, vAny2, x_sl, x_sl1, x_sl2, x_pn, x_ps, x_ps1, x_cutL, x_cutC, vEqS, vNeS, List.getD_cons_zero, List.getD_cons_succ, List.set_cons_zero, List.set_cons_succ, List.map_cons, List.map_nil, List.replicate_zero, List.replicate_succ, List.length_cons, List.length_nil, List.cons_append, List.nil_append, Option.bind_some, if_true, if_false, Bool.false_eq_true, Nat.reduceSub, Nat.reduceAdd, Nat.reduceLeDiff, Nat.reduceLT, vAdd, vSub, vLt, vLe, vGt, vGe, vNeg, vEq, vNe, vEq2, vNe2, vMod, vDiv, vMul, vPow, Int.reduceToNat, vIx0, vIx1, vLenT, vLenC, vLenL, reduceIte, decide_true, decide_false, Bool.not_true, Bool.not_false, beq_self_eq_true, Bool.and_true, Bool.true_and, Bool.and_self, Bool.and_false, Bool.false_and, e1, e2, span_ok, uv]
      | true =>
        have p1 := (P1 h).1
        have p2 := (P1 h).2
        clear P1
        simp (disch := decide) only [u_law_12, u_law_13, u_law_14, u_law_15, u_law_16, x_seq, x_seq1, x_seq2, x_seq3, x_seq4, x_seq5, x_seq6, x_nil, x_if, x_if1, x_if2, x_if3, x_ret, x_ret1, x_ret2, x_ret3, x_retN, x_asg, x_asg1, x_asg2, x_asg3, x_asg4, x_asg5, x_gN, x_drop, x_drop1, x_drop2, x_bk, x_ct, x_raise, x_tZ, x_tZ1, x_tZ2, x_tE, x_tE1, x_tE2, x_tE3, x_tAnd, x_tAnd1, x_tAnd2, x_tAnd3, x_tOr, x_tOr1, x_tOr2, x_tOr3, x_tNot, x_tNot1, x_tNot2, x_tNot3, x_tTrue, x_z2, x_z21, x_z1, x_z11, x_zC, x_zC1, x_za, x_za1, x_za0, x_zV, x_zK, x_ch, x_ch1, x_ch2, x_eZ, x_eZ1, x_eZ2, x_eV, x_eV1, x_eM, x_eM1, x_b1, x_b2, x_b3, x_s1, x_s2, x_s3, x_oO, x_oO2, x_e2, x_e1, x_eC, x_aN, x_aC, x_tup, x_lst, x_call, x_oC1, x_oC2, x_call0, x_call01, x_eAnd, x_eAnd1, x_eOr, x_eOr1, x_eNot, x_eNot1, x_eIf, x_eIf1, x_fz_int, x_fr_int, x_fz_bl, x_fr_bl, x_fz_str, x_fr_str, x_fz_ty, x_fr_ty, x_fz_tup, x_fr_tup, x_fz_cst, x_fr_cst, x_fz_lst_false, x_fr_lst_false, x_fz_non, x_fr_non, x_fz_lt, x_fr_lt, x_fL0, x_fL1, x_cF, x_cR1, x_cR2, x_cR3, x_iL, x_iL1, x_iT, x_iT1, x_iS, x_iS1, x_iR1, x_iR11, x_iR2, x_iR21, x_iE, x_iE1, x_iV, x_iV1, x_iZ, x_iZ1, x_for, x_fo0, x_fo1, x_fo2, x_fo3, x_fo4, x_fo5, x_fo6, x_fo7, x_gT, x_gC, x_gC0, x_try, x_try1, x_try2, x_try3, x_try4, x_try5, x_nx1, x_nx2, x_try6, x_try7, x_nx3, x_nx4, x_app, x_app1, x_app2, x_lc, x_lcE, x_lc0, x_lc1, x_lcG, x_w0, x_w1, vMinL4, vMaxL4, vAll3, vAny3, vAll4, vAny4, x_wh1, x_wh2, x_wh0, x_abs, vI_ii, vI_ib, vI_it, vI_il, vI_is, vI_bb, vI_bi, vI_tt, vI_tl, vI_ti, vI_ll, vI_lt, vI_ss, vEqB, vNeB, x_ta, x_ta1, x_ta2, x_ta3, x_ta4, x_ta5, x_is, nc_0, nc_1, nc_2, nc_3, nc_4, nc_5, nc_6, nc_7, nc_8, nc_9, nc_10, nc_11, vMax2, vMin2, vIsN0, vIsN1, vNotN0, vNotN1, vIsN2, vNotN2, x_lo, x_lo1, x_lo2, vAll2, vAny2, x_sl, x_sl1, x_sl2, x_pn, x_ps, x_ps1, x_cutL, x_cutC, vEqS, vNeS, List.getD_cons_zero, List.getD_cons_succ, List.set_cons_zero, List.set_cons_succ, List.map_cons, List.map_nil, List.replicate_zero, List.replicate_succ, List.length_cons, List.length_nil, List.cons_append, List.nil_append, Option.bind_some, if_true, if_false, Bool.false_eq_true, Nat.reduceSub, Nat.reduceAdd, Nat.reduceLeDiff, Nat.reduceLT, vAdd, vSub, vLt, vLe, vGt, vGe, vNeg, vEq, vNe, vEq2, vNe2, vMod, vDiv, vMul, vPow, Int.reduceToNat, vIx0, vIx1, vLenT, vLenC, vLenL, reduceIte, decide_true, decide_false, Bool.not_true, Bool.not_false, beq_self_eq_true, Bool.and_true, Bool.true_and, Bool.and_self, Bool.and_false, Bool.false_and, e1, e2, span_ok, uv, p1, p2]
theorem lawx_ok (ns : List Int) {K n2 n3 : Int} (c2 : f__law_cell_at [.cst (ns.map D.int), .int 2] = .ok (.int n2)) (c3 : f__law_cell_at [.cst (ns.map D.int), .int 3] = .ok (.int n3)) :
    ∃ a b : Int, f__law_x [.cst (ns.map D.int), .int K] = .ok (.tup [.int a, .int b]) ∧ a ≤ b ∧ -(10 ^ 16) ≤ a ∧ a ≤ 10 ^ 16 ∧ b ≤ 10 ^ 16 ∧ -(10 ^ 16) ≤ b := by
  have lim (s : Int) (h : 0 < s) (h2 : s ≤ 10 ^ 15) : ∀ l, l = n2 % (2 * s + 1) - s → (-(10 ^ 15) ≤ l ∧ l ≤ 10 ^ 15) ∧ (0 ≤ n3 % (s + 1) ∧ n3 % (s + 1) ≤ 10 ^ 15) ∧ 0 ≤ n3 % 3 ∧ n3 % 3 ≤ 3 ∧ (mnI l (-l) ≤ mxI 0 (l + n3 % (s + 1)) ∧ -(10 ^ 15) ≤ mnI l (-l) ∧ mnI l (-l) ≤ 10 ^ 15 ∧ mxI 0 (l + n3 % (s + 1)) ≤ 10 ^ 16 ∧ -(10 ^ 16) ≤ mxI 0 (l + n3 % (s + 1))) := fun l hl => by
    have k1 := Int.emod_nonneg n2 (show 2 * s + 1 ≠ 0 by omega)
    have k2 := Int.emod_lt_of_pos n2 (show 0 < 2 * s + 1 by omega)
    have k3 := Int.emod_nonneg n3 (show s + 1 ≠ 0 by omega)
    have k4 := Int.emod_lt_of_pos n3 (show 0 < s + 1 by omega)
    have k5 := mnI_le l (-l)
    have k6 := mxI_le 0 (l + n3 % (s + 1))
    omega
  cases h1 : (K % 2 == 1) with
  | true =>
    have L := lim 40 (by decide) (by decide) _ rfl
    cases h2 : (K / 2 % 3 == 1) with
    | true =>
      simp (disch := decide) only [f__law_x, m__law_x, x_seq, x_seq1, x_seq2, x_seq3, x_seq4, x_seq5, x_seq6, x_nil, x_if, x_if1, x_if2, x_if3, x_ret, x_ret1, x_ret2, x_ret3, x_retN, x_asg, x_asg1, x_asg2, x_asg3, x_asg4, x_asg5, x_gN, x_drop, x_drop1, x_drop2, x_bk, x_ct, x_raise, x_tZ, x_tZ1, x_tZ2, x_tE, x_tE1, x_tE2, x_tE3, x_tAnd, x_tAnd1, x_tAnd2, x_tAnd3, x_tOr, x_tOr1, x_tOr2, x_tOr3, x_tNot, x_tNot1, x_tNot2, x_tNot3, x_tTrue, x_z2, x_z21, x_z1, x_z11, x_zC, x_zC1, x_za, x_za1, x_za0, x_zV, x_zK, x_ch, x_ch1, x_ch2, x_eZ, x_eZ1, x_eZ2, x_eV, x_eV1, x_eM, x_eM1, x_b1, x_b2, x_b3, x_s1, x_s2, x_s3, x_oO, x_oO2, x_e2, x_e1, x_eC, x_aN, x_aC, x_tup, x_lst, x_call, x_oC1, x_oC2, x_call0, x_call01, x_eAnd, x_eAnd1, x_eOr, x_eOr1, x_eNot, x_eNot1, x_eIf, x_eIf1, x_fz_int, x_fr_int, x_fz_bl, x_fr_bl, x_fz_str, x_fr_str, x_fz_ty, x_fr_ty, x_fz_tup, x_fr_tup, x_fz_cst, x_fr_cst, x_fz_lst_false, x_fr_lst_false, x_fz_non, x_fr_non, x_fz_lt, x_fr_lt, x_fL0, x_fL1, x_cF, x_cR1, x_cR2, x_cR3, x_iL, x_iL1, x_iT, x_iT1, x_iS, x_iS1, x_iR1, x_iR11, x_iR2, x_iR21, x_iE, x_iE1, x_iV, x_iV1, x_iZ, x_iZ1, x_for, x_fo0, x_fo1, x_fo2, x_fo3, x_fo4, x_fo5, x_fo6, x_fo7, x_gT, x_gC, x_gC0, x_try, x_try1, x_try2, x_try3, x_try4, x_try5, x_nx1, x_nx2, x_try6, x_try7, x_nx3, x_nx4, x_app, x_app1, x_app2, x_lc, x_lcE, x_lc0, x_lc1, x_lcG, x_w0, x_w1, vMinL4, vMaxL4, vAll3, vAny3, vAll4, vAny4, x_wh1, x_wh2, x_wh0, x_abs, vI_ii, vI_ib, vI_it, vI_il, vI_is, vI_bb, vI_bi, vI_tt, vI_tl, vI_ti, vI_ll, vI_lt, vI_ss, vEqB, vNeB, x_ta, x_ta1, x_ta2, x_ta3, x_ta4, x_ta5, x_is, nc_0, nc_1, nc_2, nc_3, nc_4, nc_5, nc_6, nc_7, nc_8, nc_9, nc_10, nc_11, vMax2, vMin2, vIsN0, vIsN1, vNotN0, vNotN1, vIsN2, vNotN2, x_lo, x_lo1, x_lo2, vAll2, vAny2, x_sl, x_sl1, x_sl2, x_pn, x_ps, x_ps1, x_cutL, x_cutC, vEqS, vNeS, List.getD_cons_zero, List.getD_cons_succ, List.set_cons_zero, List.set_cons_succ, List.map_cons, List.map_nil, List.replicate_zero, List.replicate_succ, List.length_cons, List.length_nil, List.cons_append, List.nil_append, Option.bind_some, if_true, if_false, Bool.false_eq_true, Nat.reduceSub, Nat.reduceAdd, Nat.reduceLeDiff, Nat.reduceLT, vAdd, vSub, vLt, vLe, vGt, vGe, vNeg, vEq, vNe, vEq2, vNe2, vMod, vDiv, vMul, vPow, Int.reduceToNat, vIx0, vIx1, vLenT, vLenC, vLenL, reduceIte, decide_true, decide_false, Bool.not_true, Bool.not_false, beq_self_eq_true, Bool.and_true, Bool.true_and, Bool.and_self, Bool.and_false, Bool.false_and, c2, c3, h1, h2]
      exact ⟨_, _, rfl, by omega, by omega, by omega, by omega, by omega⟩
    | false =>
      cases h3 : (K / 2 % 3 == 2) with
      | true =>
        simp (disch := decide) only [f__law_x, m__law_x, x_seq, x_seq1, x_seq2, x_seq3, x_seq4, x_seq5, x_seq6, x_nil, x_if, x_if1, x_if2, x_if3, x_ret, x_ret1, x_ret2, x_ret3, x_retN, x_asg, x_asg1, x_asg2, x_asg3, x_asg4, x_asg5, x_gN, x_drop, x_drop1, x_drop2, x_bk, x_ct, x_raise, x_tZ, x_tZ1, x_tZ2, x_tE, x_tE1, x_tE2, x_tE3, x_tAnd, x_tAnd1, x_tAnd2, x_tAnd3, x_tOr, x_tOr1, x_tOr2, x_tOr3, x_tNot, x_tNot1, x_tNot2, x_tNot3, x_tTrue, x_z2, x_z21, x_z1, x_z11, x_zC, x_zC1, x_za, x_za1, x_za0, x_zV, x_zK, x_ch, x_ch1, x_ch2, x_eZ, x_eZ1, x_eZ2, x_eV, x_eV1, x_eM, x_eM1, x_b1, x_b2, x_b3, x_s1, x_s2, x_s3, x_oO, x_oO2, x_e2, x_e1, x_eC, x_aN, x_aC, x_tup, x_lst, x_call, x_oC1, x_oC2, x_call0, x_call01, x_eAnd, x_eAnd1, x_eOr, x_eOr1, x_eNot, x_eNot1, x_eIf, x_eIf1, x_fz_int, x_fr_int, x_fz_bl, x_fr_bl, x_fz_str, x_fr_str, x_fz_ty, x_fr_ty, x_fz_tup, x_fr_tup, x_fz_cst, x_fr_cst, x_fz_lst_false, x_fr_lst_false, x_fz_non, x_fr_non, x_fz_lt, x_fr_lt, x_fL0, x_fL1, x_cF, x_cR1, x_cR2, x_cR3, x_iL, x_iL1, x_iT, x_iT1, x_iS, x_iS1, x_iR1, x_iR11, x_iR2, x_iR21, x_iE, x_iE1, x_iV, x_iV1, x_iZ, x_iZ1, x_for, x_fo0, x_fo1, x_fo2, x_fo3, x_fo4, x_fo5, x_fo6, x_fo7, x_gT, x_gC, x_gC0, x_try, x_try1, x_try2, x_try3, x_try4, x_try5, x_nx1, x_nx2, x_try6, x_try7, x_nx3, x_nx4, x_app, x_app1, x_app2, x_lc, x_lcE, x_lc0, x_lc1, x_lcG, x_w0, x_w1, vMinL4, vMaxL4, vAll3, vAny3, vAll4, vAny4, x_wh1, x_wh2, x_wh0, x_abs, vI_ii, vI_ib, vI_it, vI_il, vI_is, vI_bb, vI_bi, vI_tt, vI_tl, vI_ti, vI_ll, vI_lt, vI_ss, vEqB, vNeB, x_ta, x_ta1, x_ta2, x_ta3, x_ta4, x_ta5, x_is, nc_0, nc_1, nc_2, nc_3, nc_4, nc_5, nc_6, nc_7, nc_8, nc_9, nc_10, nc_11, vMax2, vMin2, vIsN0, vIsN1, vNotN0, vNotN1, vIsN2, vNotN2, x_lo, x_lo1, x_lo2, vAll2, vAny2, x_sl, x_sl1, x_sl2, x_pn, x_ps, x_ps1, x_cutL, x_cutC, vEqS, vNeS, List.getD_cons_zero, List.getD_cons_succ, List.set_cons_zero, List.set_cons_succ, List.map_cons, List.map_nil, List.replicate_zero, List.replicate_succ, List.length_cons, List.length_nil, List.cons_append, List.nil_append, Option.bind_some, if_true, if_false, Bool.false_eq_true, Nat.reduceSub, Nat.reduceAdd, Nat.reduceLeDiff, Nat.reduceLT, vAdd, vSub, vLt, vLe, vGt, vGe, vNeg, vEq, vNe, vEq2, vNe2, vMod, vDiv, vMul, vPow, Int.reduceToNat, vIx0, vIx1, vLenT, vLenC, vLenL, reduceIte, decide_true, decide_false, Bool.not_true, Bool.not_false, beq_self_eq_true, Bool.and_true, Bool.true_and, Bool.and_self, Bool.and_false, Bool.false_and, c2, c3, h1, h2, h3]
        exact ⟨_, _, rfl, by omega, by omega, by omega, by omega, by omega⟩
      | false =>
        simp (disch := decide) only [f__law_x, m__law_x, x_seq, x_seq1, x_seq2, x_seq3, x_seq4, x_seq5, x_seq6, x_nil, x_if, x_if1, x_if2, x_if3, x_ret, x_ret1, x_ret2, x_ret3, x_retN, x_asg, x_asg1, x_asg2, x_asg3, x_asg4, x_asg5, x_gN, x_drop, x_drop1, x_drop2, x_bk, x_ct, x_raise, x_tZ, x_tZ1, x_tZ2, x_tE, x_tE1, x_tE2, x_tE3, x_tAnd, x_tAnd1, x_tAnd2, x_tAnd3, x_tOr, x_tOr1, x_tOr2, x_tOr3, x_tNot, x_tNot1, x_tNot2, x_tNot3, x_tTrue, x_z2, x_z21, x_z1, x_z11, x_zC, x_zC1, x_za, x_za1, x_za0, x_zV, x_zK, x_ch, x_ch1, x_ch2, x_eZ, x_eZ1, x_eZ2, x_eV, x_eV1, x_eM, x_eM1, x_b1, x_b2, x_b3, x_s1, x_s2, x_s3, x_oO, x_oO2, x_e2, x_e1, x_eC, x_aN, x_aC, x_tup, x_lst, x_call, x_oC1, x_oC2, x_call0, x_call01, x_eAnd, x_eAnd1, x_eOr, x_eOr1, x_eNot, x_eNot1, x_eIf, x_eIf1, x_fz_int, x_fr_int, x_fz_bl, x_fr_bl, x_fz_str, x_fr_str, x_fz_ty, x_fr_ty, x_fz_tup, x_fr_tup, x_fz_cst, x_fr_cst, x_fz_lst_false, x_fr_lst_false, x_fz_non, x_fr_non, x_fz_lt, x_fr_lt, x_fL0, x_fL1, x_cF, x_cR1, x_cR2, x_cR3, x_iL, x_iL1, x_iT, x_iT1, x_iS, x_iS1, x_iR1, x_iR11, x_iR2, x_iR21, x_iE, x_iE1, x_iV, x_iV1, x_iZ, x_iZ1, x_for, x_fo0, x_fo1, x_fo2, x_fo3, x_fo4, x_fo5, x_fo6, x_fo7, x_gT, x_gC, x_gC0, x_try, x_try1, x_try2, x_try3, x_try4, x_try5, x_nx1, x_nx2, x_try6, x_try7, x_nx3, x_nx4, x_app, x_app1, x_app2, x_lc, x_lcE, x_lc0, x_lc1, x_lcG, x_w0, x_w1, vMinL4, vMaxL4, vAll3, vAny3, vAll4, vAny4, x_wh1, x_wh2, x_wh0, x_abs, vI_ii, vI_ib, vI_it, vI_il, vI_is, vI_bb, vI_bi, vI_tt, vI_tl, vI_ti, vI_ll, vI_lt, vI_ss, vEqB, vNeB, x_ta, x_ta1, x_ta2, x_ta3, x_ta4, x_ta5, x_is, nc_0, nc_1, nc_2, nc_3, nc_4, nc_5, nc_6, nc_7, nc_8, nc_9, nc_10, nc_11, vMax2, vMin2, vIsN0, vIsN1, vNotN0, vNotN1, vIsN2, vNotN2, x_lo, x_lo1, x_lo2, vAll2, vAny2, x_sl, x_sl1, x_sl2, x_pn, x_ps, x_ps1, x_cutL, x_cutC, vEqS, vNeS, List.getD_cons_zero, List.getD_cons_succ, List.set_cons_zero, List.set_cons_succ, List.map_cons, List.map_nil, List.replicate_zero, List.replicate_succ, List.length_cons, List.length_nil, List.cons_append, List.nil_append, Option.bind_some, if_true, if_false, Bool.false_eq_true, Nat.reduceSub, Nat.reduceAdd, Nat.reduceLeDiff, Nat.reduceLT, vAdd, vSub, vLt, vLe, vGt, vGe, vNeg, vEq, vNe, vEq2, vNe2, vMod, vDiv, vMul, vPow, Int.reduceToNat, vIx0, vIx1, vLenT, vLenC, vLenL, reduceIte, decide_true, decide_false, Bool.not_true, Bool.not_false, beq_self_eq_true, Bool.and_true, Bool.true_and, Bool.and_self, Bool.and_false, Bool.false_and, c2, c3, h1, h2, h3]
        exact ⟨_, _, rfl, by omega, by omega, by omega, by omega, by omega⟩
  | false =>
    have L := lim (10 ^ 15) (by decide) (by decide) _ rfl
    cases h2 : (K / 2 % 3 == 1) with
    | true =>
      simp (disch := decide) only [f__law_x, m__law_x, x_seq, x_seq1, x_seq2, x_seq3, x_seq4, x_seq5, x_seq6, x_nil, x_if, x_if1, x_if2, x_if3, x_ret, x_ret1, x_ret2, x_ret3, x_retN, x_asg, x_asg1, x_asg2, x_asg3, x_asg4, x_asg5, x_gN, x_drop, x_drop1, x_drop2, x_bk, x_ct, x_raise, x_tZ, x_tZ1, x_tZ2, x_tE, x_tE1, x_tE2, x_tE3, x_tAnd, x_tAnd1, x_tAnd2, x_tAnd3, x_tOr, x_tOr1, x_tOr2, x_tOr3, x_tNot, x_tNot1, x_tNot2, x_tNot3, x_tTrue, x_z2, x_z21, x_z1, x_z11, x_zC, x_zC1, x_za, x_za1, x_za0, x_zV, x_zK, x_ch, x_ch1, x_ch2, x_eZ, x_eZ1, x_eZ2, x_eV, x_eV1, x_eM, x_eM1, x_b1, x_b2, x_b3, x_s1, x_s2, x_s3, x_oO, x_oO2, x_e2, x_e1, x_eC, x_aN, x_aC, x_tup, x_lst, x_call, x_oC1, x_oC2, x_call0, x_call01, x_eAnd, x_eAnd1, x_eOr, x_eOr1, x_eNot, x_eNot1, x_eIf, x_eIf1, x_fz_int, x_fr_int, x_fz_bl, x_fr_bl, x_fz_str, x_fr_str, x_fz_ty, x_fr_ty, x_fz_tup, x_fr_tup, x_fz_cst, x_fr_cst, x_fz_lst_false, x_fr_lst_false, x_fz_non, x_fr_non, x_fz_lt, x_fr_lt, x_fL0, x_fL1, x_cF, x_cR1, x_cR2, x_cR3, x_iL, x_iL1, x_iT, x_iT1, x_iS, x_iS1, x_iR1, x_iR11, x_iR2, x_iR21, x_iE, x_iE1, x_iV, x_iV1, x_iZ, x_iZ1, x_for, x_fo0, x_fo1, x_fo2, x_fo3, x_fo4, x_fo5, x_fo6, x_fo7, x_gT, x_gC, x_gC0, x_try, x_try1, x_try2, x_try3, x_try4, x_try5, x_nx1, x_nx2, x_try6, x_try7, x_nx3, x_nx4, x_app, x_app1, x_app2, x_lc, x_lcE, x_lc0, x_lc1, x_lcG, x_w0, x_w1, vMinL4, vMaxL4, vAll3, vAny3, vAll4, vAny4, x_wh1, x_wh2, x_wh0, x_abs, vI_ii, vI_ib, vI_it, vI_il, vI_is, vI_bb, vI_bi, vI_tt, vI_tl, vI_ti, vI_ll, vI_lt, vI_ss, vEqB, vNeB, x_ta, x_ta1, x_ta2, x_ta3, x_ta4, x_ta5, x_is, nc_0, nc_1, nc_2, nc_3, nc_4, nc_5, nc_6, nc_7, nc_8, nc_9, nc_10, nc_11, vMax2, vMin2, vIsN0, vIsN1, vNotN0, vNotN1, vIsN2, vNotN2, x_lo, x_lo1, x_lo2, vAll2, vAny2, x_sl, x_sl1, x_sl2, x_pn, x_ps, x_ps1, x_cutL, x_cutC, vEqS, vNeS, List.getD_cons_zero, List.getD_cons_succ, List.set_cons_zero, List.set_cons_succ, List.map_cons, List.map_nil, List.replicate_zero, List.replicate_succ, List.length_cons, List.length_nil, List.cons_append, List.nil_append, Option.bind_some, if_true, if_false, Bool.false_eq_true, Nat.reduceSub, Nat.reduceAdd, Nat.reduceLeDiff, Nat.reduceLT, vAdd, vSub, vLt, vLe, vGt, vGe, vNeg, vEq, vNe, vEq2, vNe2, vMod, vDiv, vMul, vPow, Int.reduceToNat, vIx0, vIx1, vLenT, vLenC, vLenL, reduceIte, decide_true, decide_false, Bool.not_true, Bool.not_false, beq_self_eq_true, Bool.and_true, Bool.true_and, Bool.and_self, Bool.and_false, Bool.false_and, c2, c3, h1, h2]
      exact ⟨_, _, rfl, by omega, by omega, by omega, by omega, by omega⟩
    | false =>
      cases h3 : (K / 2 % 3 == 2) with
      | true =>
        simp (disch := decide) only [f__law_x, m__law_x, x_seq, x_seq1, x_seq2, x_seq3, x_seq4, x_seq5, x_seq6, x_nil, x_if, x_if1, x_if2, x_if3, x_ret, x_ret1, x_ret2, x_ret3, x_retN, x_asg, x_asg1, x_asg2, x_asg3, x_asg4, x_asg5, x_gN, x_drop, x_drop1, x_drop2, x_bk, x_ct, x_raise, x_tZ, x_tZ1, x_tZ2, x_tE, x_tE1, x_tE2, x_tE3, x_tAnd, x_tAnd1, x_tAnd2, x_tAnd3, x_tOr, x_tOr1, x_tOr2, x_tOr3, x_tNot, x_tNot1, x_tNot2, x_tNot3, x_tTrue, x_z2, x_z21, x_z1, x_z11, x_zC, x_zC1, x_za, x_za1, x_za0, x_zV, x_zK, x_ch, x_ch1, x_ch2, x_eZ, x_eZ1, x_eZ2, x_eV, x_eV1, x_eM, x_eM1, x_b1, x_b2, x_b3, x_s1, x_s2, x_s3, x_oO, x_oO2, x_e2, x_e1, x_eC, x_aN, x_aC, x_tup, x_lst, x_call, x_oC1, x_oC2, x_call0, x_call01, x_eAnd, x_eAnd1, x_eOr, x_eOr1, x_eNot, x_eNot1, x_eIf, x_eIf1, x_fz_int, x_fr_int, x_fz_bl, x_fr_bl, x_fz_str, x_fr_str, x_fz_ty, x_fr_ty, x_fz_tup, x_fr_tup, x_fz_cst, x_fr_cst, x_fz_lst_false, x_fr_lst_false, x_fz_non, x_fr_non, x_fz_lt, x_fr_lt, x_fL0, x_fL1, x_cF, x_cR1, x_cR2, x_cR3, x_iL, x_iL1, x_iT, x_iT1, x_iS, x_iS1, x_iR1, x_iR11, x_iR2, x_iR21, x_iE, x_iE1, x_iV, x_iV1, x_iZ, x_iZ1, x_for, x_fo0, x_fo1, x_fo2, x_fo3, x_fo4, x_fo5, x_fo6, x_fo7, x_gT, x_gC, x_gC0, x_try, x_try1, x_try2, x_try3, x_try4, x_try5, x_nx1, x_nx2, x_try6, x_try7, x_nx3, x_nx4, x_app, x_app1, x_app2, x_lc, x_lcE, x_lc0, x_lc1, x_lcG, x_w0, x_w1, vMinL4, vMaxL4, vAll3, vAny3, vAll4, vAny4, x_wh1, x_wh2, x_wh0, x_abs, vI_ii, vI_ib, vI_it, vI_il, vI_is, vI_bb, vI_bi, vI_tt, vI_tl, vI_ti, vI_ll, vI_lt, vI_ss, vEqB, vNeB, x_ta, x_ta1, x_ta2, x_ta3, x_ta4, x_ta5, x_is, nc_0, nc_1, nc_2, nc_3, nc_4, nc_5, nc_6, nc_7, nc_8, nc_9, nc_10, nc_11, vMax2, vMin2, vIsN0, vIsN1, vNotN0, vNotN1, vIsN2, vNotN2, x_lo, x_lo1, x_lo2, vAll2, vAny2, x_sl, x_sl1, x_sl2, x_pn, x_ps, x_ps1, x_cutL, x_cutC, vEqS, vNeS, List.getD_cons_zero, List.getD_cons_succ, List.set_cons_zero, List.set_cons_succ, List.map_cons, List.map_nil, List.replicate_zero, List.replicate_succ, List.length_cons, List.length_nil, List.cons_append, List.nil_append, Option.bind_some, if_true, if_false, Bool.false_eq_true, Nat.reduceSub, Nat.reduceAdd, Nat.reduceLeDiff, Nat.reduceLT, vAdd, vSub, vLt, vLe, vGt, vGe, vNeg, vEq, vNe, vEq2, vNe2, vMod, vDiv, vMul, vPow, Int.reduceToNat, vIx0, vIx1, vLenT, vLenC, vLenL, reduceIte, decide_true, decide_false, Bool.not_true, Bool.not_false, beq_self_eq_true, Bool.and_true, Bool.true_and, Bool.and_self, Bool.and_false, Bool.false_and, c2, c3, h1, h2, h3]
        exact ⟨_, _, rfl, by omega, by omega, by omega, by omega, by omega⟩
      | false =>
        simp (disch := decide) only [f__law_x, m__law_x, x_seq, x_seq1, x_seq2, x_seq3, x_seq4, x_seq5, x_seq6, x_nil, x_if, x_if1, x_if2, x_if3, x_ret, x_ret1, x_ret2, x_ret3, x_retN, x_asg, x_asg1, x_asg2, x_asg3, x_asg4, x_asg5, x_gN, x_drop, x_drop1, x_drop2, x_bk, x_ct, x_raise, x_tZ, x_tZ1, x_tZ2, x_tE, x_tE1, x_tE2, x_tE3, x_tAnd, x_tAnd1, x_tAnd2, x_tAnd3, x_tOr, x_tOr1, x_tOr2, x_tOr3, x_tNot, x_tNot1, x_tNot2, x_tNot3, x_tTrue, x_z2, x_z21, x_z1, x_z11, x_zC, x_zC1, x_za, x_za1, x_za0, x_zV, x_zK, x_ch, x_ch1, x_ch2, x_eZ, x_eZ1, x_eZ2, x_eV, x_eV1, x_eM, x_eM1, x_b1, x_b2, x_b3, x_s1, x_s2, x_s3, x_oO, x_oO2, x_e2, x_e1, x_eC, x_aN, x_aC, x_tup, x_lst, x_call, x_oC1, x_oC2, x_call0, x_call01, x_eAnd, x_eAnd1, x_eOr, x_eOr1, x_eNot, x_eNot1, x_eIf, x_eIf1, x_fz_int, x_fr_int, x_fz_bl, x_fr_bl, x_fz_str, x_fr_str, x_fz_ty, x_fr_ty, x_fz_tup, x_fr_tup, x_fz_cst, x_fr_cst, x_fz_lst_false, x_fr_lst_false, x_fz_non, x_fr_non, x_fz_lt, x_fr_lt, x_fL0, x_fL1, x_cF, x_cR1, x_cR2, x_cR3, x_iL, x_iL1, x_iT, x_iT1, x_iS, x_iS1, x_iR1, x_iR11, x_iR2, x_iR21, x_iE, x_iE1, x_iV, x_iV1, x_iZ, x_iZ1, x_for, x_fo0, x_fo1, x_fo2, x_fo3, x_fo4, x_fo5, x_fo6, x_fo7, x_gT, x_gC, x_gC0, x_try, x_try1, x_try2, x_try3, x_try4, x_try5, x_nx1, x_nx2, x_try6, x_try7, x_nx3, x_nx4, x_app, x_app1, x_app2, x_lc, x_lcE, x_lc0, x_lc1, x_lcG, x_w0, x_w1, vMinL4, vMaxL4, vAll3, vAny3, vAll4, vAny4, x_wh1, x_wh2, x_wh0, x_abs, vI_ii, vI_ib, vI_it, vI_il, vI_is, vI_bb, vI_bi, vI_tt, vI_tl, vI_ti, vI_ll, vI_lt, vI_ss, vEqB, vNeB, x_ta, x_ta1, x_ta2, x_ta3, x_ta4, x_ta5, x_is, nc_0, nc_1, nc_2, nc_3, nc_4, nc_5, nc_6, nc_7, nc_8, nc_9, nc_10, nc_11, vMax2, vMin2, vIsN0, vIsN1, vNotN0, vNotN1, vIsN2, vNotN2, x_lo, x_lo1, x_lo2, vAll2, vAny2, x_sl, x_sl1, x_sl2, x_pn, x_ps, x_ps1, x_cutL, x_cutC, vEqS, vNeS, List.getD_cons_zero, List.getD_cons_succ, List.set_cons_zero, List.set_cons_succ, List.map_cons, List.map_nil, List.replicate_zero, List.replicate_succ, List.length_cons, List.length_nil, List.cons_append, List.nil_append, Option.bind_some, if_true, if_false, Bool.false_eq_true, Nat.reduceSub, Nat.reduceAdd, Nat.reduceLeDiff, Nat.reduceLT, vAdd, vSub, vLt, vLe, vGt, vGe, vNeg, vEq, vNe, vEq2, vNe2, vMod, vDiv, vMul, vPow, Int.reduceToNat, vIx0, vIx1, vLenT, vLenC, vLenL, reduceIte, decide_true, decide_false, Bool.not_true, Bool.not_false, beq_self_eq_true, Bool.and_true, Bool.true_and, Bool.and_self, Bool.and_false, Bool.false_and, c2, c3, h1, h2, h3]
        exact ⟨_, _, rfl, by omega, by omega, by omega, by omega, by omega⟩
/-- a power lies between the ends that are made of its part -/
theorem ends_in {p S z : Int} (S1 : 1 ≤ S) (h : z ≤ p / S) : z * S ≤ p := Int.le_trans (Int.mul_le_mul_of_nonneg_right h (by omega)) (Int.ediv_mul_le p (show S ≠ 0 by omega))
theorem ends_in' {p S z : Int} (S1 : 1 ≤ S) (h : p / S + 1 ≤ z) : p ≤ z * S := by
  have k1 := Int.lt_ediv_add_one_mul_self p (show 0 < S by omega)
  have k2 := Int.mul_le_mul_of_nonneg_right h (show 0 ≤ S by omega)
  omega
theorem main_ok (ns : List Int) {n1 n5 n6 n7 n8 n9 g x0 x1 J J1 : Int} {M : Nat} {r11 : Option D} 
    (c5 : f__law_cell_at [.cst (ns.map D.int), .int 5] = .ok (.int n5)) (c6 : f__law_cell_at [.cst (ns.map D.int), .int 6] = .ok (.int n6)) (c7 : f__law_cell_at [.cst (ns.map D.int), .int 7] = .ok (.int n7)) (c8 : f__law_cell_at [.cst (ns.map D.int), .int 8] = .ok (.int n8)) (c9 : f__law_cell_at [.cst (ns.map D.int), .int 9] = .ok (.int n9))
    (m2 : 2 ≤ M) (m6 : M ≤ 6) (eJ : J.toNat = M) (j0 : 0 ≤ J) (j1 : J ≤ 10) (eJ1 : J1.toNat = M - 1) (eJm : J - 1 = J1)
    (x01 : x0 ≤ x1) (s0 : x0.natAbs < 2 ^ 59) (s1 : x1.natAbs < 2 ^ 59) (g1 : 1 ≤ g) (sg : g.natAbs < 2 ^ 20) :
    callR (u_law_5 [some (.cst (ns.map D.int)), some (.int n1), some (.int g), some (.tup [.int x0, .int x1]), some (.int J), none, none, none, none, none, none, none, none, none]) = .ok (.bl true) := by
  have P0 : 0 < x1 - x0 + 1 := by omega
  obtain ⟨one, h1⟩ : ∃ t, x0 + n5 % (x1 - x0 + 1) = t := ⟨_, rfl⟩
  obtain ⟨oth, h2⟩ : ∃ t, x0 + n6 % (x1 - x0 + 1) = t := ⟨_, rfl⟩
  have o1 : x0 ≤ one ∧ one ≤ x1 := by
    have k1 := Int.emod_nonneg n5 (show x1 - x0 + 1 ≠ 0 by omega)
    have k2 := Int.emod_lt_of_pos n5 P0
    omega
  have o2 : x0 ≤ oth ∧ oth ≤ x1 := by
    have k1 := Int.emod_nonneg n6 (show x1 - x0 + 1 ≠ 0 by omega)
    have k2 := Int.emod_lt_of_pos n6 P0
    omega
  have so1 : one.natAbs < 2 ^ 60 := by clear h1 h2; omega
  have so2 : oth.natAbs < 2 ^ 60 := by clear h1 h2; omega
  have e0 := lpower_j (w := 20) (by decide) sg (M - 1) (by omega) eJ1 (by omega) (by omega)
  have e1 := lpower_j (w := 60) (by decide) so1 M m6 eJ (by omega) (by omega)
  have e2 := lpower_j (w := 60) (by decide) so2 M m6 eJ (by omega) (by omega)
  have S1 : 1 ≤ g ^ (M - 1) := by
    have := pow_mono (x := 1) (y := g) (by decide) g1 (M - 1)
    rw [Int.one_pow] at this
    exact this
  have sS : (g ^ (M - 1)).natAbs < 2 ^ 200 := up (pow_size sg (M - 1)) (by omega)
  have S0 : 0 < g ^ (M - 1) := by omega
  have S2 : (g ^ (M - 1)).natAbs.log2 < 9000 := by
    have := log2_le sS
    omega
  have q1 : (one ^ M / g ^ (M - 1)).natAbs < 2 ^ 690 := q_size S1 (up (pow_size so1 M) (show 60 * M + 1 ≤ 689 by omega))
  have q2 : (oth ^ M / g ^ (M - 1)).natAbs < 2 ^ 690 := q_size S1 (up (pow_size so2 M) (show 60 * M + 1 ≤ 689 by omega))
  have T := fun (pl : Bool) (z0 z1 : Int) (r11 : Option D) a b c d => tail_ok ns (K := n1) (z0 := z0) (z1 := z1) (one := one) (oth := oth) (e8 := .lst true [.int (one ^ M / g ^ (M - 1)), .int (oth ^ M / g ^ (M - 1))]) (r11 := r11) pl rfl m2 m6 eJ j0 j1 eJ1 eJm x01 s0 s1 a b c g1 sg d
  have I1 := fun z => @ends_in (one ^ M) (g ^ (M - 1)) z S1
  have I2 := fun z => @ends_in (oth ^ M) (g ^ (M - 1)) z S1
  have I3 := fun z => @ends_in' (one ^ M) (g ^ (M - 1)) z S1
  have I4 := fun z => @ends_in' (oth ^ M) (g ^ (M - 1)) z S1
  generalize hp : one ^ M / g ^ (M - 1) = p at *
  generalize hq : oth ^ M / g ^ (M - 1) = q at *
  clear so1 so2 sS S1 sg g1 m2 m6 eJ j0 j1 eJ1 s0 s1 x01
  cases hk : (n1 / 6 % 3 == 0) with
  | true =>
    have hn : ¬ 0 < n1 / 6 % 3 := by
      have : n1 / 6 % 3 = 0 := by simpa using hk
      omega
    obtain ⟨Q, hQ⟩ : ∃ Q, 1 + n9 % 10 ^ 20 = Q := ⟨_, rfl⟩
    have Q1 : 0 < Q := by omega
    have Q2 : Q.natAbs.log2 < 9000 := by
      have := log2_le (show Q.natAbs < 2 ^ 100 by omega)
      omega
    obtain ⟨u, hu⟩ : ∃ u, n8 % 10 ^ 20 = u := ⟨_, rfl⟩
    have u0 : 0 ≤ u := by omega
    have u1 : u.natAbs < 2 ^ 100 := by omega
    have v0 : 0 ≤ u / Q := Int.ediv_nonneg u0 (by omega)
    have v1 := q_size (m := u) (b := Q) (by omega) u1
    generalize hv : u / Q = v at *
    cases ho : (n1 % 2 == 1) with
    | true =>
      obtain ⟨l, hl⟩ : ∃ l, n7 % 4001 - 2000 = l := ⟨_, rfl⟩
      have t := T false l (l + v) (some (.int l)) (by clear h1 h2 q1 q2; omega) (by clear h1 h2 q1 q2; omega) (by omega) (fun z => by cases z)
      clear T I1 I2 I3 I4 q1 q2 u0 u1 v0 v1 o1 o2
      simp (disch := decide) only [u_law_5, u_law_6, u_law_7, u_law_8, u_law_9, u_law_10, u_law_11, x_seq, x_seq1, x_seq2, x_seq3, x_seq4, x_seq5, x_seq6, x_nil, x_if, x_if1, x_if2, x_if3, x_ret, x_ret1, x_ret2, x_ret3, x_retN, x_asg, x_asg1, x_asg2, x_asg3, x_asg4, x_asg5, x_gN, x_drop, x_drop1, x_drop2, x_bk, x_ct, x_raise, x_tZ, x_tZ1, x_tZ2, x_tE, x_tE1, x_tE2, x_tE3, x_tAnd, x_tAnd1, x_tAnd2, x_tAnd3, x_tOr, x_tOr1, x_tOr2, x_tOr3, x_tNot, x_tNot1, x_tNot2, x_tNot3, x_tTrue, x_z2, x_z21, x_z1, x_z11, x_zC, x_zC1, x_za, x_za1, x_za0, x_zV, x_zK, x_ch, x_ch1, x_ch2, x_eZ, x_eZ1, x_eZ2, x_eV, x_eV1, x_eM, x_eM1, x_b1, x_b2, x_b3, x_s1, x_s2, x_s3, x_oO, x_oO2, x_e2, x_e1, x_eC, x_aN, x_aC, x_tup, x_lst, x_call, x_oC1, x_oC2, x_call0, x_call01, x_eAnd, x_eAnd1, x_eOr, x_eOr1, x_eNot, x_eNot1, x_eIf, x_eIf1, x_fz_int, x_fr_int, x_fz_bl, x_fr_bl, x_fz_str, x_fr_str, x_fz_ty, x_fr_ty, x_fz_tup, x_fr_tup, x_fz_cst, x_fr_cst, x_fz_lst_false, x_fr_lst_false, x_fz_non, x_fr_non, x_fz_lt, x_fr_lt, x_fL0, x_fL1, x_cF, x_cR1, x_cR2, x_cR3, x_iL, x_iL1, x_iT, x_iT1, x_iS, x_iS1, x_iR1, x_iR11, x_iR2, x_iR21, x_iE, x_iE1, x_iV, x_iV1, x_iZ, x_iZ1, x_for, x_fo0, x_fo1, x_fo2, x_fo3, x_fo4, x_fo5, x_fo6, x_fo7, x_gT, x_gC, x_gC0, x_try, x_try1, x_try2, x_try3, x_try4, x_try5, x_nx1, x_nx2, x_try6, x_try7, x_nx3, x_nx4, x_app, x_app1, x_app2, x_lc, x_lcE, x_lc0, x_lc1, x_lcG, x_w0, x_w1, vMinL4, vMaxL4, vAll3, vAny3, vAll4, vAny4, x_wh1, x_wh2, x_wh0, x_abs, vI_ii, vI_ib, vI_it, vI_il, vI_is, vI_bb, vI_bi, vI_tt, vI_tl, vI_ti, vI_ll, vI_lt, vI_ss, vEqB, vNeB, x_ta, x_ta1, x_ta2, x_ta3, x_ta4, x_ta5, x_is, nc_0, nc_1, nc_2, nc_3, nc_4, nc_5, nc_6, nc_7, nc_8, nc_9, nc_10, nc_11, vMax2, vMin2, vIsN0, vIsN1, vNotN0, vNotN1, vIsN2, vNotN2, x_lo, x_lo1, x_lo2, vAll2, vAny2, x_sl, x_sl1, x_sl2, x_pn, x_ps, x_ps1, x_cutL, x_cutC, vEqS, vNeS, List.getD_cons_zero, List.getD_cons_succ, List.set_cons_zero, List.set_cons_succ, List.map_cons, List.map_nil, List.replicate_zero, List.replicate_succ, List.length_cons, List.length_nil, List.cons_append, List.nil_append, Option.bind_some, if_true, if_false, Bool.false_eq_true, Nat.reduceSub, Nat.reduceAdd, Nat.reduceLeDiff, Nat.reduceLT, vAdd, vSub, vLt, vLe, vGt, vGe, vNeg, vEq, vNe, vEq2, vNe2, vMod, vDiv, vMul, vPow, Int.reduceToNat, vIx0, vIx1, vLenT, vLenC, vLenL, reduceIte, decide_true, decide_false, Bool.not_true, Bool.not_false, beq_self_eq_true, Bool.and_true, Bool.true_and, Bool.and_self, Bool.and_false, Bool.false_and, vMinL2, vMaxL2, c5, c6, c7, c8, c9, eJm, e0, e1, e2, h1, h2, vMod P0, vDiv S0 S2, vDiv Q1 Q2, hp, hq, hk, hn, ho, hQ, hu, hv, hl, t]
    | false =>
      obtain ⟨l, hl⟩ : ∃ l, n7 % (2 * 10 ^ 20) - 10 ^ 20 = l := ⟨_, rfl⟩
      have t := T false l (l + v) (some (.int l)) (by clear h1 h2 q1 q2; omega) (by clear h1 h2 q1 q2; omega) (by omega) (fun z => by cases z)
      clear T I1 I2 I3 I4 q1 q2 u0 u1 v0 v1 o1 o2
      simp (disch := decide) only [u_law_5, u_law_6, u_law_7, u_law_8, u_law_9, u_law_10, u_law_11, x_seq, x_seq1, x_seq2, x_seq3, x_seq4, x_seq5, x_seq6, x_nil, x_if, x_if1, x_if2, x_if3, x_ret, x_ret1, x_ret2, x_ret3, x_retN, x_asg, x_asg1, x_asg2, x_asg3, x_asg4, x_asg5, x_gN, x_drop, x_drop1, x_drop2, x_bk, x_ct, x_raise, x_tZ, x_tZ1, x_tZ2, x_tE, x_tE1, x_tE2, x_tE3, x_tAnd, x_tAnd1, x_tAnd2, x_tAnd3, x_tOr, x_tOr1, x_tOr2, x_tOr3, x_tNot, x_tNot1, x_tNot2, x_tNot3, x_tTrue, x_z2, x_z21, x_z1, x_z11, x_zC, x_zC1, x_za, x_za1, x_za0, x_zV, x_zK, x_ch, x_ch1, x_ch2, x_eZ, x_eZ1, x_eZ2, x_eV, x_eV1, x_eM, x_eM1, x_b1, x_b2, x_b3, x_s1, x_s2, x_s3, x_oO, x_oO2, x_e2, x_e1, x_eC, x_aN, x_aC, x_tup, x_lst, x_call, x_oC1, x_oC2, x_call0, x_call01, x_eAnd, x_eAnd1, x_eOr, x_eOr1, x_eNot, x_eNot1, x_eIf, x_eIf1, x_fz_int, x_fr_int, x_fz_bl, x_fr_bl, x_fz_str, x_fr_str, x_fz_ty, x_fr_ty, x_fz_tup, x_fr_tup, x_fz_cst, x_fr_cst, x_fz_lst_false, x_fr_lst_false, x_fz_non, x_fr_non, x_fz_lt, x_fr_lt, x_fL0, x_fL1, x_cF, x_cR1, x_cR2, x_cR3, x_iL, x_iL1, x_iT, x_iT1, x_iS, x_iS1, x_iR1, x_iR11, x_iR2, x_iR21, x_iE, x_iE1, x_iV, x_iV1, x_iZ, x_iZ1, x_for, x_fo0, x_fo1, x_fo2, x_fo3, x_fo4, x_fo5, x_fo6, x_fo7, x_gT, x_gC, x_gC0, x_try, x_try1, x_try2, x_try3, x_try4, x_try5, x_nx1, x_nx2, x_try6, x_try7, x_nx3, x_nx4, x_app, x_app1, x_app2, x_lc, x_lcE, x_lc0, x_lc1, x_lcG, x_w0, x_w1, vMinL4, vMaxL4, vAll3, vAny3, vAll4, vAny4, x_wh1, x_wh2, x_wh0, x_abs, vI_ii, vI_ib, vI_it, vI_il, vI_is, vI_bb, vI_bi, vI_tt, vI_tl, vI_ti, vI_ll, vI_lt, vI_ss, vEqB, vNeB, x_ta, x_ta1, x_ta2, x_ta3, x_ta4, x_ta5, x_is, nc_0, nc_1, nc_2, nc_3, nc_4, nc_5, nc_6, nc_7, nc_8, nc_9, nc_10, nc_11, vMax2, vMin2, vIsN0, vIsN1, vNotN0, vNotN1, vIsN2, vNotN2, x_lo, x_lo1, x_lo2, vAll2, vAny2, x_sl, x_sl1, x_sl2, x_pn, x_ps, x_ps1, x_cutL, x_cutC, vEqS, vNeS, List.getD_cons_zero, List.getD_cons_succ, List.set_cons_zero, List.set_cons_succ, List.map_cons, List.map_nil, List.replicate_zero, List.replicate_succ, List.length_cons, List.length_nil, List.cons_append, List.nil_append, Option.bind_some, if_true, if_false, Bool.false_eq_true, Nat.reduceSub, Nat.reduceAdd, Nat.reduceLeDiff, Nat.reduceLT, vAdd, vSub, vLt, vLe, vGt, vGe, vNeg, vEq, vNe, vEq2, vNe2, vMod, vDiv, vMul, vPow, Int.reduceToNat, vIx0, vIx1, vLenT, vLenC, vLenL, reduceIte, decide_true, decide_false, Bool.not_true, Bool.not_false, beq_self_eq_true, Bool.and_true, Bool.true_and, Bool.and_self, Bool.and_false, Bool.false_and, vMinL2, vMaxL2, c5, c6, c7, c8, c9, eJm, e0, e1, e2, h1, h2, vMod P0, vDiv S0 S2, vDiv Q1 Q2, hp, hq, hk, hn, ho, hQ, hu, hv, hl, t]
  | false =>
    have hn : 0 < n1 / 6 % 3 := by
      have : n1 / 6 % 3 ≠ 0 := by simpa using hk
      omega
    have k1 := mnI_le p q
    have k2 := mxI_le p q
    by_cases h8 : 0 < n8 % 3
    · have t := T true (mnI p q - n7 % 2) (mxI p q + n8 % 3) none (by clear h1 h2; omega) (by clear h1 h2; omega) (by clear h1 h2 q1 q2; omega) (fun _ => ⟨⟨o1.1, o1.2, I1 _ (by clear h1 h2 q1 q2; omega), I3 _ (by clear h1 h2 q1 q2; omega)⟩, o2.1, o2.2, I2 _ (by clear h1 h2 q1 q2; omega), I4 _ (by clear h1 h2 q1 q2; omega)⟩)
      clear T I1 I2 I3 I4 q1 q2 o1 o2 k1 k2
      simp (disch := decide) only [u_law_5, u_law_6, u_law_7, u_law_8, u_law_9, u_law_10, u_law_11, x_seq, x_seq1, x_seq2, x_seq3, x_seq4, x_seq5, x_seq6, x_nil, x_if, x_if1, x_if2, x_if3, x_ret, x_ret1, x_ret2, x_ret3, x_retN, x_asg, x_asg1, x_asg2, x_asg3, x_asg4, x_asg5, x_gN, x_drop, x_drop1, x_drop2, x_bk, x_ct, x_raise, x_tZ, x_tZ1, x_tZ2, x_tE, x_tE1, x_tE2, x_tE3, x_tAnd, x_tAnd1, x_tAnd2, x_tAnd3, x_tOr, x_tOr1, x_tOr2, x_tOr3, x_tNot, x_tNot1, x_tNot2, x_tNot3, x_tTrue, x_z2, x_z21, x_z1, x_z11, x_zC, x_zC1, x_za, x_za1, x_za0, x_zV, x_zK, x_ch, x_ch1, x_ch2, x_eZ, x_eZ1, x_eZ2, x_eV, x_eV1, x_eM, x_eM1, x_b1, x_b2, x_b3, x_s1, x_s2, x_s3, x_oO, x_oO2, x_e2, x_e1, x_eC, x_aN, x_aC, x_tup, x_lst, x_call, x_oC1, x_oC2, x_call0, x_call01, x_eAnd, x_eAnd1, x_eOr, x_eOr1, x_eNot, x_eNot1, x_eIf, x_eIf1, x_fz_int, x_fr_int, x_fz_bl, x_fr_bl, x_fz_str, x_fr_str, x_fz_ty, x_fr_ty, x_fz_tup, x_fr_tup, x_fz_cst, x_fr_cst, x_fz_lst_false, x_fr_lst_false, x_fz_non, x_fr_non, x_fz_lt, x_fr_lt, x_fL0, x_fL1, x_cF, x_cR1, x_cR2, x_cR3, x_iL, x_iL1, x_iT, x_iT1, x_iS, x_iS1, x_iR1, x_iR11, x_iR2, x_iR21, x_iE, x_iE1, x_iV, x_iV1, x_iZ, x_iZ1, x_for, x_fo0, x_fo1, x_fo2, x_fo3, x_fo4, x_fo5, x_fo6, x_fo7, x_gT, x_gC, x_gC0, x_try, x_try1, x_try2, x_try3, x_try4, x_try5, x_nx1, x_nx2, x_try6, x_try7, x_nx3, x_nx4, x_app, x_app1, x_app2, x_lc, x_lcE, x_lc0, x_lc1, x_lcG, x_w0, x_w1, vMinL4, vMaxL4, vAll3, vAny3, vAll4, vAny4, x_wh1, x_wh2, x_wh0, x_abs, vI_ii, vI_ib, vI_it, vI_il, vI_is, vI_bb, vI_bi, vI_tt, vI_tl, vI_ti, vI_ll, vI_lt, vI_ss, vEqB, vNeB, x_ta, x_ta1, x_ta2, x_ta3, x_ta4, x_ta5, x_is, nc_0, nc_1, nc_2, nc_3, nc_4, nc_5, nc_6, nc_7, nc_8, nc_9, nc_10, nc_11, vMax2, vMin2, vIsN0, vIsN1, vNotN0, vNotN1, vIsN2, vNotN2, x_lo, x_lo1, x_lo2, vAll2, vAny2, x_sl, x_sl1, x_sl2, x_pn, x_ps, x_ps1, x_cutL, x_cutC, vEqS, vNeS, List.getD_cons_zero, List.getD_cons_succ, List.set_cons_zero, List.set_cons_succ, List.map_cons, List.map_nil, List.replicate_zero, List.replicate_succ, List.length_cons, List.length_nil, List.cons_append, List.nil_append, Option.bind_some, if_true, if_false, Bool.false_eq_true, Nat.reduceSub, Nat.reduceAdd, Nat.reduceLeDiff, Nat.reduceLT, vAdd, vSub, vLt, vLe, vGt, vGe, vNeg, vEq, vNe, vEq2, vNe2, vMod, vDiv, vMul, vPow, Int.reduceToNat, vIx0, vIx1, vLenT, vLenC, vLenL, reduceIte, decide_true, decide_false, Bool.not_true, Bool.not_false, beq_self_eq_true, Bool.and_true, Bool.true_and, Bool.and_self, Bool.and_false, Bool.false_and, vMinL2, vMaxL2, c5, c6, c7, c8, c9, eJm, e0, e1, e2, h1, h2, vMod P0, vDiv S0 S2, hp, hq, hk, hn, h8, t]
    · have t := T false (mnI p q - n7 % 2) (mxI p q + n8 % 3) none (by clear h1 h2; omega) (by clear h1 h2; omega) (by clear h1 h2 q1 q2; omega) (fun z => by cases z)
      clear T I1 I2 I3 I4 q1 q2 o1 o2 k1 k2
      simp (disch := decide) only [u_law_5, u_law_6, u_law_7, u_law_8, u_law_9, u_law_10, u_law_11, x_seq, x_seq1, x_seq2, x_seq3, x_seq4, x_seq5, x_seq6, x_nil, x_if, x_if1, x_if2, x_if3, x_ret, x_ret1, x_ret2, x_ret3, x_retN, x_asg, x_asg1, x_asg2, x_asg3, x_asg4, x_asg5, x_gN, x_drop, x_drop1, x_drop2, x_bk, x_ct, x_raise, x_tZ, x_tZ1, x_tZ2, x_tE, x_tE1, x_tE2, x_tE3, x_tAnd, x_tAnd1, x_tAnd2, x_tAnd3, x_tOr, x_tOr1, x_tOr2, x_tOr3, x_tNot, x_tNot1, x_tNot2, x_tNot3, x_tTrue, x_z2, x_z21, x_z1, x_z11, x_zC, x_zC1, x_za, x_za1, x_za0, x_zV, x_zK, x_ch, x_ch1, x_ch2, x_eZ, x_eZ1, x_eZ2, x_eV, x_eV1, x_eM, x_eM1, x_b1, x_b2, x_b3, x_s1, x_s2, x_s3, x_oO, x_oO2, x_e2, x_e1, x_eC, x_aN, x_aC, x_tup, x_lst, x_call, x_oC1, x_oC2, x_call0, x_call01, x_eAnd, x_eAnd1, x_eOr, x_eOr1, x_eNot, x_eNot1, x_eIf, x_eIf1, x_fz_int, x_fr_int, x_fz_bl, x_fr_bl, x_fz_str, x_fr_str, x_fz_ty, x_fr_ty, x_fz_tup, x_fr_tup, x_fz_cst, x_fr_cst, x_fz_lst_false, x_fr_lst_false, x_fz_non, x_fr_non, x_fz_lt, x_fr_lt, x_fL0, x_fL1, x_cF, x_cR1, x_cR2, x_cR3, x_iL, x_iL1, x_iT, x_iT1, x_iS, x_iS1, x_iR1, x_iR11, x_iR2, x_iR21, x_iE, x_iE1, x_iV, x_iV1, x_iZ, x_iZ1, x_for, x_fo0, x_fo1, x_fo2, x_fo3, x_fo4, x_fo5, x_fo6, x_fo7, x_gT, x_gC, x_gC0, x_try, x_try1, x_try2, x_try3, x_try4, x_try5, x_nx1, x_nx2, x_try6, x_try7, x_nx3, x_nx4, x_app, x_app1, x_app2, x_lc, x_lcE, x_lc0, x_lc1, x_lcG, x_w0, x_w1, vMinL4, vMaxL4, vAll3, vAny3, vAll4, vAny4, x_wh1, x_wh2, x_wh0, x_abs, vI_ii, vI_ib, vI_it, vI_il, vI_is, vI_bb, vI_bi, vI_tt, vI_tl, vI_ti, vI_ll, vI_lt, vI_ss, vEqB, vNeB, x_ta, x_ta1, x_ta2, x_ta3, x_ta4, x_ta5, x_is, nc_0, nc_1, nc_2, nc_3, nc_4, nc_5, nc_6, nc_7, nc_8, nc_9, nc_10, nc_11, vMax2, vMin2, vIsN0, vIsN1, vNotN0, vNotN1, vIsN2, vNotN2, x_lo, x_lo1, x_lo2, vAll2, vAny2, x_sl, x_sl1, x_sl2, x_pn, x_ps, x_ps1, x_cutL, x_cutC, vEqS, vNeS, List.getD_cons_zero, List.getD_cons_succ, List.set_cons_zero, List.set_cons_succ, List.map_cons, List.map_nil, List.replicate_zero, List.replicate_succ, List.length_cons, List.length_nil, List.cons_append, List.nil_append, Option.bind_some, if_true, if_false, Bool.false_eq_true, Nat.reduceSub, Nat.reduceAdd, Nat.reduceLeDiff, Nat.reduceLT, vAdd, vSub, vLt, vLe, vGt, vGe, vNeg, vEq, vNe, vEq2, vNe2, vMod, vDiv, vMul, vPow, Int.reduceToNat, vIx0, vIx1, vLenT, vLenC, vLenL, reduceIte, decide_true, decide_false, Bool.not_true, Bool.not_false, beq_self_eq_true, Bool.and_true, Bool.true_and, Bool.and_self, Bool.and_false, Bool.false_and, vMinL2, vMaxL2, c5, c6, c7, c8, c9, eJm, e0, e1, e2, h1, h2, vMod P0, vDiv S0 S2, hp, hq, hk, hn, h8, t]
theorem law_true (ns : List Int) (h : ns.length ≤ 63) : f_law [.cst (ns.map D.int)] = .ok (.bl true) := by
  have c0 : f__law_cell_at [.cst (ns.map D.int), .int 0] = .ok (.int (ns.getD 0 0)) := cell_ok ns 0
  have c1 : f__law_cell_at [.cst (ns.map D.int), .int 1] = .ok (.int (ns.getD 1 0)) := cell_ok ns 1
  have c2 : f__law_cell_at [.cst (ns.map D.int), .int 2] = .ok (.int (ns.getD 2 0)) := cell_ok ns 2
  have c3 : f__law_cell_at [.cst (ns.map D.int), .int 3] = .ok (.int (ns.getD 3 0)) := cell_ok ns 3
  have c4 : f__law_cell_at [.cst (ns.map D.int), .int 4] = .ok (.int (ns.getD 4 0)) := cell_ok ns 4
  have c5 : f__law_cell_at [.cst (ns.map D.int), .int 5] = .ok (.int (ns.getD 5 0)) := cell_ok ns 5
  have c6 : f__law_cell_at [.cst (ns.map D.int), .int 6] = .ok (.int (ns.getD 6 0)) := cell_ok ns 6
  have c7 : f__law_cell_at [.cst (ns.map D.int), .int 7] = .ok (.int (ns.getD 7 0)) := cell_ok ns 7
  have c8 : f__law_cell_at [.cst (ns.map D.int), .int 8] = .ok (.int (ns.getD 8 0)) := cell_ok ns 8
  have c9 : f__law_cell_at [.cst (ns.map D.int), .int 9] = .ok (.int (ns.getD 9 0)) := cell_ok ns 9
  generalize ns.getD 0 0 = n0 at *
  generalize ns.getD 1 0 = n1 at *
  generalize ns.getD 2 0 = n2 at *
  generalize ns.getD 3 0 = n3 at *
  generalize ns.getD 4 0 = n4 at *
  generalize ns.getD 5 0 = n5 at *
  generalize ns.getD 6 0 = n6 at *
  generalize ns.getD 7 0 = n7 at *
  generalize ns.getD 8 0 = n8 at *
  generalize ns.getD 9 0 = n9 at *
  obtain ⟨a, b, hx, ab, a1, a2, b1, b2⟩ := lawx_ok ns (K := n1) c2 c3
  obtain ⟨J, hJ⟩ : ∃ J, 2 + n4 % 5 = J := ⟨_, rfl⟩
  obtain ⟨M, hM⟩ : ∃ M, J.toNat = M := ⟨_, rfl⟩
  obtain ⟨J1, hJ1⟩ : ∃ J1, J - 1 = J1 := ⟨_, rfl⟩
  have J2 : 2 ≤ J := by omega
  have J6 : J ≤ 6 := by omega
  have t := fun g g1 sg => main_ok ns (n1 := n1) (g := g) (x0 := a) (x1 := b) (r11 := none) c5 c6 c7 c8 c9 (M := M) (J := J) (J1 := J1) (by omega) (by omega) hM (by omega) (by omega) (by omega) hJ1 ab (by omega) (by omega) g1 sg
  clear a1 a2 b1 b2 ab J2 J6 hM hJ1
  cases h0 : (n0 % 2 == 1) with
  | true =>
    have t := t (1 + n0 / 2 % 1000000) (by omega) (by omega)
    simp (disch := decide) only [f_law, m_law, u_law_1, u_law_2, u_law_3, u_law_4, x_seq, x_seq1, x_seq2, x_seq3, x_seq4, x_seq5, x_seq6, x_nil, x_if, x_if1, x_if2, x_if3, x_ret, x_ret1, x_ret2, x_ret3, x_retN, x_asg, x_asg1, x_asg2, x_asg3, x_asg4, x_asg5, x_gN, x_drop, x_drop1, x_drop2, x_bk, x_ct, x_raise, x_tZ, x_tZ1, x_tZ2, x_tE, x_tE1, x_tE2, x_tE3, x_tAnd, x_tAnd1, x_tAnd2, x_tAnd3, x_tOr, x_tOr1, x_tOr2, x_tOr3, x_tNot, x_tNot1, x_tNot2, x_tNot3, x_tTrue, x_z2, x_z21, x_z1, x_z11, x_zC, x_zC1, x_za, x_za1, x_za0, x_zV, x_zK, x_ch, x_ch1, x_ch2, x_eZ, x_eZ1, x_eZ2, x_eV, x_eV1, x_eM, x_eM1, x_b1, x_b2, x_b3, x_s1, x_s2, x_s3, x_oO, x_oO2, x_e2, x_e1, x_eC, x_aN, x_aC, x_tup, x_lst, x_call, x_oC1, x_oC2, x_call0, x_call01, x_eAnd, x_eAnd1, x_eOr, x_eOr1, x_eNot, x_eNot1, x_eIf, x_eIf1, x_fz_int, x_fr_int, x_fz_bl, x_fr_bl, x_fz_str, x_fr_str, x_fz_ty, x_fr_ty, x_fz_tup, x_fr_tup, x_fz_cst, x_fr_cst, x_fz_lst_false, x_fr_lst_false, x_fz_non, x_fr_non, x_fz_lt, x_fr_lt, x_fL0, x_fL1, x_cF, x_cR1, x_cR2, x_cR3, x_iL, x_iL1, x_iT, x_iT1, x_iS, x_iS1, x_iR1, x_iR11, x_iR2, x_iR21, x_iE, x_iE1, x_iV, x_iV1, x_iZ, x_iZ1, x_for, x_fo0, x_fo1, x_fo2, x_fo3, x_fo4, x_fo5, x_fo6, x_fo7, x_gT, x_gC, x_gC0, x_try, x_try1, x_try2, x_try3, x_try4, x_try5, x_nx1, x_nx2, x_try6, x_try7, x_nx3, x_nx4, x_app, x_app1, x_app2, x_lc, x_lcE, x_lc0, x_lc1, x_lcG, x_w0, x_w1, vMinL4, vMaxL4, vAll3, vAny3, vAll4, vAny4, x_wh1, x_wh2, x_wh0, x_abs, vI_ii, vI_ib, vI_it, vI_il, vI_is, vI_bb, vI_bi, vI_tt, vI_tl, vI_ti, vI_ll, vI_lt, vI_ss, vEqB, vNeB, x_ta, x_ta1, x_ta2, x_ta3, x_ta4, x_ta5, x_is, nc_0, nc_1, nc_2, nc_3, nc_4, nc_5, nc_6, nc_7, nc_8, nc_9, nc_10, nc_11, vMax2, vMin2, vIsN0, vIsN1, vNotN0, vNotN1, vIsN2, vNotN2, x_lo, x_lo1, x_lo2, vAll2, vAny2, x_sl, x_sl1, x_sl2, x_pn, x_ps, x_ps1, x_cutL, x_cutC, vEqS, vNeS, List.getD_cons_zero, List.getD_cons_succ, List.set_cons_zero, List.set_cons_succ, List.map_cons, List.map_nil, List.replicate_zero, List.replicate_succ, List.length_cons, List.length_nil, List.cons_append, List.nil_append, Option.bind_some, if_true, if_false, Bool.false_eq_true, Nat.reduceSub, Nat.reduceAdd, Nat.reduceLeDiff, Nat.reduceLT, vAdd, vSub, vLt, vLe, vGt, vGe, vNeg, vEq, vNe, vEq2, vNe2, vMod, vDiv, vMul, vPow, Int.reduceToNat, vIx0, vIx1, vLenT, vLenC, vLenL, reduceIte, decide_true, decide_false, Bool.not_true, Bool.not_false, beq_self_eq_true, Bool.and_true, Bool.true_and, Bool.and_self, Bool.and_false, Bool.false_and, c0, c1, c4, hx, h0, hJ, t]
  | false =>
    have t := t (1 + n0 / 2 % 12) (by omega) (by omega)
    simp (disch := decide) only [f_law, m_law, u_law_1, u_law_2, u_law_3, u_law_4, x_seq, x_seq1, x_seq2, x_seq3, x_seq4, x_seq5, x_seq6, x_nil, x_if, x_if1, x_if2, x_if3, x_ret, x_ret1, x_ret2, x_ret3, x_retN, x_asg, x_asg1, x_asg2, x_asg3, x_asg4, x_asg5, x_gN, x_drop, x_drop1, x_drop2, x_bk, x_ct, x_raise, x_tZ, x_tZ1, x_tZ2, x_tE, x_tE1, x_tE2, x_tE3, x_tAnd, x_tAnd1, x_tAnd2, x_tAnd3, x_tOr, x_tOr1, x_tOr2, x_tOr3, x_tNot, x_tNot1, x_tNot2, x_tNot3, x_tTrue, x_z2, x_z21, x_z1, x_z11, x_zC, x_zC1, x_za, x_za1, x_za0, x_zV, x_zK, x_ch, x_ch1, x_ch2, x_eZ, x_eZ1, x_eZ2, x_eV, x_eV1, x_eM, x_eM1, x_b1, x_b2, x_b3, x_s1, x_s2, x_s3, x_oO, x_oO2, x_e2, x_e1, x_eC, x_aN, x_aC, x_tup, x_lst, x_call, x_oC1, x_oC2, x_call0, x_call01, x_eAnd, x_eAnd1, x_eOr, x_eOr1, x_eNot, x_eNot1, x_eIf, x_eIf1, x_fz_int, x_fr_int, x_fz_bl, x_fr_bl, x_fz_str, x_fr_str, x_fz_ty, x_fr_ty, x_fz_tup, x_fr_tup, x_fz_cst, x_fr_cst, x_fz_lst_false, x_fr_lst_false, x_fz_non, x_fr_non, x_fz_lt, x_fr_lt, x_fL0, x_fL1, x_cF, x_cR1, x_cR2, x_cR3, x_iL, x_iL1, x_iT, x_iT1, x_iS, x_iS1, x_iR1, x_iR11, x_iR2, x_iR21, x_iE, x_iE1, x_iV, x_iV1, x_iZ, x_iZ1, x_for, x_fo0, x_fo1, x_fo2, x_fo3, x_fo4, x_fo5, x_fo6, x_fo7, x_gT, x_gC, x_gC0, x_try, x_try1, x_try2, x_try3, x_try4, x_try5, x_nx1, x_nx2, x_try6, x_try7, x_nx3, x_nx4, x_app, x_app1, x_app2, x_lc, x_lcE, x_lc0, x_lc1, x_lcG, x_w0, x_w1, vMinL4, vMaxL4, vAll3, vAny3, vAll4, vAny4, x_wh1, x_wh2, x_wh0, x_abs, vI_ii, vI_ib, vI_it, vI_il, vI_is, vI_bb, vI_bi, vI_tt, vI_tl, vI_ti, vI_ll, vI_lt, vI_ss, vEqB, vNeB, x_ta, x_ta1, x_ta2, x_ta3, x_ta4, x_ta5, x_is, nc_0, nc_1, nc_2, nc_3, nc_4, nc_5, nc_6, nc_7, nc_8, nc_9, nc_10, nc_11, vMax2, vMin2, vIsN0, vIsN1, vNotN0, vNotN1, vIsN2, vNotN2, x_lo, x_lo1, x_lo2, vAll2, vAny2, x_sl, x_sl1, x_sl2, x_pn, x_ps, x_ps1, x_cutL, x_cutC, vEqS, vNeS, List.getD_cons_zero, List.getD_cons_succ, List.set_cons_zero, List.set_cons_succ, List.map_cons, List.map_nil, List.replicate_zero, List.replicate_succ, List.length_cons, List.length_nil, List.cons_append, List.nil_append, Option.bind_some, if_true, if_false, Bool.false_eq_true, Nat.reduceSub, Nat.reduceAdd, Nat.reduceLeDiff, Nat.reduceLT, vAdd, vSub, vLt, vLe, vGt, vGe, vNeg, vEq, vNe, vEq2, vNe2, vMod, vDiv, vMul, vPow, Int.reduceToNat, vIx0, vIx1, vLenT, vLenC, vLenL, reduceIte, decide_true, decide_false, Bool.not_true, Bool.not_false, beq_self_eq_true, Bool.and_true, Bool.true_and, Bool.and_self, Bool.and_false, Bool.false_and, c0, c1, c4, hx, h0, hJ, t]
end Lw

namespace Lw
open PySem PySem.Spec PyProof.Rows L2 Bn
/-! ### what the top has written -/
structure Tx (K : PySem.W.Frag) (mg : Str → Option Value) (ca : Str → Addr) : Prop where
  bool_ : mg "bool" = none
  int_ : mg "int" = none
  isinstance : mg "isinstance" = none
  len_ : mg "len" = none
  max_ : mg "max" = none
  min_ : mg "min" = none
  range : mg "range" = none
  tuple_ : mg "tuple" = none
section
variable {P : Program} {w : World} {K : PySem.W.Frag} {mg : Str → Option Value} {base : Heap} {ca : Str → Addr}
theorem ok__law_cell_at (T : Tx K mg ca)  {f : Addr} {fd : FuncData} (F : Fun K "_law_cell_at" "_law_cell_at" s__law_cell_at f fd) : FnOk P w K mg base (L2.CX P w) 1 f fd ["_law_script", "_law_k"] (spP K ca f__law_cell_at) :=
  fn_ok F sc__law_cell_at fun cdv A outer s H E F0 R hr c => (s_cons (s_if (t_cmpZ op_lt sLt (z_var (pv 1)) (z_callB call_len sLen (by rfl) T.len_ (by decide +kernel) (za_cons (z_var (pv 0)) za_nil))) (s_one (s_ret (e_z (z_ix ix_seq sIx (z_var (pv 0)) (z_var (pv 1)))))) s_nil)
    (s_one (s_ret (e_z z_int))))
theorem ok__law_x (T : Tx K mg ca) (G__law_cell_at : Fo P w K mg base ca 1 "_law_cell_at" f__law_cell_at) {f : Addr} {fd : FuncData} (F : Fun K "_law_x" "_law_x" s__law_x f fd) : FnOk P w K mg base (L2.CX P w) 2 f fd ["_law_script", "_law_kind"] (spP K ca f__law_x) :=
  fn_ok F sc__law_x fun cdv A outer s H E F0 R hr c => (s_cons (s_set (i := 2) sc__law_x.nd rfl (.inl rfl) (e_z (z_op op_pow sPow z_int z_int)))
    (s_cons (s_if (t_cmpZ (op_eqD hr.units) sEq (z_op op_mod sMod (z_var (pv 1)) z_int) z_int) (s_one (s_set (i := 2) sc__law_x.nd rfl (.inl rfl) (e_z z_int))) s_nil)
    (s_cons (s_set (i := 3) sc__law_x.nd rfl (.inl rfl) (e_op op_sub sSub (e_op op_mod sMod (e_call c G__law_cell_at hr (by rfl) (a_cons (e_var (pv 0)) (a_cons (e_z z_int) a_nil))) (e_z (z_op op_add sAdd (z_op op_mulW sMul z_int (z_var (pv 2))) z_int))) (e_var (pv 2))))
    (s_cons (s_set (i := 4) sc__law_x.nd rfl (.inl rfl) (e_op op_add sAdd (e_var (pv 3)) (e_op op_mod sMod (e_call c G__law_cell_at hr (by rfl) (a_cons (e_var (pv 0)) (a_cons (e_z z_int) a_nil))) (e_z (z_op op_add sAdd (z_var (pv 2)) z_int)))))
    (s_cons (s_if (t_cmpZ (op_eqD hr.units) sEq (z_op op_mod sMod (z_op op_fdivW sDiv (z_var (pv 1)) z_int) z_int) z_int) (s_one (s_ret (e_tup (a_cons (e_z (z_callB (call_min2 c.calm) sMin2 (by rfl) T.min_ (by decide +kernel) (za_cons (z_var (pv 3)) (za_cons (z_un un_neg sNeg (z_var (pv 3))) za_nil)))) (a_cons (e_z (z_callB (call_max2 c.calm) sMax2 (by rfl) T.max_ (by decide +kernel) (za_cons z_int (za_cons (z_var (pv 4)) za_nil)))) a_nil))))) s_nil)
    (s_cons (s_if (t_cmpZ (op_eqD hr.units) sEq (z_op op_mod sMod (z_op op_fdivW sDiv (z_var (pv 1)) z_int) z_int) z_int) (s_one (s_ret (e_tup (a_cons (e_var (pv 3)) (a_cons (e_op op_add sAdd (e_var (pv 3)) (e_op op_mod sMod (e_call c G__law_cell_at hr (by rfl) (a_cons (e_var (pv 0)) (a_cons (e_z z_int) a_nil))) (e_z z_int))) a_nil))))) s_nil)
    (s_one (s_ret (e_tup (a_cons (e_var (pv 3)) (a_cons (e_var (pv 4)) a_nil)))))))))))
theorem ok__law_power (T : Tx K mg ca)  {f : Addr} {fd : FuncData} (F : Fun K "_law_power" "_law_power" s__law_power f fd) : FnOk P w K mg base (L2.CX P w) 1 f fd ["_law_a", "_law_many"] (spP K ca f__law_power) :=
  fn_ok F sc__law_power fun cdv A outer s H E F0 R hr c => (s_cons (s_set (i := 2) sc__law_power.nd rfl (.inl rfl) (e_z z_int))
    (s_cons (s_for c (i_range1 (by rfl) T.range (a_cons (e_var (pv 1)) a_nil)) (g_name (i := 3) sc__law_power.nd rfl (.inl rfl)) (s_one (s_set (i := 2) sc__law_power.nd rfl (.inl rfl) (e_z (z_op op_mulW sMul (z_var (pv 2)) (z_var (pv 0)))))))
    (s_one (s_ret (e_mv (pv 2))))))
theorem ok_multiplied (T : Tx K mg ca)  {f : Addr} {fd : FuncData} (F : Fun K "multiplied" "multiplied" s_multiplied f fd) : FnOk P w K mg base (L2.CX P w) 1 f fd ["a", "many"] (spP K ca f_multiplied) :=
  fn_ok F sc_multiplied fun cdv A outer s H E F0 R hr c => (s_cons (s_set (i := 2) sc_multiplied.nd rfl (.inl rfl) (e_z z_int))
    (s_cons (s_for c (i_range1 (by rfl) T.range (a_cons (e_var (pv 1)) a_nil)) (g_name (i := 3) sc_multiplied.nd rfl (.inl rfl)) (s_one (s_set (i := 2) sc_multiplied.nd rfl (.inl rfl) (e_z (z_op op_mulW sMul (z_var (pv 2)) (z_var (pv 0)))))))
    (s_one (s_ret (e_mv (pv 2))))))
theorem ok_root_below (T : Tx K mg ca) (G_multiplied : Fo P w K mg base ca 1 "multiplied" f_multiplied) {f : Addr} {fd : FuncData} (F : Fun K "root_below" "root_below" s_root_below f fd) : FnOk P w K mg base (L2.CX P w) 2 f fd ["low", "high", "many", "bound"] (spP K ca f_root_below) :=
  fn_ok F sc_root_below fun cdv A outer s H E F0 R hr c => (s_cons (s_while c fuel_root_below1 (t_cmpZ op_lt sLt (z_var (pv 0)) (z_var (pv 1))) (s_cons (s_set (i := 4) sc_root_below.nd rfl (.inl rfl) (e_z (z_op op_fdivW sDiv (z_op op_add sAdd (z_op op_add sAdd (z_var (pv 0)) (z_var (pv 1))) z_int) z_int)))
    (s_one (s_if (t_cmpE op_le sLe (e_call c G_multiplied hr (by rfl) (a_cons (e_var (pv 4)) (a_cons (e_var (pv 2)) a_nil))) (e_var (pv 3))) (s_one (s_set (i := 0) sc_root_below.nd rfl (.inl rfl) (e_var (pv 4)))) (s_one (s_set (i := 1) sc_root_below.nd rfl (.inl rfl) (e_z (z_op op_sub sSub (z_var (pv 4)) z_int))))))))
    (s_one (s_ret (e_mv (pv 0)))))
theorem ok_root_above (T : Tx K mg ca) (G_multiplied : Fo P w K mg base ca 1 "multiplied" f_multiplied) {f : Addr} {fd : FuncData} (F : Fun K "root_above" "root_above" s_root_above f fd) : FnOk P w K mg base (L2.CX P w) 2 f fd ["low", "high", "many", "bound"] (spP K ca f_root_above) :=
  fn_ok F sc_root_above fun cdv A outer s H E F0 R hr c => (s_cons (s_while c fuel_root_above1 (t_cmpZ op_lt sLt (z_var (pv 0)) (z_var (pv 1))) (s_cons (s_set (i := 4) sc_root_above.nd rfl (.inl rfl) (e_z (z_op op_fdivW sDiv (z_op op_add sAdd (z_var (pv 0)) (z_var (pv 1))) z_int)))
    (s_one (s_if (t_cmpE op_ge sGe (e_call c G_multiplied hr (by rfl) (a_cons (e_var (pv 4)) (a_cons (e_var (pv 2)) a_nil))) (e_var (pv 3))) (s_one (s_set (i := 1) sc_root_above.nd rfl (.inl rfl) (e_var (pv 4)))) (s_one (s_set (i := 0) sc_root_above.nd rfl (.inl rfl) (e_z (z_op op_add sAdd (z_var (pv 4)) z_int))))))))
    (s_one (s_ret (e_mv (pv 0)))))
theorem ok_rising (T : Tx K mg ca) (G_multiplied : Fo P w K mg base ca 1 "multiplied" f_multiplied) (G_root_below : Fo P w K mg base ca 2 "root_below" f_root_below) (G_root_above : Fo P w K mg base ca 2 "root_above" f_root_above) {f : Addr} {fd : FuncData} (F : Fun K "rising" "rising" s_rising f fd) : FnOk P w K mg base (L2.CX P w) 3 f fd ["x", "many", "low", "high"] (spP K ca f_rising) :=
  fn_ok F sc_rising fun cdv A outer s H E F0 R hr c => (s_cons (s_if (PW.pt (t_or (t_cmpE op_lt sLt (e_call c G_multiplied hr (by rfl) (a_cons (e_z (z_ix ix_seq sIx (z_var (pv 0)) z_int)) (a_cons (e_var (pv 1)) a_nil))) (e_var (pv 2))) (t_or1 (t_cmpE op_gt sGt (e_call c G_multiplied hr (by rfl) (a_cons (e_z (z_ix ix_seq sIx (z_var (pv 0)) z_int)) (a_cons (e_var (pv 1)) a_nil))) (e_var (pv 3)))))) (s_one (s_ret (e_z z_non))) s_nil)
    (s_cons (s_set (i := 4) sc_rising.nd rfl (.inl rfl) (e_z (z_ix ix_seq sIx (z_var (pv 0)) z_int)))
    (s_cons (s_if (t_cmpE op_lt sLt (e_call c G_multiplied hr (by rfl) (a_cons (e_z (z_ix ix_seq sIx (z_var (pv 0)) z_int)) (a_cons (e_var (pv 1)) a_nil))) (e_var (pv 2))) (s_one (s_set (i := 4) sc_rising.nd rfl (.inl rfl) (e_call c G_root_below hr (by rfl) (a_cons (e_z (z_ix ix_seq sIx (z_var (pv 0)) z_int)) (a_cons (e_z (z_ix ix_seq sIx (z_var (pv 0)) z_int)) (a_cons (e_var (pv 1)) (a_cons (e_var (pv 2)) a_nil))))))) s_nil)
    (s_cons (s_set (i := 5) sc_rising.nd rfl (.inl rfl) (e_z (z_ix ix_seq sIx (z_var (pv 0)) z_int)))
    (s_cons (s_if (t_cmpE op_gt sGt (e_call c G_multiplied hr (by rfl) (a_cons (e_z (z_ix ix_seq sIx (z_var (pv 0)) z_int)) (a_cons (e_var (pv 1)) a_nil))) (e_var (pv 3))) (s_one (s_set (i := 5) sc_rising.nd rfl (.inl rfl) (e_call c G_root_above hr (by rfl) (a_cons (e_z (z_ix ix_seq sIx (z_var (pv 0)) z_int)) (a_cons (e_z (z_ix ix_seq sIx (z_var (pv 0)) z_int)) (a_cons (e_var (pv 1)) (a_cons (e_var (pv 3)) a_nil))))))) s_nil)
    (s_one (s_ret (e_tup (a_cons (e_var (pv 4)) (a_cons (e_var (pv 5)) a_nil))))))))))
theorem ok_hull (T : Tx K mg ca)  {f : Addr} {fd : FuncData} (F : Fun K "hull" "hull" s_hull f fd) : FnOk P w K mg base (L2.CX P w) 1 f fd ["a", "b"] (spP K ca f_hull) :=
  fn_ok F sc_hull fun cdv A outer s H E F0 R hr c => (s_one (s_ret (e_tup (a_cons (e_z (z_callB (call_min2 c.calm) sMin2 (by rfl) T.min_ (by decide +kernel) (za_cons (z_ix ix_seq sIx (z_var (pv 0)) z_int) (za_cons (z_ix ix_seq sIx (z_var (pv 1)) z_int) za_nil)))) (a_cons (e_z (z_callB (call_max2 c.calm) sMax2 (by rfl) T.max_ (by decide +kernel) (za_cons (z_ix ix_seq sIx (z_var (pv 0)) z_int) (za_cons (z_ix ix_seq sIx (z_var (pv 1)) z_int) za_nil)))) a_nil)))))
theorem ok_both (T : Tx K mg ca) (G_hull : Fo P w K mg base ca 1 "hull" f_hull) {f : Addr} {fd : FuncData} (F : Fun K "both" "both" s_both f fd) : FnOk P w K mg base (L2.CX P w) 2 f fd ["a", "b"] (spP K ca f_both) :=
  fn_ok F sc_both fun cdv A outer s H E F0 R hr c => (s_cons (s_if (t_cmpZ op_isN sIsN (z_var (pv 0)) z_non) (s_one (s_ret (e_mv (pv 1)))) s_nil)
    (s_cons (s_if (t_cmpZ op_isN sIsN (z_var (pv 1)) z_non) (s_one (s_ret (e_mv (pv 0)))) s_nil)
    (s_one (s_ret (e_call c G_hull hr (by rfl) (a_cons (e_var (pv 0)) (a_cons (e_var (pv 1)) a_nil)))))))
theorem ok_back_power (T : Tx K mg ca) (G_multiplied : Fo P w K mg base ca 1 "multiplied" f_multiplied) (G_rising : Fo P w K mg base ca 3 "rising" f_rising) (G_both : Fo P w K mg base ca 2 "both" f_both) {f : Addr} {fd : FuncData} (F : Fun K "back_power" "back_power" s_back_power f fd) : FnOk P w K mg base (L2.CX P w) 4 f fd ["z", "x", "many", "grid"] (spP K ca f_back_power) :=
  fn_ok F sc_back_power fun cdv A outer s H E F0 R hr c => (s_cons (s_set (i := 4) sc_back_power.nd rfl (.inl rfl) (e_call c G_multiplied hr (by rfl) (a_cons (e_var (pv 3)) (a_cons (e_z (z_op op_sub sSub (z_var (pv 2)) z_int)) a_nil))))
    (s_cons (s_set (i := 5) sc_back_power.nd rfl (.inl rfl) (e_z (z_op op_mulW sMul (z_ix ix_seq sIx (z_var (pv 0)) z_int) (z_var (pv 4)))))
    (s_cons (s_set (i := 6) sc_back_power.nd rfl (.inl rfl) (e_z (z_op op_mulW sMul (z_ix ix_seq sIx (z_var (pv 0)) z_int) (z_var (pv 4)))))
    (s_cons (s_if (t_cmpZ (op_eqD hr.units) sEq (z_op op_mod sMod (z_var (pv 2)) z_int) z_int) (s_one (s_ret (e_call c G_rising hr (by rfl) (a_cons (e_var (pv 1)) (a_cons (e_var (pv 2)) (a_cons (e_var (pv 5)) (a_cons (e_var (pv 6)) a_nil))))))) s_nil)
    (s_cons (s_if (t_cmpZ op_lt sLt (z_var (pv 6)) z_int) (s_one (s_ret (e_z z_non))) s_nil)
    (s_cons (s_set (i := 5) sc_back_power.nd rfl (.inl rfl) (e_z (z_callB (call_max2 c.calm) sMax2 (by rfl) T.max_ (by decide +kernel) (za_cons (z_var (pv 5)) (za_cons z_int za_nil)))))
    (s_cons (s_set (i := 7) sc_back_power.nd rfl (.inl rfl) (e_z z_non))
    (s_cons (s_if (t_cmpZ op_ge sGe (z_ix ix_seq sIx (z_var (pv 1)) z_int) z_int) (s_one (s_set (i := 7) sc_back_power.nd rfl (.inl rfl) (e_call c G_rising hr (by rfl) (a_cons (e_tup (a_cons (e_z (z_callB (call_max2 c.calm) sMax2 (by rfl) T.max_ (by decide +kernel) (za_cons (z_ix ix_seq sIx (z_var (pv 1)) z_int) (za_cons z_int za_nil)))) (a_cons (e_z (z_ix ix_seq sIx (z_var (pv 1)) z_int)) a_nil))) (a_cons (e_var (pv 2)) (a_cons (e_var (pv 5)) (a_cons (e_var (pv 6)) a_nil))))))) s_nil)
    (s_cons (s_if (t_cmpZ op_le sLe (z_ix ix_seq sIx (z_var (pv 1)) z_int) z_int) (s_cons (s_set (i := 8) sc_back_power.nd rfl (.inl rfl) (e_call c G_rising hr (by rfl) (a_cons (e_tup (a_cons (e_z (z_callB (call_max2 c.calm) sMax2 (by rfl) T.max_ (by decide +kernel) (za_cons (z_un un_neg sNeg (z_ix ix_seq sIx (z_var (pv 1)) z_int)) (za_cons z_int za_nil)))) (a_cons (e_z (z_un un_neg sNeg (z_ix ix_seq sIx (z_var (pv 1)) z_int))) a_nil))) (a_cons (e_var (pv 2)) (a_cons (e_var (pv 5)) (a_cons (e_var (pv 6)) a_nil))))))
    (s_one (s_if (t_cmpZ op_notN sNotN (z_var (pv 8)) z_non) (s_one (s_set (i := 7) sc_back_power.nd rfl (.inl rfl) (e_call c G_both hr (by rfl) (a_cons (e_var (pv 7)) (a_cons (e_tup (a_cons (e_z (z_un un_neg sNeg (z_ix ix_seq sIx (z_var (pv 8)) z_int))) (a_cons (e_z (z_un un_neg sNeg (z_ix ix_seq sIx (z_var (pv 8)) z_int))) a_nil))) a_nil))))) s_nil))) s_nil)
    (s_one (s_ret (e_mv (pv 7)))))))))))))
theorem ok__law_range (T : Tx K mg ca) (G__law_power : Fo P w K mg base ca 1 "_law_power" f__law_power) {f : Addr} {fd : FuncData} (F : Fun K "_law_range" "_law_range" s__law_range f fd) : FnOk P w K mg base (L2.CX P w) 2 f fd ["_law_low", "_law_high", "_law_many"] (spP K ca f__law_range) :=
  fn_ok F sc__law_range fun cdv A outer s H E F0 R hr c => (s_cons (s_set (i := 3) sc__law_range.nd rfl (.inl rfl) (e_lst (a_cons (e_call c G__law_power hr (by rfl) (a_cons (e_var (pv 0)) (a_cons (e_var (pv 2)) a_nil))) (a_cons (e_call c G__law_power hr (by rfl) (a_cons (e_var (pv 1)) (a_cons (e_var (pv 2)) a_nil))) a_nil))))
    (s_cons (s_if (PW.pt (t_and (t_cmpZ (op_eqD hr.units) sEq (z_op op_mod sMod (z_var (pv 2)) z_int) z_int) (t_and (t_cmpZ op_lt sLt (z_var (pv 0)) z_int) (t_and1 (t_cmpZ op_lt sLt z_int (z_var (pv 1))))))) (s_one (s_ret (e_tup (a_cons (e_z z_int) (a_cons (e_z (z_callB (cr_max c.calm) sMaxL (by rfl) T.max_ (by decide +kernel) (za_cons (z_var (pv 3)) za_nil))) a_nil))))) s_nil)
    (s_one (s_ret (e_tup (a_cons (e_z (z_callB (cr_min c.calm) sMinL (by rfl) T.min_ (by decide +kernel) (za_cons (z_var (pv 3)) za_nil))) (a_cons (e_z (z_callB (cr_max c.calm) sMaxL (by rfl) T.max_ (by decide +kernel) (za_cons (z_var (pv 3)) za_nil))) a_nil)))))))
theorem ok__law_meets (T : Tx K mg ca) (G__law_range : Fo P w K mg base ca 2 "_law_range" f__law_range) {f : Addr} {fd : FuncData} (F : Fun K "_law_meets" "_law_meets" s__law_meets f fd) : FnOk P w K mg base (L2.CX P w) 3 f fd ["_law_low", "_law_high", "_law_many", "_law_least", "_law_most"] (spP K ca f__law_meets) :=
  fn_ok F sc__law_meets fun cdv A outer s H E F0 R hr c => (s_cons (s_set (i := 5) sc__law_meets.nd rfl (.inl rfl) (e_call c G__law_range hr (by rfl) (a_cons (e_var (pv 0)) (a_cons (e_var (pv 1)) (a_cons (e_var (pv 2)) a_nil)))))
    (s_one (s_ret (e_and (e_z (z_cmp op_le sLe (z_ix ix_seq sIx (z_var (pv 5)) z_int) (z_var (pv 4)))) (e_one (e_z (z_cmp op_le sLe (z_var (pv 3)) (z_ix ix_seq sIx (z_var (pv 5)) z_int))))))))
theorem ok__law_first (T : Tx K mg ca) (G__law_power : Fo P w K mg base ca 1 "_law_power" f__law_power) (G__law_meets : Fo P w K mg base ca 3 "_law_meets" f__law_meets) {f : Addr} {fd : FuncData} (F : Fun K "_law_first" "_law_first" s__law_first f fd) : FnOk P w K mg base (L2.CX P w) 4 f fd ["_law_x_here", "_law_many", "_law_least", "_law_most"] (spP K ca f__law_first) :=
  fn_ok F sc__law_first fun cdv A outer s H E F0 R hr c => (s_cons (s_set (i := 4) sc__law_first.nd rfl (.inl rfl) (e_z (z_ix ix_seq sIx (z_var (pv 0)) z_int)))
    (s_cons (s_set (i := 5) sc__law_first.nd rfl (.inl rfl) (e_z (z_ix ix_seq sIx (z_var (pv 0)) z_int)))
    (s_cons (s_while c fuel__law_first1 (t_cmpZ op_lt sLt (z_var (pv 4)) (z_var (pv 5))) (s_cons (s_set (i := 6) sc__law_first.nd rfl (.inl rfl) (e_z (z_op op_fdivW sDiv (z_op op_add sAdd (z_var (pv 4)) (z_var (pv 5))) z_int)))
    (s_one (s_if (t_valE (e_call c G__law_meets hr (by rfl) (a_cons (e_z (z_ix ix_seq sIx (z_var (pv 0)) z_int)) (a_cons (e_var (pv 6)) (a_cons (e_var (pv 1)) (a_cons (e_var (pv 2)) (a_cons (e_var (pv 3)) a_nil))))))) (s_one (s_set (i := 5) sc__law_first.nd rfl (.inl rfl) (e_var (pv 6)))) (s_one (s_set (i := 4) sc__law_first.nd rfl (.inl rfl) (e_z (z_op op_add sAdd (z_var (pv 6)) z_int))))))))
    (s_cons (s_if (t_cmpZ (op_eqD hr.units) sEq (z_var (pv 4)) (z_ix ix_seq sIx (z_var (pv 0)) z_int)) (s_one (s_ret (e_mv (pv 4)))) s_nil)
    (s_cons (s_set (i := 7) sc__law_first.nd rfl (.inl rfl) (e_call c G__law_power hr (by rfl) (a_cons (e_z (z_op op_sub sSub (z_var (pv 4)) z_int)) (a_cons (e_var (pv 1)) a_nil))))
    (s_cons (s_set (i := 8) sc__law_first.nd rfl (.inl rfl) (e_call c G__law_power hr (by rfl) (a_cons (e_var (pv 4)) (a_cons (e_var (pv 1)) a_nil))))
    (s_cons (s_if (PW.pt (t_or (PW.pt (t_and (t_cmpZ op_lt sLt (z_var (pv 7)) (z_var (pv 2))) (t_and1 (t_cmpZ (op_eqD hr.units) sEq (z_var (pv 8)) (z_var (pv 2)))))) (t_or1 (PW.pt (t_and (t_cmpZ op_gt sGt (z_var (pv 7)) (z_var (pv 3))) (t_and1 (t_cmpZ (op_eqD hr.units) sEq (z_var (pv 8)) (z_var (pv 3))))))))) (s_one (s_ret (e_mv (pv 4)))) s_nil)
    (s_one (s_ret (e_z (z_op op_sub sSub (z_var (pv 4)) z_int)))))))))))
theorem ok__law_due (T : Tx K mg ca) (G__law_first : Fo P w K mg base ca 4 "_law_first" f__law_first) (G__law_meets : Fo P w K mg base ca 3 "_law_meets" f__law_meets) {f : Addr} {fd : FuncData} (F : Fun K "_law_due" "_law_due" s__law_due f fd) : FnOk P w K mg base (L2.CX P w) 5 f fd ["_law_z", "_law_x_here", "_law_many", "_law_share"] (spP K ca f__law_due) :=
  fn_ok F sc__law_due fun cdv A outer s H E F0 R hr c => (s_cons (s_set (i := 4) sc__law_due.nd rfl (.inl rfl) (e_z (z_op op_mulW sMul (z_ix ix_seq sIx (z_var (pv 0)) z_int) (z_var (pv 3)))))
    (s_cons (s_set (i := 5) sc__law_due.nd rfl (.inl rfl) (e_z (z_op op_mulW sMul (z_ix ix_seq sIx (z_var (pv 0)) z_int) (z_var (pv 3)))))
    (s_cons (s_if (t_not (t_valE (e_call c G__law_meets hr (by rfl) (a_cons (e_z (z_ix ix_seq sIx (z_var (pv 1)) z_int)) (a_cons (e_z (z_ix ix_seq sIx (z_var (pv 1)) z_int)) (a_cons (e_var (pv 2)) (a_cons (e_var (pv 4)) (a_cons (e_var (pv 5)) a_nil)))))))) (s_one (s_ret (e_z z_non))) s_nil)
    (s_cons (s_set (i := 6) sc__law_due.nd rfl (.inl rfl) (e_call c G__law_first hr (by rfl) (a_cons (e_var (pv 1)) (a_cons (e_var (pv 2)) (a_cons (e_var (pv 4)) (a_cons (e_var (pv 5)) a_nil))))))
    (s_cons (s_if (t_cmpZ (op_eqD hr.units) sEq (z_op op_mod sMod (z_var (pv 2)) z_int) z_int) (s_one (s_set (i := 7) sc__law_due.nd rfl (.inl rfl) (e_call c G__law_first hr (by rfl) (a_cons (e_tup (a_cons (e_z (z_un un_neg sNeg (z_ix ix_seq sIx (z_var (pv 1)) z_int))) (a_cons (e_z (z_un un_neg sNeg (z_ix ix_seq sIx (z_var (pv 1)) z_int))) a_nil))) (a_cons (e_var (pv 2)) (a_cons (e_var (pv 4)) (a_cons (e_var (pv 5)) a_nil))))))) (s_one (s_set (i := 7) sc__law_due.nd rfl (.inl rfl) (e_call c G__law_first hr (by rfl) (a_cons (e_tup (a_cons (e_z (z_un un_neg sNeg (z_ix ix_seq sIx (z_var (pv 1)) z_int))) (a_cons (e_z (z_un un_neg sNeg (z_ix ix_seq sIx (z_var (pv 1)) z_int))) a_nil))) (a_cons (e_var (pv 2)) (a_cons (e_z (z_un un_neg sNeg (z_var (pv 5)))) (a_cons (e_z (z_un un_neg sNeg (z_var (pv 4)))) a_nil))))))))
    (s_one (s_ret (e_tup (a_cons (e_var (pv 6)) (a_cons (e_z (z_un un_neg sNeg (z_var (pv 7)))) a_nil))))))))))
theorem ok__law_whole (T : Tx K mg ca)  {f : Addr} {fd : FuncData} (F : Fun K "_law_whole" "_law_whole" s__law_whole f fd) : FnOk P w K mg base (L2.CX P w) 1 f fd ["_law_found"] (spP K ca f__law_whole) :=
  fn_ok F sc__law_whole fun cdv A outer s H E F0 R hr c => (s_one (s_ret (e_and (e_z (z_callB call_isi sIsi (by rfl) T.isinstance (by decide +kernel) (za_cons (z_var (pv 0)) (za_cons (z_ty (by rfl) T.int_ (by decide +kernel)) za_nil)))) (e_one (e_not (e_z (z_callB call_isi sIsi (by rfl) T.isinstance (by decide +kernel) (za_cons (z_var (pv 0)) (za_cons (z_ty (by rfl) T.bool_ (by decide +kernel)) za_nil)))))))))
theorem ok__law_span (T : Tx K mg ca) (G__law_whole : Fo P w K mg base ca 1 "_law_whole" f__law_whole) {f : Addr} {fd : FuncData} (F : Fun K "_law_span" "_law_span" s__law_span f fd) : FnOk P w K mg base (L2.CX P w) 2 f fd ["_law_found"] (spP K ca f__law_span) :=
  fn_ok F sc__law_span fun cdv A outer s H E F0 R hr c => (s_cons (s_if (PW.pt (t_or (t_not (t_valZ (z_callB call_isi sIsi (by rfl) T.isinstance (by decide +kernel) (za_cons (z_var (pv 0)) (za_cons (z_ty (by rfl) T.tuple_ (by decide +kernel)) za_nil))))) (t_or1 (t_cmpZ (op_neD hr.units) sNe (z_callB call_len sLen (by rfl) T.len_ (by decide +kernel) (za_cons (z_var (pv 0)) za_nil)) z_int)))) (s_one (s_ret (e_z z_bl))) s_nil)
    (s_one (s_ret (e_and (e_call c G__law_whole hr (by rfl) (a_cons (e_z (z_ix ix_seq sIx (z_var (pv 0)) z_int)) a_nil)) (e_and (e_call c G__law_whole hr (by rfl) (a_cons (e_z (z_ix ix_seq sIx (z_var (pv 0)) z_int)) a_nil)) (e_one (e_z (z_cmp op_le sLe (z_ix ix_seq sIx (z_var (pv 0)) z_int) (z_ix ix_seq sIx (z_var (pv 0)) z_int)))))))))
theorem ok_law (T : Tx K mg ca) (G__law_cell_at : Fo P w K mg base ca 1 "_law_cell_at" f__law_cell_at) (G__law_x : Fo P w K mg base ca 2 "_law_x" f__law_x) (G__law_power : Fo P w K mg base ca 1 "_law_power" f__law_power) (G_back_power : Fo P w K mg base ca 4 "back_power" f_back_power) (G__law_due : Fo P w K mg base ca 5 "_law_due" f__law_due) (G__law_span : Fo P w K mg base ca 2 "_law_span" f__law_span) {f : Addr} {fd : FuncData} (F : Fun K "law" "law" s_law f fd) : FnOk P w K mg base (L2.CX P w) 6 f fd ["_law_script"] (spP K ca f_law) :=
  fn_ok F sc_law fun cdv A outer s H E F0 R hr c => (s_cons (s_set (i := 1) sc_law.nd rfl (.inl rfl) (e_call c G__law_cell_at hr (by rfl) (a_cons (e_var (pv 0)) (a_cons (e_z z_int) a_nil))))
    (s_cons (s_set (i := 2) sc_law.nd rfl (.inl rfl) (e_op op_add sAdd (e_z z_int) (e_op op_mod sMod (e_op op_fdivW sDiv (e_call c G__law_cell_at hr (by rfl) (a_cons (e_var (pv 0)) (a_cons (e_z z_int) a_nil))) (e_z z_int)) (e_z z_int))))
    (s_cons (s_if (t_cmpE (op_eqD hr.units) sEq (e_op op_mod sMod (e_call c G__law_cell_at hr (by rfl) (a_cons (e_var (pv 0)) (a_cons (e_z z_int) a_nil))) (e_z z_int)) (e_z z_int)) (s_one (s_set (i := 2) sc_law.nd rfl (.inl rfl) (e_op op_add sAdd (e_z z_int) (e_op op_mod sMod (e_op op_fdivW sDiv (e_call c G__law_cell_at hr (by rfl) (a_cons (e_var (pv 0)) (a_cons (e_z z_int) a_nil))) (e_z z_int)) (e_z z_int))))) s_nil)
    (s_cons (s_set (i := 3) sc_law.nd rfl (.inl rfl) (e_call c G__law_x hr (by rfl) (a_cons (e_var (pv 0)) (a_cons (e_var (pv 1)) a_nil))))
    (s_cons (s_set (i := 4) sc_law.nd rfl (.inl rfl) (e_op op_add sAdd (e_z z_int) (e_op op_mod sMod (e_call c G__law_cell_at hr (by rfl) (a_cons (e_var (pv 0)) (a_cons (e_z z_int) a_nil))) (e_z z_int))))
    (s_cons (s_set (i := 5) sc_law.nd rfl (.inl rfl) (e_call c G__law_power hr (by rfl) (a_cons (e_var (pv 2)) (a_cons (e_z (z_op op_sub sSub (z_var (pv 4)) z_int)) a_nil))))
    (s_cons (s_set (i := 6) sc_law.nd rfl (.inl rfl) (e_op op_add sAdd (e_z (z_ix ix_seq sIx (z_var (pv 3)) z_int)) (e_op op_mod sMod (e_call c G__law_cell_at hr (by rfl) (a_cons (e_var (pv 0)) (a_cons (e_z z_int) a_nil))) (e_z (z_op op_add sAdd (z_op op_sub sSub (z_ix ix_seq sIx (z_var (pv 3)) z_int) (z_ix ix_seq sIx (z_var (pv 3)) z_int)) z_int)))))
    (s_cons (s_set (i := 7) sc_law.nd rfl (.inl rfl) (e_op op_add sAdd (e_z (z_ix ix_seq sIx (z_var (pv 3)) z_int)) (e_op op_mod sMod (e_call c G__law_cell_at hr (by rfl) (a_cons (e_var (pv 0)) (a_cons (e_z z_int) a_nil))) (e_z (z_op op_add sAdd (z_op op_sub sSub (z_ix ix_seq sIx (z_var (pv 3)) z_int) (z_ix ix_seq sIx (z_var (pv 3)) z_int)) z_int)))))
    (s_cons (s_set (i := 8) sc_law.nd rfl (.inl rfl) (e_lst (a_cons (e_op op_fdivW sDiv (e_call c G__law_power hr (by rfl) (a_cons (e_var (pv 6)) (a_cons (e_var (pv 4)) a_nil))) (e_var (pv 5))) (a_cons (e_op op_fdivW sDiv (e_call c G__law_power hr (by rfl) (a_cons (e_var (pv 7)) (a_cons (e_var (pv 4)) a_nil))) (e_var (pv 5))) a_nil))))
    (s_cons (s_set (i := 9) sc_law.nd rfl (.inl rfl) (e_tup (a_cons (e_op op_sub sSub (e_z (z_callB (cr_min c.calm) sMinL (by rfl) T.min_ (by decide +kernel) (za_cons (z_var (pv 8)) za_nil))) (e_op op_mod sMod (e_call c G__law_cell_at hr (by rfl) (a_cons (e_var (pv 0)) (a_cons (e_z z_int) a_nil))) (e_z z_int))) (a_cons (e_op op_add sAdd (e_z (z_callB (cr_max c.calm) sMaxL (by rfl) T.max_ (by decide +kernel) (za_cons (z_var (pv 8)) za_nil))) (e_op op_mod sMod (e_call c G__law_cell_at hr (by rfl) (a_cons (e_var (pv 0)) (a_cons (e_z z_int) a_nil))) (e_z z_int))) a_nil))))
    (s_cons (s_set (i := 10) sc_law.nd rfl (.inl rfl) (e_and (e_z (z_cmp op_gt sGt (z_op op_mod sMod (z_op op_fdivW sDiv (z_var (pv 1)) z_int) z_int) z_int)) (e_one (e_cmp op_gt sGt (e_op op_mod sMod (e_call c G__law_cell_at hr (by rfl) (a_cons (e_var (pv 0)) (a_cons (e_z z_int) a_nil))) (e_z z_int)) (e_z z_int)))))
    (s_cons (s_if (t_cmpZ (op_eqD hr.units) sEq (z_op op_mod sMod (z_op op_fdivW sDiv (z_var (pv 1)) z_int) z_int) z_int) (s_cons (s_set (i := 11) sc_law.nd rfl (.inl rfl) (e_op op_sub sSub (e_op op_mod sMod (e_call c G__law_cell_at hr (by rfl) (a_cons (e_var (pv 0)) (a_cons (e_z z_int) a_nil))) (e_z (z_op op_mulW sMul z_int (z_op op_pow sPow z_int z_int)))) (e_z (z_op op_pow sPow z_int z_int))))
    (s_cons (s_if (t_cmpZ (op_eqD hr.units) sEq (z_op op_mod sMod (z_var (pv 1)) z_int) z_int) (s_one (s_set (i := 11) sc_law.nd rfl (.inl rfl) (e_op op_sub sSub (e_op op_mod sMod (e_call c G__law_cell_at hr (by rfl) (a_cons (e_var (pv 0)) (a_cons (e_z z_int) a_nil))) (e_z z_int)) (e_z z_int)))) s_nil)
    (s_one (s_set (i := 9) sc_law.nd rfl (.inl rfl) (e_tup (a_cons (e_var (pv 11)) (a_cons (e_op op_add sAdd (e_var (pv 11)) (e_op op_fdivW sDiv (e_op op_mod sMod (e_call c G__law_cell_at hr (by rfl) (a_cons (e_var (pv 0)) (a_cons (e_z z_int) a_nil))) (e_z (z_op op_pow sPow z_int z_int))) (e_op op_add sAdd (e_z z_int) (e_op op_mod sMod (e_call c G__law_cell_at hr (by rfl) (a_cons (e_var (pv 0)) (a_cons (e_z z_int) a_nil))) (e_z (z_op op_pow sPow z_int z_int)))))) a_nil))))))) s_nil)
    (s_cons (s_set (i := 12) sc_law.nd rfl (.inl rfl) (e_call c G_back_power hr (by rfl) (a_cons (e_var (pv 9)) (a_cons (e_var (pv 3)) (a_cons (e_var (pv 4)) (a_cons (e_var (pv 2)) a_nil))))))
    (s_cons (s_set (i := 13) sc_law.nd rfl (.inl rfl) (e_call c G__law_due hr (by rfl) (a_cons (e_var (pv 9)) (a_cons (e_var (pv 3)) (a_cons (e_var (pv 4)) (a_cons (e_var (pv 5)) a_nil))))))
    (s_cons (s_if (t_cmpZ op_isN sIsN (z_var (pv 13)) z_non) (s_one (s_ret (e_and (e_z (z_cmp op_isN sIsN (z_var (pv 12)) z_non)) (e_one (e_not (e_var (pv 10))))))) s_nil)
    (s_cons (s_if (PW.pt (t_or (t_not (t_valE (e_call c G__law_span hr (by rfl) (a_cons (e_var (pv 12)) a_nil)))) (t_or1 (t_cmpZ (op_neD hr.units) sNe (z_var (pv 12)) (z_var (pv 13)))))) (s_one (s_ret (e_z z_bl))) s_nil)
    (s_one (s_ret (e_or (e_not (e_var (pv 10))) (e_one (e_and (e_z (z_cmp op_le sLe (z_ix ix_seq sIx (z_var (pv 12)) z_int) (z_callB (call_min2 c.calm) sMin2 (by rfl) T.min_ (by decide +kernel) (za_cons (z_var (pv 6)) (za_cons (z_var (pv 7)) za_nil))))) (e_one (e_z (z_cmp op_le sLe (z_callB (call_max2 c.calm) sMax2 (by rfl) T.max_ (by decide +kernel) (za_cons (z_var (pv 6)) (za_cons (z_var (pv 7)) za_nil))) (z_ix ix_seq sIx (z_var (pv 12)) z_int)))))))))))))))))))))))))
theorem repL_ints {K : PySem.W.Frag} {ca : Str → Addr} {F : Hp} : ∀ ns : List Int, RepL K ca F (ns.map D.int) (ns.map V.int)
  | [] => rfl
  | i :: r => ⟨.int i, r.map V.int, rfl, rfl, repL_ints r⟩
theorem cx_none {P : Program} {w : World} {H : Hp} {s : Shared} {e : Value} {s' : Shared} (h : L2.CX P w [] H s (fun _ _ _ => False) e s') : False := by
  obtain ⟨_, _, _, _, _, _, _, _, _, _, _, _, z⟩ := h
  exact z
def spL (K : PySem.W.Frag) : Sp := fun vs H Q _ => ∃ (a : Addr) (ns : List Int), vs = [.ref a] ∧ ns.length ≤ 63 ∧ SqL K H a (ns.map V.int) ∧ ∀ H', Q (.bl true) H'
theorem sp_law {K : PySem.W.Frag} {ca : Str → Addr} (hl : ∀ ns : List Int, ns.length ≤ 63 → f_law [.cst (ns.map D.int)] = .ok (.bl true)) (vs : List V) (H : Hp) (Q : VK) (E : XK) (h : spL K vs H Q E) : spP K ca f_law vs H Q E := by
  obtain ⟨a, ns, rfl, hn, hS, q⟩ := h
  refine ⟨H, [.cst (ns.map D.int)], Same.refl _, ⟨.ref a, [], rfl, ⟨a, _, rfl, hS, repL_ints ns⟩, rfl⟩, ?_⟩
  rw [hl ns hn]
  intro v F' H' f _ _ _ hv _ _ _
  cases (show v = .bl true from hv.1)
  exact q H'

theorem all_mk {l : PySem.W.OpenLaw} {w : World} {K : PySem.W.Frag} {h : Heap} {mg : Str → Option Value} {fa f0 f1 f2 f3 f4 f5 f6 f7 f8 f9 f10 f11 f12 f13 f14 f15 f16 : Addr} (X : K.In h) (G : h.Ns mainGlobals mg) (hfa : mg "law" = some (.ref fa))
    {od0 an0 : Option Addr} {sl0 : Array (Option Value)} {oc0 kV0 dc0 pm0 cd0 ct0 : Value} (a0 : PySem.W.nsIn K mainGlobals "_law_cell_at" = some (some (.ref f0))) (l0 : K.lookup f0 = some ⟨oc0, od0, .func (PySem.W.fnOf "_law_cell_at" "_law_cell_at" (defArgs s__law_cell_at) (defBody s__law_cell_at) (defScope s__law_cell_at) .none kV0 dc0 pm0 an0 cd0 ct0), sl0⟩) (c0 : PySem.W.codeIn K cd0 "_law_cell_at" = true) (k0 : PySem.W.keepIn K (.ref f0) = true)
    {od1 an1 : Option Addr} {sl1 : Array (Option Value)} {oc1 kV1 dc1 pm1 cd1 ct1 : Value} (a1 : PySem.W.nsIn K mainGlobals "_law_x" = some (some (.ref f1))) (l1 : K.lookup f1 = some ⟨oc1, od1, .func (PySem.W.fnOf "_law_x" "_law_x" (defArgs s__law_x) (defBody s__law_x) (defScope s__law_x) .none kV1 dc1 pm1 an1 cd1 ct1), sl1⟩) (c1 : PySem.W.codeIn K cd1 "_law_x" = true) (k1 : PySem.W.keepIn K (.ref f1) = true)
    {od2 an2 : Option Addr} {sl2 : Array (Option Value)} {oc2 kV2 dc2 pm2 cd2 ct2 : Value} (a2 : PySem.W.nsIn K mainGlobals "_law_power" = some (some (.ref f2))) (l2 : K.lookup f2 = some ⟨oc2, od2, .func (PySem.W.fnOf "_law_power" "_law_power" (defArgs s__law_power) (defBody s__law_power) (defScope s__law_power) .none kV2 dc2 pm2 an2 cd2 ct2), sl2⟩) (c2 : PySem.W.codeIn K cd2 "_law_power" = true) (k2 : PySem.W.keepIn K (.ref f2) = true)
    {od3 an3 : Option Addr} {sl3 : Array (Option Value)} {oc3 kV3 dc3 pm3 cd3 ct3 : Value} (a3 : PySem.W.nsIn K mainGlobals "multiplied" = some (some (.ref f3))) (l3 : K.lookup f3 = some ⟨oc3, od3, .func (PySem.W.fnOf "multiplied" "multiplied" (defArgs s_multiplied) (defBody s_multiplied) (defScope s_multiplied) .none kV3 dc3 pm3 an3 cd3 ct3), sl3⟩) (c3 : PySem.W.codeIn K cd3 "multiplied" = true) (k3 : PySem.W.keepIn K (.ref f3) = true)
    {od4 an4 : Option Addr} {sl4 : Array (Option Value)} {oc4 kV4 dc4 pm4 cd4 ct4 : Value} (a4 : PySem.W.nsIn K mainGlobals "root_below" = some (some (.ref f4))) (l4 : K.lookup f4 = some ⟨oc4, od4, .func (PySem.W.fnOf "root_below" "root_below" (defArgs s_root_below) (defBody s_root_below) (defScope s_root_below) .none kV4 dc4 pm4 an4 cd4 ct4), sl4⟩) (c4 : PySem.W.codeIn K cd4 "root_below" = true) (k4 : PySem.W.keepIn K (.ref f4) = true)
    {od5 an5 : Option Addr} {sl5 : Array (Option Value)} {oc5 kV5 dc5 pm5 cd5 ct5 : Value} (a5 : PySem.W.nsIn K mainGlobals "root_above" = some (some (.ref f5))) (l5 : K.lookup f5 = some ⟨oc5, od5, .func (PySem.W.fnOf "root_above" "root_above" (defArgs s_root_above) (defBody s_root_above) (defScope s_root_above) .none kV5 dc5 pm5 an5 cd5 ct5), sl5⟩) (c5 : PySem.W.codeIn K cd5 "root_above" = true) (k5 : PySem.W.keepIn K (.ref f5) = true)
    {od6 an6 : Option Addr} {sl6 : Array (Option Value)} {oc6 kV6 dc6 pm6 cd6 ct6 : Value} (a6 : PySem.W.nsIn K mainGlobals "rising" = some (some (.ref f6))) (l6 : K.lookup f6 = some ⟨oc6, od6, .func (PySem.W.fnOf "rising" "rising" (defArgs s_rising) (defBody s_rising) (defScope s_rising) .none kV6 dc6 pm6 an6 cd6 ct6), sl6⟩) (c6 : PySem.W.codeIn K cd6 "rising" = true) (k6 : PySem.W.keepIn K (.ref f6) = true)
    {od7 an7 : Option Addr} {sl7 : Array (Option Value)} {oc7 kV7 dc7 pm7 cd7 ct7 : Value} (a7 : PySem.W.nsIn K mainGlobals "hull" = some (some (.ref f7))) (l7 : K.lookup f7 = some ⟨oc7, od7, .func (PySem.W.fnOf "hull" "hull" (defArgs s_hull) (defBody s_hull) (defScope s_hull) .none kV7 dc7 pm7 an7 cd7 ct7), sl7⟩) (c7 : PySem.W.codeIn K cd7 "hull" = true) (k7 : PySem.W.keepIn K (.ref f7) = true)
    {od8 an8 : Option Addr} {sl8 : Array (Option Value)} {oc8 kV8 dc8 pm8 cd8 ct8 : Value} (a8 : PySem.W.nsIn K mainGlobals "both" = some (some (.ref f8))) (l8 : K.lookup f8 = some ⟨oc8, od8, .func (PySem.W.fnOf "both" "both" (defArgs s_both) (defBody s_both) (defScope s_both) .none kV8 dc8 pm8 an8 cd8 ct8), sl8⟩) (c8 : PySem.W.codeIn K cd8 "both" = true) (k8 : PySem.W.keepIn K (.ref f8) = true)
    {od9 an9 : Option Addr} {sl9 : Array (Option Value)} {oc9 kV9 dc9 pm9 cd9 ct9 : Value} (a9 : PySem.W.nsIn K mainGlobals "back_power" = some (some (.ref f9))) (l9 : K.lookup f9 = some ⟨oc9, od9, .func (PySem.W.fnOf "back_power" "back_power" (defArgs s_back_power) (defBody s_back_power) (defScope s_back_power) .none kV9 dc9 pm9 an9 cd9 ct9), sl9⟩) (c9 : PySem.W.codeIn K cd9 "back_power" = true) (k9 : PySem.W.keepIn K (.ref f9) = true)
    {od10 an10 : Option Addr} {sl10 : Array (Option Value)} {oc10 kV10 dc10 pm10 cd10 ct10 : Value} (a10 : PySem.W.nsIn K mainGlobals "_law_range" = some (some (.ref f10))) (l10 : K.lookup f10 = some ⟨oc10, od10, .func (PySem.W.fnOf "_law_range" "_law_range" (defArgs s__law_range) (defBody s__law_range) (defScope s__law_range) .none kV10 dc10 pm10 an10 cd10 ct10), sl10⟩) (c10 : PySem.W.codeIn K cd10 "_law_range" = true) (k10 : PySem.W.keepIn K (.ref f10) = true)
    {od11 an11 : Option Addr} {sl11 : Array (Option Value)} {oc11 kV11 dc11 pm11 cd11 ct11 : Value} (a11 : PySem.W.nsIn K mainGlobals "_law_meets" = some (some (.ref f11))) (l11 : K.lookup f11 = some ⟨oc11, od11, .func (PySem.W.fnOf "_law_meets" "_law_meets" (defArgs s__law_meets) (defBody s__law_meets) (defScope s__law_meets) .none kV11 dc11 pm11 an11 cd11 ct11), sl11⟩) (c11 : PySem.W.codeIn K cd11 "_law_meets" = true) (k11 : PySem.W.keepIn K (.ref f11) = true)
    {od12 an12 : Option Addr} {sl12 : Array (Option Value)} {oc12 kV12 dc12 pm12 cd12 ct12 : Value} (a12 : PySem.W.nsIn K mainGlobals "_law_first" = some (some (.ref f12))) (l12 : K.lookup f12 = some ⟨oc12, od12, .func (PySem.W.fnOf "_law_first" "_law_first" (defArgs s__law_first) (defBody s__law_first) (defScope s__law_first) .none kV12 dc12 pm12 an12 cd12 ct12), sl12⟩) (c12 : PySem.W.codeIn K cd12 "_law_first" = true) (k12 : PySem.W.keepIn K (.ref f12) = true)
    {od13 an13 : Option Addr} {sl13 : Array (Option Value)} {oc13 kV13 dc13 pm13 cd13 ct13 : Value} (a13 : PySem.W.nsIn K mainGlobals "_law_due" = some (some (.ref f13))) (l13 : K.lookup f13 = some ⟨oc13, od13, .func (PySem.W.fnOf "_law_due" "_law_due" (defArgs s__law_due) (defBody s__law_due) (defScope s__law_due) .none kV13 dc13 pm13 an13 cd13 ct13), sl13⟩) (c13 : PySem.W.codeIn K cd13 "_law_due" = true) (k13 : PySem.W.keepIn K (.ref f13) = true)
    {od14 an14 : Option Addr} {sl14 : Array (Option Value)} {oc14 kV14 dc14 pm14 cd14 ct14 : Value} (a14 : PySem.W.nsIn K mainGlobals "_law_whole" = some (some (.ref f14))) (l14 : K.lookup f14 = some ⟨oc14, od14, .func (PySem.W.fnOf "_law_whole" "_law_whole" (defArgs s__law_whole) (defBody s__law_whole) (defScope s__law_whole) .none kV14 dc14 pm14 an14 cd14 ct14), sl14⟩) (c14 : PySem.W.codeIn K cd14 "_law_whole" = true) (k14 : PySem.W.keepIn K (.ref f14) = true)
    {od15 an15 : Option Addr} {sl15 : Array (Option Value)} {oc15 kV15 dc15 pm15 cd15 ct15 : Value} (a15 : PySem.W.nsIn K mainGlobals "_law_span" = some (some (.ref f15))) (l15 : K.lookup f15 = some ⟨oc15, od15, .func (PySem.W.fnOf "_law_span" "_law_span" (defArgs s__law_span) (defBody s__law_span) (defScope s__law_span) .none kV15 dc15 pm15 an15 cd15 ct15), sl15⟩) (c15 : PySem.W.codeIn K cd15 "_law_span" = true) (k15 : PySem.W.keepIn K (.ref f15) = true)
    {od16 an16 : Option Addr} {sl16 : Array (Option Value)} {oc16 kV16 dc16 pm16 cd16 ct16 : Value} (a16 : PySem.W.nsIn K mainGlobals "law" = some (some (.ref f16))) (l16 : K.lookup f16 = some ⟨oc16, od16, .func (PySem.W.fnOf "law" "law" (defArgs s_law) (defBody s_law) (defScope s_law) .none kV16 dc16 pm16 an16 cd16 ct16), sl16⟩) (c16 : PySem.W.codeIn K cd16 "law" = true) (k16 : PySem.W.keepIn K (.ref f16) = true)
    (z_bool_ : PySem.W.nsIn K mainGlobals "bool" = some none)
    (z_int_ : PySem.W.nsIn K mainGlobals "int" = some none)
    (z_isinstance : PySem.W.nsIn K mainGlobals "isinstance" = some none)
    (z_len_ : PySem.W.nsIn K mainGlobals "len" = some none)
    (z_max_ : PySem.W.nsIn K mainGlobals "max" = some none)
    (z_min_ : PySem.W.nsIn K mainGlobals "min" = some none)
    (z_range : PySem.W.nsIn K mainGlobals "range" = some none)
    (z_tuple_ : PySem.W.nsIn K mainGlobals "tuple" = some none)
    : ∃ fd : FuncData, (∀ (s : Shared) (v : Value), BindsTo s fd ⟨[v], []⟩ [("_law_script", v)]) ∧ ∀ base : Heap, K.In base → base.Ns mainGlobals mg → FnOk l.prog w K mg base (L2.CX l.prog w) 6 fa fd ["_law_script"] (spL K) := by
  have e := hfa.symm.trans (PySem.W.mg_of X G a16)
  cases e
  have F0 := fun_mk (st := s__law_cell_at) l0 c0 k0
  have b0 := F0.binds (ps := ["_law_script", "_law_k"]) fun _ _ _ _ _ _ us hl => match us, hl with | [_, _], _ => rfl
  have F1 := fun_mk (st := s__law_x) l1 c1 k1
  have b1 := F1.binds (ps := ["_law_script", "_law_kind"]) fun _ _ _ _ _ _ us hl => match us, hl with | [_, _], _ => rfl
  have F2 := fun_mk (st := s__law_power) l2 c2 k2
  have b2 := F2.binds (ps := ["_law_a", "_law_many"]) fun _ _ _ _ _ _ us hl => match us, hl with | [_, _], _ => rfl
  have F3 := fun_mk (st := s_multiplied) l3 c3 k3
  have b3 := F3.binds (ps := ["a", "many"]) fun _ _ _ _ _ _ us hl => match us, hl with | [_, _], _ => rfl
  have F4 := fun_mk (st := s_root_below) l4 c4 k4
  have b4 := F4.binds (ps := ["low", "high", "many", "bound"]) fun _ _ _ _ _ _ us hl => match us, hl with | [_, _, _, _], _ => rfl
  have F5 := fun_mk (st := s_root_above) l5 c5 k5
  have b5 := F5.binds (ps := ["low", "high", "many", "bound"]) fun _ _ _ _ _ _ us hl => match us, hl with | [_, _, _, _], _ => rfl
  have F6 := fun_mk (st := s_rising) l6 c6 k6
  have b6 := F6.binds (ps := ["x", "many", "low", "high"]) fun _ _ _ _ _ _ us hl => match us, hl with | [_, _, _, _], _ => rfl
  have F7 := fun_mk (st := s_hull) l7 c7 k7
  have b7 := F7.binds (ps := ["a", "b"]) fun _ _ _ _ _ _ us hl => match us, hl with | [_, _], _ => rfl
  have F8 := fun_mk (st := s_both) l8 c8 k8
  have b8 := F8.binds (ps := ["a", "b"]) fun _ _ _ _ _ _ us hl => match us, hl with | [_, _], _ => rfl
  have F9 := fun_mk (st := s_back_power) l9 c9 k9
  have b9 := F9.binds (ps := ["z", "x", "many", "grid"]) fun _ _ _ _ _ _ us hl => match us, hl with | [_, _, _, _], _ => rfl
  have F10 := fun_mk (st := s__law_range) l10 c10 k10
  have b10 := F10.binds (ps := ["_law_low", "_law_high", "_law_many"]) fun _ _ _ _ _ _ us hl => match us, hl with | [_, _, _], _ => rfl
  have F11 := fun_mk (st := s__law_meets) l11 c11 k11
  have b11 := F11.binds (ps := ["_law_low", "_law_high", "_law_many", "_law_least", "_law_most"]) fun _ _ _ _ _ _ us hl => match us, hl with | [_, _, _, _, _], _ => rfl
  have F12 := fun_mk (st := s__law_first) l12 c12 k12
  have b12 := F12.binds (ps := ["_law_x_here", "_law_many", "_law_least", "_law_most"]) fun _ _ _ _ _ _ us hl => match us, hl with | [_, _, _, _], _ => rfl
  have F13 := fun_mk (st := s__law_due) l13 c13 k13
  have b13 := F13.binds (ps := ["_law_z", "_law_x_here", "_law_many", "_law_share"]) fun _ _ _ _ _ _ us hl => match us, hl with | [_, _, _, _], _ => rfl
  have F14 := fun_mk (st := s__law_whole) l14 c14 k14
  have b14 := F14.binds (ps := ["_law_found"]) fun _ _ _ _ _ _ us hl => match us, hl with | [_], _ => rfl
  have F15 := fun_mk (st := s__law_span) l15 c15 k15
  have b15 := F15.binds (ps := ["_law_found"]) fun _ _ _ _ _ _ us hl => match us, hl with | [_], _ => rfl
  have F16 := fun_mk (st := s_law) l16 c16 k16
  have b16 := F16.binds (ps := ["_law_script"]) fun _ _ _ _ _ _ us hl => match us, hl with | [_], _ => rfl
  have T : Tx K mg (fun _ => 0) := { bool_ := PySem.W.mg_none_of X G z_bool_, int_ := PySem.W.mg_none_of X G z_int_, isinstance := PySem.W.mg_none_of X G z_isinstance, len_ := PySem.W.mg_none_of X G z_len_, max_ := PySem.W.mg_none_of X G z_max_, min_ := PySem.W.mg_none_of X G z_min_, range := PySem.W.mg_none_of X G z_range, tuple_ := PySem.W.mg_none_of X G z_tuple_ }
  refine ⟨PySem.W.fnOf "law" "law" (defArgs s_law) (defBody s_law) (defScope s_law) .none kV16 dc16 pm16 an16 cd16 ct16, fun s v => .of_eq rfl, fun base _ _ => ?_⟩
  have G__law_cell_at : Fo l.prog w K mg base (fun _ => 0) 1 "_law_cell_at" f__law_cell_at := fo_of F0 (PySem.W.mg_of X G a0) b0 (ok__law_cell_at T  F0)
  have G__law_x : Fo l.prog w K mg base (fun _ => 0) 2 "_law_x" f__law_x := fo_of F1 (PySem.W.mg_of X G a1) b1 (ok__law_x T G__law_cell_at F1)
  have G__law_power : Fo l.prog w K mg base (fun _ => 0) 1 "_law_power" f__law_power := fo_of F2 (PySem.W.mg_of X G a2) b2 (ok__law_power T  F2)
  have G_multiplied : Fo l.prog w K mg base (fun _ => 0) 1 "multiplied" f_multiplied := fo_of F3 (PySem.W.mg_of X G a3) b3 (ok_multiplied T  F3)
  have G_root_below : Fo l.prog w K mg base (fun _ => 0) 2 "root_below" f_root_below := fo_of F4 (PySem.W.mg_of X G a4) b4 (ok_root_below T G_multiplied F4)
  have G_root_above : Fo l.prog w K mg base (fun _ => 0) 2 "root_above" f_root_above := fo_of F5 (PySem.W.mg_of X G a5) b5 (ok_root_above T G_multiplied F5)
  have G_rising : Fo l.prog w K mg base (fun _ => 0) 3 "rising" f_rising := fo_of F6 (PySem.W.mg_of X G a6) b6 (ok_rising T G_multiplied G_root_below G_root_above F6)
  have G_hull : Fo l.prog w K mg base (fun _ => 0) 1 "hull" f_hull := fo_of F7 (PySem.W.mg_of X G a7) b7 (ok_hull T  F7)
  have G_both : Fo l.prog w K mg base (fun _ => 0) 2 "both" f_both := fo_of F8 (PySem.W.mg_of X G a8) b8 (ok_both T G_hull F8)
  have G_back_power : Fo l.prog w K mg base (fun _ => 0) 4 "back_power" f_back_power := fo_of F9 (PySem.W.mg_of X G a9) b9 (ok_back_power T G_multiplied G_rising G_both F9)
  have G__law_range : Fo l.prog w K mg base (fun _ => 0) 2 "_law_range" f__law_range := fo_of F10 (PySem.W.mg_of X G a10) b10 (ok__law_range T G__law_power F10)
  have G__law_meets : Fo l.prog w K mg base (fun _ => 0) 3 "_law_meets" f__law_meets := fo_of F11 (PySem.W.mg_of X G a11) b11 (ok__law_meets T G__law_range F11)
  have G__law_first : Fo l.prog w K mg base (fun _ => 0) 4 "_law_first" f__law_first := fo_of F12 (PySem.W.mg_of X G a12) b12 (ok__law_first T G__law_power G__law_meets F12)
  have G__law_due : Fo l.prog w K mg base (fun _ => 0) 5 "_law_due" f__law_due := fo_of F13 (PySem.W.mg_of X G a13) b13 (ok__law_due T G__law_first G__law_meets F13)
  have G__law_whole : Fo l.prog w K mg base (fun _ => 0) 1 "_law_whole" f__law_whole := fo_of F14 (PySem.W.mg_of X G a14) b14 (ok__law_whole T  F14)
  have G__law_span : Fo l.prog w K mg base (fun _ => 0) 2 "_law_span" f__law_span := fo_of F15 (PySem.W.mg_of X G a15) b15 (ok__law_span T G__law_whole F15)
  exact (ok_law T G__law_cell_at G__law_x G__law_power G_back_power G__law_due G__law_span F16).imp fun vs H Q E hs => sp_law law_true vs H Q E hs
end
end Lw
open PySem PySem.W PyProof.Rows
set_option maxHeartbeats 0 in
theorem PySem.Challenge.cw_boxnarrow_k09_back_through_powers_holds : PySem.Challenge.rw_boxnarrow_k09_back_through_powers.Holds := by
  w_on; o_law; k_head; (case hw => w_witness2)
  k_fill
  refine L2.walk_of (l := PySem.Challenge.rw_boxnarrow_k09_back_through_powers) (n := 63) (k := 6) (x := "_law_script") (CX := fun w => L2.CX PySem.Challenge.rw_boxnarrow_k09_back_through_powers.prog w) (sp := fun w => Lw.spL _) rfl (by decide) rfl ⟨rfl, by decide, by decide⟩ (fun w h Y => PySem.W.kIn_of Y) ?F (fun _ H a ns hl _ hS => ⟨a, ns, rfl, hl, hS, fun _ => rfl⟩) (fun _ _ _ _ _ h => Lw.cx_none h)
  case F =>
    intro w mg fa h KX G hmg
    refine' Lw.all_mk KX G hmg ?a0 ?l0 ?c0 ?k0 ?a1 ?l1 ?c1 ?k1 ?a2 ?l2 ?c2 ?k2 ?a3 ?l3 ?c3 ?k3 ?a4 ?l4 ?c4 ?k4 ?a5 ?l5 ?c5 ?k5 ?a6 ?l6 ?c6 ?k6 ?a7 ?l7 ?c7 ?k7 ?a8 ?l8 ?c8 ?k8 ?a9 ?l9 ?c9 ?k9 ?a10 ?l10 ?c10 ?k10 ?a11 ?l11 ?c11 ?k11 ?a12 ?l12 ?c12 ?k12 ?a13 ?l13 ?c13 ?k13 ?a14 ?l14 ?c14 ?k14 ?a15 ?l15 ?c15 ?k15 ?a16 ?l16 ?c16 ?k16 ?z_bool_ ?z_int_ ?z_isinstance ?z_len_ ?z_max_ ?z_min_ ?z_range ?z_tuple_
    (case a0 => k_is); (case l0 => k_is); (case c0 => k_is); (case k0 => k_is); (case a1 => k_is); (case l1 => k_is); (case c1 => k_is); (case k1 => k_is); (case a2 => k_is); (case l2 => k_is); (case c2 => k_is); (case k2 => k_is); (case a3 => k_is); (case l3 => k_is); (case c3 => k_is); (case k3 => k_is); (case a4 => k_is); (case l4 => k_is); (case c4 => k_is); (case k4 => k_is); (case a5 => k_is); (case l5 => k_is); (case c5 => k_is); (case k5 => k_is); (case a6 => k_is); (case l6 => k_is); (case c6 => k_is); (case k6 => k_is); (case a7 => k_is); (case l7 => k_is); (case c7 => k_is); (case k7 => k_is); (case a8 => k_is); (case l8 => k_is); (case c8 => k_is); (case k8 => k_is); (case a9 => k_is); (case l9 => k_is); (case c9 => k_is); (case k9 => k_is); (case a10 => k_is); (case l10 => k_is); (case c10 => k_is); (case k10 => k_is); (case a11 => k_is); (case l11 => k_is); (case c11 => k_is); (case k11 => k_is); (case a12 => k_is); (case l12 => k_is); (case c12 => k_is); (case k12 => k_is); (case a13 => k_is); (case l13 => k_is); (case c13 => k_is); (case k13 => k_is); (case a14 => k_is); (case l14 => k_is); (case c14 => k_is); (case k14 => k_is); (case a15 => k_is); (case l15 => k_is); (case c15 => k_is); (case k15 => k_is); (case a16 => k_is); (case l16 => k_is); (case c16 => k_is); (case k16 => k_is); (case z_bool_ => k_is); (case z_int_ => k_is); (case z_isinstance => k_is); (case z_len_ => k_is); (case z_max_ => k_is); (case z_min_ => k_is); (case z_range => k_is); (case z_tuple_ => k_is)
