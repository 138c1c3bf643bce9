import PyProof.Rows.All
import Wide.All
import OpenK.AllK
import Wide.FinOn
import HandS.ForExc
import HandS.ForMost
import HandS.Wide
import HandS.IsInst
import HandS.ExcIs
import HandS.Deep
import PySem.Challenge.RW_boxnarrow_k31_back_of_sums
set_option Elab.async false
set_option linter.all false
set_option maxRecDepth 100000
/-! Values as trees; who owns what. -/
namespace Bn
open PySem PySem.Spec PyProof.Rows L2

inductive D where
  | non | bl (b : Bool) | int (i : Int) | str (s : Str) | ty (n : String)
  | tup (xs : List D)
  | lst (m : Bool) (xs : List D)
  | cst (xs : List D)
  | obj (m : Bool) (c : Str) (ns : List Str) (xs : List D)
  deriving Inhabited
abbrev Env := List (Option D)
abbrev Ct := Addr → Nat

def isFz : D → Bool
  | .lst true _ => false
  | .obj true _ _ _ => false
  | _ => true

mutual
def freeze : D → D
  | .lst true xs => .lst false (freezeL xs)
  | .lst false xs => .lst false xs
  | .obj true c ns xs => .obj false c ns (freezeL xs)
  | .obj false c ns xs => .obj false c ns xs
  | .non => .non | .bl b => .bl b | .int i => .int i | .str s => .str s | .ty n => .ty n | .tup xs => .tup xs | .cst xs => .cst xs
def freezeL : List D → List D
  | [] => []
  | x :: xs => freeze x :: freezeL xs
end

section
variable (K : PySem.W.Frag) (ca : Str → Addr)
mutual
/-- d stands at v, in the part F of the heap that never changes -/
def Rep (F : Hp) : D → V → Prop
  | .non, v => v = .non
  | .bl b, v => v = .bl b
  | .int i, v => v = .int i
  | .str s, v => v = .str s
  | .ty n, v => v = .ty n
  | .tup ds, v => ∃ a vs, v = .ref a ∧ SqT K F a vs ∧ RepL F ds vs
  | .lst true _, _ => False
  | .lst false ds, v => ∃ a vs, v = .ref a ∧ F a = some (.lst vs) ∧ RepL F ds vs
  | .cst ds, v => ∃ a vs, v = .ref a ∧ SqL K F a vs ∧ RepL F ds vs
  | .obj true _ _ _, _ => False
  | .obj false c ns ds, v => ∃ a dx fs vs, v = .ref a ∧ F a = some (.ins (ca c) dx fs) ∧ fs = ns.zip vs ∧ ns.length = vs.length ∧ RepL F ds vs
def RepL (F : Hp) : List D → List V → Prop
  | [], vs => vs = []
  | d :: ds, vs => ∃ v r, vs = v :: r ∧ Rep F d v ∧ RepL F ds r
end
mutual
/-- d stands at v; what it owns is counted by the last argument -/
def RepO (F H : Hp) : D → V → Ct → Prop
  | .lst true ds, v, f => ∃ a vs g, v = .ref a ∧ H a = some (.lst vs) ∧ RepOs F H ds vs g ∧ ∀ b, f b = (if b = a then 1 else 0) + g b
  | .obj true c ns ds, v, f => ∃ a dx fs vs g, v = .ref a ∧ H a = some (.ins (ca c) dx fs) ∧ fs = ns.zip vs ∧ ns.length = vs.length ∧ RepOs F H ds vs g ∧ ∀ b, f b = (if b = a then 1 else 0) + g b
  | .lst false ds, v, f => Rep K ca F (.lst false ds) v ∧ ∀ b, f b = 0
  | .obj false c ns ds, v, f => Rep K ca F (.obj false c ns ds) v ∧ ∀ b, f b = 0
  | .non, v, f => Rep K ca F .non v ∧ ∀ b, f b = 0
  | .bl x, v, f => Rep K ca F (.bl x) v ∧ ∀ b, f b = 0
  | .int x, v, f => Rep K ca F (.int x) v ∧ ∀ b, f b = 0
  | .str x, v, f => Rep K ca F (.str x) v ∧ ∀ b, f b = 0
  | .ty x, v, f => Rep K ca F (.ty x) v ∧ ∀ b, f b = 0
  | .tup x, v, f => Rep K ca F (.tup x) v ∧ ∀ b, f b = 0
  | .cst x, v, f => Rep K ca F (.cst x) v ∧ ∀ b, f b = 0
def RepOs (F H : Hp) : List D → List V → Ct → Prop
  | [], vs, f => vs = [] ∧ ∀ b, f b = 0
  | d :: ds, vs, f => ∃ v r f1 f2, vs = v :: r ∧ RepO F H d v f1 ∧ RepOs F H ds r f2 ∧ ∀ b, f b = f1 b + f2 b
end
end

section
variable {K : PySem.W.Frag} {ca : Str → Addr} {F F' H H' : Hp}

theorem sqT_same {K : PySem.W.Frag} {H H' : Hp} {a : Addr} {xs : List V} (e : Same H H') (h : SqT K H a xs) : SqT K H' a xs := by
  rcases h with (h | ⟨o, h⟩) | h
  · exact .inl (.inl (e _ _ h))
  · exact .inl (.inr ⟨o, e _ _ h⟩)
  · exact .inr h

mutual
theorem Rep.mono (e : Same F F') : ∀ (d : D) (v : V), Rep K ca F d v → Rep K ca F' d v
  | .non, _, h => h
  | .bl _, _, h => h
  | .int _, _, h => h
  | .str _, _, h => h
  | .ty _, _, h => h
  | .tup ds, v, h => by
    obtain ⟨a, vs, h1, h2, h3⟩ := h
    exact ⟨a, vs, h1, sqT_same e h2, RepL.mono e ds vs h3⟩
  | .lst true _, _, h => h
  | .lst false ds, v, h => by
    obtain ⟨a, vs, h1, h2, h3⟩ := h
    exact ⟨a, vs, h1, e _ _ h2, RepL.mono e ds vs h3⟩
  | .cst ds, v, h => by
    obtain ⟨a, vs, h1, h2, h3⟩ := h
    exact ⟨a, vs, h1, e.seq h2, RepL.mono e ds vs h3⟩
  | .obj true _ _ _, _, h => h
  | .obj false c ns ds, v, h => by
    obtain ⟨a, dx, fs, vs, h1, h2, h3, h4, h5⟩ := h
    exact ⟨a, dx, fs, vs, h1, e _ _ h2, h3, h4, RepL.mono e ds vs h5⟩
theorem RepL.mono (e : Same F F') : ∀ (ds : List D) (vs : List V), RepL K ca F ds vs → RepL K ca F' ds vs
  | [], _, h => h
  | d :: ds, _, h => by
    obtain ⟨v, r, h1, h2, h3⟩ := h
    exact ⟨v, r, h1, Rep.mono e d v h2, RepL.mono e ds r h3⟩
end

theorem repO_fz {d : D} (hd : isFz d = true) {v : V} {f : Ct} : RepO K ca F H d v f ↔ (Rep K ca F d v ∧ ∀ b, f b = 0) := by
  cases d with
  | lst m xs => cases m with
    | true => cases hd
    | false => exact Iff.rfl
  | obj m c ns xs => cases m with
    | true => cases hd
    | false => exact Iff.rfl
  | _ => exact Iff.rfl

theorem rep_isFz {d : D} {v : V} (h : Rep K ca F d v) : isFz d = true := by
  cases d with
  | lst m xs => cases m with
    | true => exact h.elim
    | false => rfl
  | obj m c ns xs => cases m with
    | true => exact h.elim
    | false => rfl
  | _ => rfl

theorem Rep.o {d : D} {v : V} (h : Rep K ca F d v) : RepO K ca F H d v (fun _ => 0) := (repO_fz (rep_isFz h)).mpr ⟨h, fun _ => rfl⟩
theorem RepL.os : ∀ {ds : List D} {vs : List V}, RepL K ca F ds vs → RepOs K ca F H ds vs (fun _ => 0)
  | [], _, h => ⟨h, fun _ => rfl⟩
  | _ :: _, _, ⟨v, r, h1, h2, h3⟩ => ⟨v, r, _, _, h1, h2.o, h3.os, fun _ => rfl⟩

mutual
theorem RepO.mono (e : Same F F') : ∀ (d : D) (v : V) (f : Ct), (∀ a, 0 < f a → H' a = H a) → RepO K ca F H d v f → RepO K ca F' H' d v f
  | .lst true ds, v, f, k, h => by
    obtain ⟨a, vs, g, h1, h2, h3, h4⟩ := h
    refine ⟨a, vs, g, h1, (k a (by rw [h4, if_pos rfl]; omega)).trans h2, RepOs.mono e ds vs g (fun b hb => k b (by rw [h4]; omega)) h3, h4⟩
  | .obj true c ns ds, v, f, k, h => by
    obtain ⟨a, dx, fs, vs, g, h1, h2, h5, h6, h3, h4⟩ := h
    refine ⟨a, dx, fs, vs, g, h1, (k a (by rw [h4, if_pos rfl]; omega)).trans h2, h5, h6, RepOs.mono e ds vs g (fun b hb => k b (by rw [h4]; omega)) h3, h4⟩
  | .lst false ds, v, f, k, h => ⟨Rep.mono e _ _ h.1, h.2⟩
  | .obj false c ns ds, v, f, k, h => ⟨Rep.mono e _ _ h.1, h.2⟩
  | .non, v, f, k, h => ⟨Rep.mono e _ _ h.1, h.2⟩
  | .bl _, v, f, k, h => ⟨Rep.mono e _ _ h.1, h.2⟩
  | .int _, v, f, k, h => ⟨Rep.mono e _ _ h.1, h.2⟩
  | .str _, v, f, k, h => ⟨Rep.mono e _ _ h.1, h.2⟩
  | .ty _, v, f, k, h => ⟨Rep.mono e _ _ h.1, h.2⟩
  | .tup _, v, f, k, h => ⟨Rep.mono e _ _ h.1, h.2⟩
  | .cst _, v, f, k, h => ⟨Rep.mono e _ _ h.1, h.2⟩
theorem RepOs.mono (e : Same F F') : ∀ (ds : List D) (vs : List V) (f : Ct), (∀ a, 0 < f a → H' a = H a) → RepOs K ca F H ds vs f → RepOs K ca F' H' ds vs f
  | [], _, _, _, h => h
  | d :: ds, _, f, k, h => by
    obtain ⟨v, r, f1, f2, h1, h2, h3, h4⟩ := h
    exact ⟨v, r, f1, f2, h1, RepO.mono e d v f1 (fun b hb => k b (by rw [h4]; omega)) h2, RepOs.mono e ds r f2 (fun b hb => k b (by rw [h4]; omega)) h3, h4⟩
end

mutual
theorem RepO.there : ∀ (d : D) (v : V) (f : Ct), RepO K ca F H d v f → ∀ a, 0 < f a → H a ≠ none
  | .lst true ds, v, f, h, b, hb => by
    obtain ⟨a, vs, g, h1, h2, h3, h4⟩ := h
    by_cases e : b = a
    · subst e; rw [h2]; exact fun z => by cases z
    · rw [h4, if_neg e] at hb; exact RepOs.there ds vs g h3 b (by omega)
  | .obj true c ns ds, v, f, h, b, hb => by
    obtain ⟨a, dx, fs, vs, g, h1, h2, h5, h6, h3, h4⟩ := h
    by_cases e : b = a
    · subst e; rw [h2]; exact fun z => by cases z
    · rw [h4, if_neg e] at hb; exact RepOs.there ds vs g h3 b (by omega)
  | .lst false ds, v, f, h, b, hb => by rw [h.2] at hb; omega
  | .obj false c ns ds, v, f, h, b, hb => by rw [h.2] at hb; omega
  | .non, v, f, h, b, hb => by rw [h.2] at hb; omega
  | .bl _, v, f, h, b, hb => by rw [h.2] at hb; omega
  | .int _, v, f, h, b, hb => by rw [h.2] at hb; omega
  | .str _, v, f, h, b, hb => by rw [h.2] at hb; omega
  | .ty _, v, f, h, b, hb => by rw [h.2] at hb; omega
  | .tup _, v, f, h, b, hb => by rw [h.2] at hb; omega
  | .cst _, v, f, h, b, hb => by rw [h.2] at hb; omega
theorem RepOs.there : ∀ (ds : List D) (vs : List V) (f : Ct), RepOs K ca F H ds vs f → ∀ a, 0 < f a → H a ≠ none
  | [], _, f, h, b, hb => by rw [h.2] at hb; omega
  | d :: ds, _, f, h, b, hb => by
    obtain ⟨v, r, f1, f2, h1, h2, h3, h4⟩ := h
    rw [h4] at hb
    by_cases q : 0 < f1 b
    · exact RepO.there d v f1 h2 b q
    · exact RepOs.there ds r f2 h3 b (by omega)
end

mutual
theorem RepO.fz (e : Same F F') : ∀ (d : D) (v : V) (f : Ct), (∀ a, 0 < f a → F' a = H a) → RepO K ca F H d v f → Rep K ca F' (freeze d) v
  | .lst true ds, v, f, k, h => by
    obtain ⟨a, vs, g, h1, h2, h3, h4⟩ := h
    exact ⟨a, vs, h1, (k a (by rw [h4, if_pos rfl]; omega)).trans h2, RepOs.fz e ds vs g (fun b hb => k b (by rw [h4]; omega)) h3⟩
  | .obj true c ns ds, v, f, k, h => by
    obtain ⟨a, dx, fs, vs, g, h1, h2, h5, h6, h3, h4⟩ := h
    exact ⟨a, dx, fs, vs, h1, (k a (by rw [h4, if_pos rfl]; omega)).trans h2, h5, h6, RepOs.fz e ds vs g (fun b hb => k b (by rw [h4]; omega)) h3⟩
  | .lst false ds, v, f, k, h => Rep.mono e _ _ h.1
  | .obj false c ns ds, v, f, k, h => Rep.mono e _ _ h.1
  | .non, v, f, k, h => Rep.mono e _ _ h.1
  | .bl _, v, f, k, h => Rep.mono e _ _ h.1
  | .int _, v, f, k, h => Rep.mono e _ _ h.1
  | .str _, v, f, k, h => Rep.mono e _ _ h.1
  | .ty _, v, f, k, h => Rep.mono e _ _ h.1
  | .tup _, v, f, k, h => Rep.mono e _ _ h.1
  | .cst _, v, f, k, h => Rep.mono e _ _ h.1
theorem RepOs.fz (e : Same F F') : ∀ (ds : List D) (vs : List V) (f : Ct), (∀ a, 0 < f a → F' a = H a) → RepOs K ca F H ds vs f → RepL K ca F' (freezeL ds) vs
  | [], _, _, _, h => h.1
  | d :: ds, _, f, k, h => by
    obtain ⟨v, r, f1, f2, h1, h2, h3, h4⟩ := h
    exact ⟨v, r, h1, RepO.fz e d v f1 (fun b hb => k b (by rw [h4]; omega)) h2, RepOs.fz e ds r f2 (fun b hb => k b (by rw [h4]; omega)) h3⟩
end

theorem RepL.length : ∀ {ds : List D} {vs : List V}, RepL K ca F ds vs → vs.length = ds.length
  | [], _, h => by have h : _ = [] := h; rw [h]; rfl
  | _ :: _, _, ⟨v, r, h1, h2, h3⟩ => by rw [h1, List.length_cons, List.length_cons, h3.length]
theorem RepOs.length : ∀ {ds : List D} {vs : List V} {f : Ct}, RepOs K ca F H ds vs f → vs.length = ds.length
  | [], _, _, h => by rw [h.1]; rfl
  | _ :: _, _, _, ⟨v, r, _, _, h1, h2, h3, _⟩ => by rw [h1, List.length_cons, List.length_cons, h3.length]
theorem RepL.get : ∀ {ds : List D} {vs : List V} {i : Nat} {d : D}, RepL K ca F ds vs → ds[i]? = some d → ∃ v, vs[i]? = some v ∧ Rep K ca F d v
  | [], _, _, _, _, e => by simp at e
  | d :: _, _, 0, _, ⟨v, r, h1, h2, h3⟩, e => by simp at e; subst e; subst h1; exact ⟨v, rfl, h2⟩
  | _ :: _, _, i + 1, d, ⟨v, r, h1, h2, h3⟩, e => by subst h1; simpa using h3.get (i := i) (by simpa using e)
theorem RepOs.get : ∀ {ds : List D} {vs : List V} {f : Ct} {i : Nat} {d : D}, RepOs K ca F H ds vs f → ds[i]? = some d → ∃ v g, vs[i]? = some v ∧ RepO K ca F H d v g
  | [], _, _, _, _, _, e => by simp at e
  | d :: _, _, _, 0, _, ⟨v, r, f1, f2, h1, h2, h3, _⟩, e => by simp at e; subst e; subst h1; exact ⟨v, f1, rfl, h2⟩
  | _ :: _, _, _, i + 1, d, ⟨v, r, f1, f2, h1, h2, h3, _⟩, e => by subst h1; simpa using h3.get (i := i) (by simpa using e)
theorem RepOs.append : ∀ {ds es : List D} {vs us : List V} {f g : Ct}, RepOs K ca F H ds vs f → RepOs K ca F H es us g → RepOs K ca F H (ds ++ es) (vs ++ us) (fun b => f b + g b)
  | [], es, _, us, f, g, h, k => by
    obtain ⟨rfl, h2⟩ := h
    have e : (fun b => f b + g b) = g := funext fun b => by rw [h2]; omega
    rw [e]; exact k
  | _ :: _, _, _, _, f, g, ⟨v, r, f1, f2, h1, h2, h3, h4⟩, k => by
    subst h1
    exact ⟨v, _, f1, _, rfl, h2, h3.append k, fun b => by show f b + g b = f1 b + (f2 b + g b); rw [h4]; omega⟩
theorem RepOs.split : ∀ {ds es : List D} {ws : List V} {f : Ct}, RepOs K ca F H (ds ++ es) ws f → ∃ vs us g1 g2, ws = vs ++ us ∧ RepOs K ca F H ds vs g1 ∧ RepOs K ca F H es us g2 ∧ ∀ b, f b = g1 b + g2 b
  | [], es, ws, f, h => ⟨[], ws, fun _ => 0, f, rfl, ⟨rfl, fun _ => rfl⟩, h, fun b => by show f b = 0 + f b; omega⟩
  | _ :: _, _, _, f, ⟨v, r, f1, f2, h1, h2, h3, h4⟩ => by
    obtain ⟨vs, us, g1, g2, e, k1, k2, k3⟩ := RepOs.split h3
    subst h1; subst e
    exact ⟨v :: vs, us, fun b => f1 b + g1 b, g2, rfl, ⟨v, vs, f1, g1, rfl, h2, k1, fun _ => rfl⟩, k2, fun b => by show f b = (f1 b + g1 b) + g2 b; rw [h4, k3]; omega⟩
theorem RepOs.split' {ds es : List D} {vs us : List V} {f : Ct} (h : RepOs K ca F H (ds ++ es) (vs ++ us) f) (hl : vs.length = ds.length) : ∃ g1 g2, RepOs K ca F H ds vs g1 ∧ RepOs K ca F H es us g2 ∧ ∀ b, f b = g1 b + g2 b := by
  obtain ⟨vs', us', g1, g2, e, k1, k2, k3⟩ := h.split
  have hl' := k1.length
  obtain ⟨rfl, rfl⟩ := List.append_inj e (by omega)
  exact ⟨g1, g2, k1, k2, k3⟩
end

/-! ### the slots -/
section
variable (K : PySem.W.Frag) (ca : Str → Addr) (F H : Hp)
def Sl : Env → L2.St → Ct → Prop
  | [], σ, f => σ = [] ∧ ∀ b, f b = 0
  | none :: τ, σ, f => ∃ x r, σ = x :: r ∧ Sl τ r f
  | some d :: τ, σ, f => ∃ v r f1 f2, σ = some v :: r ∧ RepO K ca F H d v f1 ∧ Sl τ r f2 ∧ ∀ b, f b = f1 b + f2 b
end
section
variable {K : PySem.W.Frag} {ca : Str → Addr} {F F' H H' : Hp}
theorem Sl.mono (e : Same F F') : ∀ {τ : Env} {σ : L2.St} {f : Ct}, (∀ a, 0 < f a → H' a = H a) → Sl K ca F H τ σ f → Sl K ca F' H' τ σ f
  | [], _, _, _, h => h
  | none :: _, _, _, k, ⟨x, r, h1, h2⟩ => ⟨x, r, h1, Sl.mono e k h2⟩
  | some _ :: _, _, f, k, ⟨v, r, f1, f2, h1, h2, h3, h4⟩ => ⟨v, r, f1, f2, h1, RepO.mono e _ _ _ (fun b hb => k b (by rw [h4]; omega)) h2, Sl.mono e (fun b hb => k b (by rw [h4]; omega)) h3, h4⟩
theorem Sl.there : ∀ {τ : Env} {σ : L2.St} {f : Ct}, Sl K ca F H τ σ f → ∀ a, 0 < f a → H a ≠ none
  | [], _, _, h, b, hb => by rw [h.2] at hb; omega
  | none :: _, _, _, ⟨x, r, h1, h2⟩, b, hb => Sl.there h2 b hb
  | some _ :: _, _, f, ⟨v, r, f1, f2, h1, h2, h3, h4⟩, b, hb => by
    rw [h4] at hb
    by_cases q : 0 < f1 b
    · exact RepO.there _ v f1 h2 b q
    · exact Sl.there h3 b (by omega)
theorem Sl.length : ∀ {τ : Env} {σ : L2.St} {f : Ct}, Sl K ca F H τ σ f → σ.length = τ.length
  | [], _, _, h => by rw [h.1]; rfl
  | none :: _, _, _, ⟨x, r, h1, h2⟩ => by rw [h1, List.length_cons, List.length_cons, Sl.length h2]
  | some _ :: _, _, f, ⟨v, r, f1, f2, h1, h2, h3, h4⟩ => by rw [h1, List.length_cons, List.length_cons, Sl.length h3]
theorem Sl.get : ∀ {τ : Env} {σ : L2.St} {f : Ct} {i : Nat} {d : D}, Sl K ca F H τ σ f → τ[i]? = some (some d) → ∃ v g, σ[i]? = some (some v) ∧ RepO K ca F H d v g
  | [], _, _, _, _, _, e => by simp at e
  | none :: _, _, _, 0, _, _, e => by simp at e
  | none :: _, _, _, i + 1, _, ⟨x, r, h1, h2⟩, e => by subst h1; simpa using Sl.get (i := i) h2 (by simpa using e)
  | some _ :: _, _, _, 0, _, ⟨v, r, f1, f2, h1, h2, h3, h4⟩, e => by simp at e; subst e; subst h1; exact ⟨v, f1, rfl, h2⟩
  | some _ :: _, _, _, i + 1, _, ⟨v, r, f1, f2, h1, h2, h3, h4⟩, e => by subst h1; simpa using Sl.get (i := i) h3 (by simpa using e)
/-- a slot gives away what it has -/
theorem Sl.take : ∀ {τ : Env} {σ : L2.St} {f : Ct} {i : Nat} {d : D}, Sl K ca F H τ σ f → τ[i]? = some (some d) → ∃ v g1 g2, σ[i]? = some (some v) ∧ RepO K ca F H d v g1 ∧ Sl K ca F H (τ.set i none) σ g2 ∧ ∀ b, f b = g1 b + g2 b
  | [], _, _, _, _, _, e => by simp at e
  | none :: _, _, _, 0, _, _, e => by simp at e
  | none :: _, _, _, i + 1, _, ⟨x, r, h1, h2⟩, e => by
    subst h1
    obtain ⟨v, g1, g2, k1, k2, k3, k4⟩ := Sl.take (i := i) h2 (by simpa using e)
    exact ⟨v, g1, g2, by simpa using k1, k2, ⟨x, r, rfl, k3⟩, k4⟩
  | some _ :: _, _, _, 0, _, ⟨v, r, f1, f2, h1, h2, h3, h4⟩, e => by simp at e; subst e; subst h1; exact ⟨v, f1, f2, rfl, h2, ⟨_, r, rfl, h3⟩, h4⟩
  | some _ :: _, _, f, i + 1, _, ⟨v, r, f1, f2, h1, h2, h3, h4⟩, e => by
    subst h1
    obtain ⟨v', g1, g2, k1, k2, k3, k4⟩ := Sl.take (i := i) h3 (by simpa using e)
    exact ⟨v', g1, fun b => f1 b + g2 b, by simpa using k1, k2, ⟨v, r, f1, g2, rfl, h2, k3, fun _ => rfl⟩, fun b => by show f b = g1 b + (f1 b + g2 b); rw [h4, k4]; omega⟩
/-- a slot takes a value -/
theorem Sl.put : ∀ {τ : Env} {σ : L2.St} {f : Ct} {i : Nat} {d : D} {v : V} {g : Ct}, Sl K ca F H τ σ f → i < τ.length → RepO K ca F H d v g → ∃ f2, Sl K ca F H (τ.set i (some d)) (σ.set i (some v)) f2 ∧ ∀ b, f2 b ≤ f b + g b
  | [], _, _, _, _, _, _, _, e, _ => by simp at e
  | none :: _, _, f, 0, _, v, g, ⟨x, r, h1, h2⟩, e, hv => by subst h1; exact ⟨fun b => g b + f b, ⟨v, r, g, f, rfl, hv, h2, fun _ => rfl⟩, fun b => by show g b + f b ≤ f b + g b; omega⟩
  | none :: _, _, f, i + 1, _, v, g, ⟨x, r, h1, h2⟩, e, hv => by
    subst h1
    obtain ⟨f2, k1, k2⟩ := Sl.put (i := i) h2 (by simpa using e) hv
    exact ⟨f2, ⟨x, _, rfl, k1⟩, k2⟩
  | some _ :: _, _, f, 0, _, v, g, ⟨w, r, f1, f2, h1, h2, h3, h4⟩, e, hv => by subst h1; exact ⟨fun b => g b + f2 b, ⟨v, r, g, f2, rfl, hv, h3, fun _ => rfl⟩, fun b => by show g b + f2 b ≤ f b + g b; rw [h4]; omega⟩
  | some _ :: _, _, f, i + 1, _, v, g, ⟨w, r, f1, f2, h1, h2, h3, h4⟩, e, hv => by
    subst h1
    obtain ⟨f3, k1, k2⟩ := Sl.put (i := i) h3 (by simpa using e) hv
    exact ⟨fun b => f1 b + f3 b, ⟨w, _, f1, f3, rfl, h2, k1, fun _ => rfl⟩, fun b => by show f1 b + f3 b ≤ f b + g b; have := k2 b; rw [h4]; omega⟩
/-- a slot forgets what it has -/
theorem Sl.drop : ∀ {τ : Env} {σ : L2.St} {f : Ct} {i : Nat}, Sl K ca F H τ σ f → ∃ f2, Sl K ca F H (τ.set i none) σ f2 ∧ ∀ b, f2 b ≤ f b := fun {τ σ f i} h => by
  cases e : τ[i]? with
  | none => rw [List.set_eq_of_length_le (by simpa using e)]; exact ⟨f, h, fun _ => Nat.le_refl _⟩
  | some x =>
    cases x with
    | none =>
      have : τ.set i none = τ := by
        apply List.ext_getElem?
        intro j
        rw [List.getElem?_set]
        split
        · rename_i q; subst q; split
          · exact e.symm
          · rename_i hl; rw [List.getElem?_eq_none (by omega)]
        · rfl
      rw [this]; exact ⟨f, h, fun _ => Nat.le_refl _⟩
    | some d =>
      obtain ⟨v, g1, g2, _, _, k, q⟩ := h.take e
      exact ⟨g2, k, fun b => by rw [q]; omega⟩
end

/-! ### the state -/
/-- what is fixed while a def's body runs: the classes' places, the unchanging part and the rest of the heap at its entry, the parameters that are handed to be changed -/
structure Bx where
  ca : Str → Addr
  F0 : Hp
  R : Hp
  io : List (Nat × V)
structure Wd (B : Bx) (F H : Hp) (f : Ct) : Prop where
  nd : ∀ a, f a ≤ 1
  dF : ∀ a, 0 < f a → F a = none
  dR : ∀ a, 0 < f a → B.R a = none
  sF : Same F H
  sR : Same B.R H
  s0 : Same B.F0 F
  fr : ∀ a, F a ≠ none → B.F0 a ≠ none ∨ B.R a = none
def IoOk (B : Bx) (σ : L2.St) : Prop := ∀ p ∈ B.io, σ[p.1]? = some (some p.2)
def StT (K : PySem.W.Frag) (B : Bx) (F H : Hp) (σ : L2.St) (τ : Env) (vs : List V) (ds : List D) : Prop :=
  ∃ f1 f2, Sl K B.ca F H τ σ f1 ∧ RepOs K B.ca F H ds vs f2 ∧ Wd B F H (fun b => f1 b + f2 b) ∧ IoOk B σ

theorem Wd.less {B : Bx} {F H : Hp} {f g : Ct} (w : Wd B F H f) (h : ∀ b, g b ≤ f b) : Wd B F H g :=
  ⟨fun a => Nat.le_trans (h a) (w.nd a), fun a q => w.dF a (Nat.lt_of_lt_of_le q (h a)), fun a q => w.dR a (Nat.lt_of_lt_of_le q (h a)), w.sF, w.sR, w.s0, w.fr⟩

theorem same_upd {H : Hp} {p : Addr} {o : HO} (h : H p = none) : Same H (upd H p o) := fun b x e => by
  rw [upd_ne (ne_of_none e h)]
  exact e
/-- something new, unowned, that never changes -/
theorem Wd.frozen {B : Bx} {F H : Hp} {f : Ct} {p : Addr} {o : HO} (w : Wd B F H f) (hp : H p = none) : Wd B (upd F p o) (upd H p o) (fun a => if a = p then 0 else f a) := by
  have hF : F p = none := by
    cases e : F p with
    | none => rfl
    | some x => rw [w.sF _ _ e] at hp; cases hp
  have hR : B.R p = none := by
    cases e : B.R p with
    | none => rfl
    | some x => rw [w.sR _ _ e] at hp; cases hp
  refine ⟨fun a => ?_, fun a q => ?_, fun a q => ?_, fun b x e => ?_, fun b x e => ?_, fun b x e => ?_, fun a q => ?_⟩
  · show (if a = p then 0 else f a) ≤ 1
    split
    · omega
    · exact w.nd a
  · have q : 0 < (if a = p then 0 else f a) := q
    split at q
    · omega
    · rw [upd_ne (by assumption)]; exact w.dF a q
  · have q : 0 < (if a = p then 0 else f a) := q
    split at q
    · omega
    · exact w.dR a q
  · by_cases h : b = p
    · subst h; rw [upd_same] at e ⊢; exact e
    · rw [upd_ne h] at e ⊢; exact w.sF b x e
  · rw [upd_ne (ne_of_none (w.sR b x e) hp)]; exact w.sR b x e
  · rw [upd_ne (ne_of_none (w.s0 b x e) hF)]; exact w.s0 b x e
  · by_cases h : a = p
    · subst h; exact .inr hR
    · rw [upd_ne h] at q; exact w.fr a q
/-- something new that is owned -/
theorem Wd.owned {B : Bx} {F H : Hp} {f : Ct} {p : Addr} {o : HO} (w : Wd B F H f) (hp : H p = none) (hf : f p = 0) : Wd B F (upd H p o) (fun a => (if a = p then 1 else 0) + f a) := by
  have hF : F p = none := by
    cases e : F p with
    | none => rfl
    | some x => rw [w.sF _ _ e] at hp; cases hp
  have hR : B.R p = none := by
    cases e : B.R p with
    | none => rfl
    | some x => rw [w.sR _ _ e] at hp; cases hp
  refine ⟨fun a => ?_, fun a q => ?_, fun a q => ?_, fun b x e => ?_, fun b x e => ?_, w.s0, w.fr⟩
  · show (if a = p then 1 else 0) + f a ≤ 1
    split
    · rename_i h; rw [h, hf]; omega
    · have := w.nd a; omega
  · have q : 0 < (if a = p then 1 else 0) + f a := q
    split at q
    · rename_i h; rw [h]; exact hF
    · exact w.dF a (by omega)
  · have q : 0 < (if a = p then 1 else 0) + f a := q
    split at q
    · rename_i h; rw [h]; exact hR
    · exact w.dR a (by omega)
  · rw [upd_ne (ne_of_none (w.sF b x e) hp)]; exact w.sF b x e
  · rw [upd_ne (ne_of_none (w.sR b x e) hp)]; exact w.sR b x e

/-- what is owned by es is given up: the unchanging part grows by it -/
def grow (F H : Hp) (f : Ct) : Hp := fun a => if 0 < f a then H a else F a
theorem same_grow {B : Bx} {F H : Hp} {f g : Ct} (w : Wd B F H f) (h : ∀ b, g b ≤ f b) : Same F (grow F H g) := fun b x e => by
  unfold grow
  split
  · rename_i q; rw [w.dF b (Nat.lt_of_lt_of_le q (h b))] at e; cases e
  · exact e
theorem Wd.give {B : Bx} {F H : Hp} {f g r : Ct} (w : Wd B F H f) (h : ∀ b, f b = g b + r b) : Wd B (grow F H g) H r := by
  refine ⟨fun a => by have := w.nd a; have := h a; omega, fun a q => ?_, fun a q => w.dR a (by rw [h]; omega), fun b x e => ?_, w.sR, fun b x e => (same_grow w fun b => by rw [h]; omega) b x (w.s0 b x e), fun a q => ?_⟩
  · unfold grow
    have := w.nd a; have := h a
    rw [if_neg (by omega)]
    exact w.dF a (by omega)
  · unfold grow at e
    split at e
    · exact e
    · exact w.sF b x e
  · unfold grow at q
    split at q
    · exact .inr (w.dR a (by rw [h]; omega))
    · exact w.fr a q

section
variable {K : PySem.W.Frag} {B : Bx} {F H : Hp} {σ : L2.St} {τ : Env} {vs us : List V} {ds es : List D} {v : V} {d : D}
theorem StT.push (s : StT K B F H σ τ vs ds) (h : Rep K B.ca F d v) : StT K B F H σ τ (v :: vs) (d :: ds) := by
  obtain ⟨f1, f2, a, b, w, io⟩ := s
  exact ⟨f1, f2, a, ⟨v, vs, _, f2, rfl, h.o, b, fun _ => by omega⟩, w, io⟩
theorem StT.pop (s : StT K B F H σ τ (v :: vs) (d :: ds)) : StT K B F H σ τ vs ds := by
  obtain ⟨f1, f2, a, ⟨_, _, g1, g2, e, _, b, q⟩, w, io⟩ := s
  cases e
  exact ⟨f1, g2, a, b, w.less fun b => by show f1 b + g2 b ≤ f1 b + f2 b; rw [q]; omega, io⟩
theorem StT.pops (s : StT K B F H σ τ (us ++ vs) (es ++ ds)) (hl : us.length = es.length) : StT K B F H σ τ vs ds := by
  obtain ⟨f1, f2, a, b, w, io⟩ := s
  obtain ⟨g1, g2, _, b, q⟩ := b.split' hl
  exact ⟨f1, g2, a, b, w.less fun b => by show f1 b + g2 b ≤ f1 b + f2 b; rw [q]; omega, io⟩
theorem StT.top (s : StT K B F H σ τ (v :: vs) (d :: ds)) : ∃ f, RepO K B.ca F H d v f := by
  obtain ⟨f1, f2, a, ⟨_, _, g1, g2, e, h, b, q⟩, w, io⟩ := s
  cases e
  exact ⟨_, h⟩
theorem StT.tops (s : StT K B F H σ τ (us ++ vs) (es ++ ds)) (hl : us.length = es.length) : ∃ f, RepOs K B.ca F H es us f := by
  obtain ⟨f1, f2, a, b, w, io⟩ := s
  obtain ⟨g1, g2, h, b, q⟩ := b.split' hl
  exact ⟨_, h⟩
theorem StT.topF (s : StT K B F H σ τ (v :: vs) (d :: ds)) (h : isFz d = true) : Rep K B.ca F d v := by
  obtain ⟨f, q⟩ := s.top
  exact ((repO_fz h).mp q).1
/-- the items on top change places with the one below -/
theorem StT.swap (s : StT K B F H σ τ (us ++ v :: vs) (es ++ d :: ds)) (hl : us.length = es.length) : StT K B F H σ τ (v :: us ++ vs) (d :: es ++ ds) := by
  obtain ⟨f1, f2, a, b, w, io⟩ := s
  obtain ⟨g1, g2, b1, ⟨_, _, g3, g4, e, b2, b3, q2⟩, q⟩ := b.split' hl
  cases e
  exact ⟨f1, f2, a, ⟨v, us ++ vs, g3, _, rfl, b2, b1.append b3, fun b => by rw [q, q2]; omega⟩, w, io⟩
theorem StT.same (s : StT K B F H σ τ vs ds) : Same F H := by
  obtain ⟨f1, f2, a, b, w, io⟩ := s
  exact w.sF
theorem StT.get {i : Nat} (s : StT K B F H σ τ vs ds) (e : τ[i]? = some (some d)) : ∃ v f, σ[i]? = some (some v) ∧ RepO K B.ca F H d v f := by
  obtain ⟨f1, f2, a, b, w, io⟩ := s
  exact a.get e
theorem StT.take {i : Nat} (s : StT K B F H σ τ vs ds) (e : τ[i]? = some (some d)) : ∃ v, σ[i]? = some (some v) ∧ StT K B F H σ (τ.set i none) (v :: vs) (d :: ds) := by
  obtain ⟨f1, f2, a, b, w, io⟩ := s
  obtain ⟨v, g1, g2, e1, h1, h2, q⟩ := a.take e
  refine ⟨v, e1, g2, fun b => g1 b + f2 b, h2, ⟨v, vs, g1, f2, rfl, h1, b, fun _ => rfl⟩, ?_, io⟩
  have e2 : (fun b => g2 b + (g1 b + f2 b)) = fun b => f1 b + f2 b := funext fun b => by rw [q]; omega
  rw [e2]; exact w
/-- free: is slot i none of the parameters that are handed to be changed -/
def ioFree (B : Bx) (i : Nat) : Prop := ∀ p ∈ B.io, p.1 ≠ i
theorem StT.put {i : Nat} (s : StT K B F H σ τ (v :: vs) (d :: ds)) (hi : i < τ.length) (hf : ioFree B i) : StT K B F H (σ.set i (some v)) (τ.set i (some d)) vs ds := by
  obtain ⟨f1, f2, a, ⟨_, _, g1, g2, e, h, b, q⟩, w, io⟩ := s
  cases e
  obtain ⟨f3, k1, k2⟩ := a.put hi h
  refine ⟨f3, g2, k1, b, w.less fun b => by show f3 b + g2 b ≤ f1 b + f2 b; have := k2 b; rw [q]; omega, fun p hp => ?_⟩
  rw [List.getElem?_set_ne (Ne.symm (hf p hp))]
  exact io p hp
theorem StT.putBack {i : Nat} (s : StT K B F H σ τ (v :: vs) (d :: ds)) (hi : i < τ.length) (hv : σ[i]? = some (some v)) : StT K B F H σ (τ.set i (some d)) vs ds := by
  obtain ⟨f1, f2, a, ⟨_, _, g1, g2, e, h, b, q⟩, w, io⟩ := s
  cases e
  obtain ⟨f3, k1, k2⟩ := a.put hi h
  have e1 : σ.set i (some v) = σ := by
    apply List.ext_getElem?
    intro j
    rw [List.getElem?_set]
    split
    · rename_i q; subst q; split
      · exact hv.symm
      · rename_i hl; rw [List.getElem?_eq_none (by omega)]
    · rfl
  rw [e1] at k1
  exact ⟨f3, g2, k1, b, w.less fun b => by show f3 b + g2 b ≤ f1 b + f2 b; have := k2 b; rw [q]; omega, io⟩
theorem StT.forget {i : Nat} (s : StT K B F H σ τ vs ds) : StT K B F H σ (τ.set i none) vs ds := by
  obtain ⟨f1, f2, a, b, w, io⟩ := s
  obtain ⟨g, k, q⟩ := a.drop (i := i)
  exact ⟨g, f2, k, b, w.less fun b => by show g b + f2 b ≤ f1 b + f2 b; have := q b; omega, io⟩
/-- the items on top are given up to the unchanging part -/
theorem StT.freeze (s : StT K B F H σ τ (us ++ vs) (es ++ ds)) (hl : us.length = es.length) : ∃ F', Same F F' ∧ RepL K B.ca F' (freezeL es) us ∧ StT K B F' H σ τ vs ds := by
  obtain ⟨f1, f2, a, b, w, io⟩ := s
  obtain ⟨g1, g2, b1, b2, q⟩ := b.split' hl
  have le : ∀ b, g1 b ≤ f1 b + f2 b := fun b => by rw [q]; omega
  have sm : Same F (grow F H g1) := same_grow w le
  refine ⟨grow F H g1, sm, RepOs.fz sm _ _ _ (fun a h => by unfold grow; rw [if_pos h]) b1, f1, g2, a.mono sm fun _ _ => rfl, RepOs.mono sm _ _ _ (fun _ _ => rfl) b2, ?_, io⟩
  exact w.give (g := g1) (r := fun b => f1 b + g2 b) fun b => by show f1 b + f2 b = g1 b + (f1 b + g2 b); rw [q]; omega
theorem StT.new (s : StT K B F H σ τ vs ds) {p : Addr} {o : HO} (hp : H p = none) : StT K B (upd F p o) (upd H p o) σ τ vs ds ∧ Same F (upd F p o) := by
  obtain ⟨f1, f2, a, b, w, io⟩ := s
  have hF : F p = none := by
    cases e : F p with
    | none => rfl
    | some x => rw [w.sF _ _ e] at hp; cases hp
  have sm : Same F (upd F p o) := Bn.same_upd hF
  have k1 : ∀ x, 0 < f1 x → upd H p o x = H x := fun x hx => upd_ne fun e => a.there x hx (e ▸ hp)
  have k2 : ∀ x, 0 < f2 x → upd H p o x = H x := fun x hx => upd_ne fun e => b.there _ _ _ x hx (e ▸ hp)
  refine ⟨⟨f1, f2, a.mono sm k1, RepOs.mono sm _ _ _ k2 b, (w.frozen hp).less fun x => ?_, io⟩, sm⟩
  show f1 x + f2 x ≤ if x = p then 0 else f1 x + f2 x
  split
  · rename_i e
    have h1 : ¬ 0 < f1 x := fun h => a.there x h (e ▸ hp)
    have h2 : ¬ 0 < f2 x := fun h => b.there _ _ _ x h (e ▸ hp)
    omega
  · omega
theorem StT.newTup (s : StT K B F H σ τ vs ds) {p : Addr} (hp : H p = none) (h : RepL K B.ca F es us) : StT K B (upd F p (.tup us)) (upd H p (.tup us)) σ τ (.ref p :: vs) (.tup es :: ds) := by
  obtain ⟨s', sm⟩ := s.new (o := .tup us) hp
  exact s'.push ⟨p, us, rfl, .inl (.inl upd_same), RepL.mono sm _ _ h⟩
theorem StT.newLst (s : StT K B F H σ τ (us ++ vs) (es ++ ds)) (hl : us.length = es.length) {p : Addr} (hp : H p = none) : StT K B F (upd H p (.lst us)) σ τ (.ref p :: vs) (.lst true es :: ds) := by
  obtain ⟨f1, f2, a, b, w, io⟩ := s
  obtain ⟨g1, g2, b1, b2, q⟩ := b.split' hl
  have k1 : ∀ x, 0 < f1 x → upd H p (.lst us) x = H x := fun x hx => upd_ne fun e => a.there x hx (e ▸ hp)
  have k2 : ∀ x, 0 < g1 x → upd H p (.lst us) x = H x := fun x hx => upd_ne fun e => b1.there _ _ _ x hx (e ▸ hp)
  have k3 : ∀ x, 0 < g2 x → upd H p (.lst us) x = H x := fun x hx => upd_ne fun e => b2.there _ _ _ x hx (e ▸ hp)
  have z : f1 p + f2 p = 0 := by
    have h1 : ¬ 0 < f1 p := fun h => a.there p h hp
    have h2 : ¬ 0 < f2 p := fun h => b.there _ _ _ p h hp
    omega
  refine ⟨f1, fun b => ((if b = p then 1 else 0) + g1 b) + g2 b, a.mono (Same.refl _) k1, ⟨.ref p, vs, fun b => (if b = p then 1 else 0) + g1 b, g2, rfl, ⟨p, us, g1, rfl, upd_same, RepOs.mono (Same.refl _) _ _ _ k2 b1, fun _ => rfl⟩, RepOs.mono (Same.refl _) _ _ _ k3 b2, fun _ => rfl⟩, ?_, io⟩
  have e : (fun b => f1 b + (((if b = p then 1 else 0) + g1 b) + g2 b)) = fun b => (if b = p then 1 else 0) + (f1 b + f2 b) := funext fun b => by rw [q]; omega
  rw [e]
  exact w.owned hp z
/-- the list on top is changed; its new items are made of its old ones and of the items us below it -/
theorem StT.change {a : Addr} {xs ys : List V} {es' : List D} (s : StT K B F H σ τ (.ref a :: (us ++ vs)) (.lst true es :: (ds ++ es'))) (hl : us.length = ds.length) (hx : H a = some (.lst xs)) {es2 : List D}
    (k : ∀ g1 g2, RepOs K B.ca F H es xs g1 → RepOs K B.ca F H ds us g2 → ∃ g, RepOs K B.ca F H es2 ys g ∧ ∀ b, g b ≤ g1 b + g2 b) :
    StT K B F (upd H a (.lst ys)) σ τ (.ref a :: vs) (.lst true es2 :: es') := by
  obtain ⟨f1, f2, A, ⟨_, _, g1, g2, e, h, b, q⟩, w, io⟩ := s
  cases e
  obtain ⟨a', xs', g3, e', hx', h3, q3⟩ := h
  cases e'
  rw [hx] at hx'; cases hx'
  obtain ⟨g4, g5, b1, b2, q4⟩ := b.split' hl
  obtain ⟨g, hg, hle⟩ := k g3 g4 h3 b1
  have one := w.nd a
  have tot : ∀ b, f1 b + f2 b = f1 b + ((if b = a then 1 else 0) + g3 b + (g4 b + g5 b)) := fun b => by rw [q, q3, q4]
  have za : f1 a = 0 ∧ g3 a = 0 ∧ g4 a = 0 ∧ g5 a = 0 := by
    have := tot a
    rw [if_pos rfl] at this
    omega
  have off : ∀ {φ : Ct}, φ a = 0 → ∀ x, 0 < φ x → upd H a (.lst ys) x = H x := fun {φ} hz x hx => upd_ne fun e => by rw [e, hz] at hx; omega
  have zg : g a = 0 := by have := hle a; omega
  refine ⟨f1, fun b => ((if b = a then 1 else 0) + g b) + g5 b, A.mono (Same.refl _) (off za.1), ⟨.ref a, vs, fun b => (if b = a then 1 else 0) + g b, g5, rfl, ⟨a, ys, g, rfl, upd_same, RepOs.mono (Same.refl _) _ _ _ (off zg) hg, fun _ => rfl⟩,
    RepOs.mono (Same.refl _) _ _ _ (off za.2.2.2) b2, fun _ => rfl⟩, ?_, io⟩
  have w2 : Wd B F H (fun b => f1 b + (((if b = a then 1 else 0) + g b) + g5 b)) := w.less fun b => by
    show f1 b + (((if b = a then 1 else 0) + g b) + g5 b) ≤ f1 b + f2 b
    have := tot b; have := hle b; omega
  have fa : F a = none := w.dF a (by have := tot a; rw [if_pos rfl] at this; show 0 < f1 a + f2 a; omega)
  have ra : B.R a = none := w.dR a (by have := tot a; rw [if_pos rfl] at this; show 0 < f1 a + f2 a; omega)
  exact ⟨w2.nd, w2.dF, w2.dR, fun b x e => by rw [upd_ne (ne_of_none e fa)]; exact w.sF b x e, fun b x e => by rw [upd_ne (ne_of_none e ra)]; exact w.sR b x e, w.s0, w.fr⟩
/-- behind a call that left all as it was, and made something -/
theorem StT.called {F' H' : Hp} {g : Ct} (s : StT K B F H σ τ vs ds) (h1 : Same F F') (h2 : Same F' H') (h3 : Same H H') (hv : RepO K B.ca F' H' d v g) (h4 : ∀ a, g a ≤ 1) (h5 : ∀ a, 0 < g a → F' a = none ∧ H a = none)
    (h6 : ∀ a, F' a ≠ none → F a ≠ none ∨ H a = none) : StT K B F' H' σ τ (v :: vs) (d :: ds) := by
  obtain ⟨f1, f2, a, b, w, io⟩ := s
  have k : ∀ x, H x ≠ none → H' x = H x := fun x hx => by
    cases e : H x with
    | none => exact absurd e hx
    | some o => exact h3 _ _ e
  have t1 : ∀ x, 0 < f1 x → H x ≠ none := a.there
  have t2 : ∀ x, 0 < f2 x → H x ≠ none := b.there _ _ _
  refine ⟨f1, fun b => g b + f2 b, a.mono h1 fun x hx => k x (t1 x hx), ⟨v, vs, g, f2, rfl, hv, RepOs.mono h1 _ _ _ (fun x hx => k x (t2 x hx)) b, fun _ => rfl⟩, ?_, io⟩
  have split : ∀ x, 0 < f1 x + (g x + f2 x) → (0 < g x ∧ f1 x = 0 ∧ f2 x = 0) ∨ (g x = 0 ∧ 0 < f1 x + f2 x) := fun x hx => by
    by_cases q : 0 < g x
    · have hn := (h5 x q).2
      have : ¬ 0 < f1 x := fun h => t1 x h hn
      have : ¬ 0 < f2 x := fun h => t2 x h hn
      exact .inl ⟨q, by omega, by omega⟩
    · exact .inr ⟨by omega, by omega⟩
  have old : ∀ x, 0 < f1 x + f2 x → H x ≠ none := fun x hx => by
    by_cases q : 0 < f1 x
    · exact t1 x q
    · exact t2 x (by omega)
  refine ⟨fun x => ?_, fun x hx => ?_, fun x hx => ?_, h2, w.sR.trans h3, w.s0.trans h1, fun x hx => ?_⟩
  · show f1 x + (g x + f2 x) ≤ 1
    by_cases q : 0 < f1 x + (g x + f2 x)
    · rcases split x q with ⟨_, e1, e2⟩ | ⟨e1, _⟩
      · have := h4 x; omega
      · have := w.nd x; omega
    · omega
  · rcases split x hx with ⟨e0, _⟩ | ⟨_, e0⟩
    · exact (h5 x e0).1
    · have hF := w.dF x e0
      cases e : F' x with
      | none => rfl
      | some o =>
        rcases h6 x (by rw [e]; exact fun z => by cases z) with z | z
        · exact absurd hF z
        · exact absurd z (old x e0)
  · rcases split x hx with ⟨e0, _⟩ | ⟨_, e0⟩
    · cases e : B.R x with
      | none => rfl
      | some o => have z := (h5 x e0).2; rw [w.sR _ _ e] at z; cases z
    · exact w.dR x e0
  · rcases h6 x hx with z | z
    · exact w.fr x z
    · refine .inr ?_
      cases e : B.R x with
      | none => rfl
      | some o => rw [w.sR _ _ e] at z; cases z
/-- the heap has grown -/
theorem StT.grown {H' : Hp} (s : StT K B F H σ τ vs ds) (h : Same H H') : StT K B F H' σ τ vs ds := by
  obtain ⟨f1, f2, a, b, w, io⟩ := s
  have k : ∀ x, H x ≠ none → H' x = H x := fun x hx => by
    cases e : H x with
    | none => exact absurd e hx
    | some o => exact h _ _ e
  exact ⟨f1, f2, a.mono (Same.refl _) fun x hx => k x (a.there x hx), RepOs.mono (Same.refl _) _ _ _ (fun x hx => k x (b.there _ _ _ x hx)) b, ⟨w.nd, w.dF, w.dR, w.sF.trans h, w.sR.trans h, w.s0, w.fr⟩, io⟩
end
end Bn

/-! Readings by functions of trees. -/
namespace Bn
open PySem PySem.Spec PyProof.Rows L2

inductive R (α : Type) where
  | ok (a : α) (τ : Env) | ex (c : Str) (τ : Env) | bad
inductive SR where
  | nx (τ : Env) | rt (d : D) (τ : Env) | bk (τ : Env) | ct (τ : Env) | ex (c : Str) (τ : Env) | bad
inductive CR where
  | ok (d : D) | ex (c : Str) | bad
abbrev ME := Env → R D
abbrev MZ := Env → Option D
abbrev MT := Env → R Bool
abbrev MA := Env → R (List D)
abbrev MS := Env → SR

def R.bind {α β : Type} : R α → (α → Env → R β) → R β
  | .ok a τ, k => k a τ
  | .ex c τ, _ => .ex c τ
  | .bad, _ => .bad
def post {α : Type} (y : α → Env → Prop) (x : Str → Env → Prop) : R α → Prop
  | .ok a τ => y a τ
  | .ex c τ => x c τ
  | .bad => False
theorem post_bind {α β : Type} {y : β → Env → Prop} {x : Str → Env → Prop} {r : R α} {k : α → Env → R β} (h : post y x (r.bind k)) : post (fun a τ => post y x (k a τ)) x r := by
  cases r <;> exact h
theorem post_imp {α : Type} {y y' : α → Env → Prop} {x x' : Str → Env → Prop} {r : R α} (h : post y x r) (hy : ∀ a τ, y a τ → y' a τ) (hx : ∀ c τ, x c τ → x' c τ) : post y' x' r := by
  cases r with
  | ok a τ => exact hy _ _ h
  | ex c τ => exact hx _ _ h
  | bad => exact h

section
variable {X : Cx}
theorem PE.imp {e : Expr} {t t' : TE} (h : PE X e t) (k : ∀ σ H Q, t' σ H Q → t σ H Q) : PE X e t' := ⟨fun p s σ H Q I q => h.run p s σ H Q I (k _ _ _ q)⟩
theorem PT.imp {e : Expr} {t t' : TT} (h : PT X e t) (k : ∀ σ H Q, t' σ H Q → t σ H Q) : PT X e t' := ⟨fun p s σ H Q I q => h.run p s σ H Q I (k _ _ _ q)⟩
theorem PW.imp {e : Expr} {t t' : TT} (h : PW X e t) (k : ∀ σ H Q, t' σ H Q → t σ H Q) : PW X e t' := ⟨fun w p s σ H Q I q => h.run w p s σ H Q I (k _ _ _ q)⟩
theorem PA.imp {e : List Expr} {t t' : TA} (h : PA X e t) (k : ∀ σ H Q, t' σ H Q → t σ H Q) : PA X e t' := ⟨fun z p s σ H Q I q => h.run z p s σ H Q I (k _ _ _ q)⟩
theorem PS.imp {e : Stmt} {t t' : TS} (h : PS X e t) (k : ∀ D σ H, t' D σ H → t D σ H) : PS X e t' := ⟨fun p s σ H D I q => h.run p s σ H D I (k _ _ _ q)⟩
theorem PSs.imp {e : List Stmt} {t t' : TS} (h : PSs X e t) (k : ∀ D σ H, t' D σ H → t D σ H) : PSs X e t' := ⟨fun p s σ H D I q => h.run p s σ H D I (k _ _ _ q)⟩
theorem PG.imp {e : Expr} {t t' : TG} (h : PG X e t) (k : ∀ v σ H Q, t' v σ H Q → t v σ H Q) : PG X e t' := ⟨fun p s σ H v u Q I r q => h.run p s σ H v u Q I r (k _ _ _ _ q)⟩
theorem PGs.imp {e : List Expr} {t t' : TGs} (h : PGs X e t) (k : ∀ v σ H Q, t' v σ H Q → t v σ H Q) : PGs X e t' := ⟨fun p s σ H v u Q I r q => h.run p s σ H v u Q I r (k _ _ _ _ q)⟩
end

section
variable (K : PySem.W.Frag) (B : Bx) (W : WX)
def exW (σ : L2.St) (vs : List V) (ds : List D) : Str → Env → Prop := fun c τ' => ∀ F' H', StT K B F' H' σ τ' vs ds → W (.ref (B.ca c)) none σ H'
def rdE (m : ME) : TE := fun σ H Q => ∃ F τ vs ds, StT K B F H σ τ vs ds ∧ post (fun d τ' => ∀ v F' H', StT K B F' H' σ τ' (v :: vs) (d :: ds) → Q v H') (exW K B W σ vs ds) (m τ)
def rdA (m : MA) : TA := fun σ H Q => ∃ F τ vs ds, StT K B F H σ τ vs ds ∧ post (fun es τ' => ∀ us F' H', us.length = es.length → StT K B F' H' σ τ' (us ++ vs) (es ++ ds) → Q us H') (exW K B W σ vs ds) (m τ)
def rdT (m : MT) : TT := fun σ H Q => ∃ F τ vs ds, StT K B F H σ τ vs ds ∧ post (fun b τ' => ∀ F' H', StT K B F' H' σ τ' vs ds → Q b H') (exW K B W σ vs ds) (m τ)
def rdZ (m : MZ) : TE := fun σ H Q => ∃ F τ vs ds, StT K B F H σ τ vs ds ∧ ∃ d, m τ = some d ∧ ∀ v f, RepO K B.ca F H d v f → Q v H
def postS (vs : List V) (ds : List D) (D : Ends) : SR → Prop
  | .nx τ => ∀ σ F H, StT K B F H σ τ vs ds → D.nx σ H
  | .rt d τ => ∀ v σ F H, StT K B F H σ τ (v :: vs) (d :: ds) → D.rt v H
  | .bk τ => ∀ σ F H, StT K B F H σ τ vs ds → D.bk σ H
  | .ct τ => ∀ σ F H, StT K B F H σ τ vs ds → D.ct σ H
  | .ex c τ => ∀ σ F H, StT K B F H σ τ vs ds → W (.ref (B.ca c)) none σ H
  | .bad => False
def rdS (m : MS) : TS := fun D σ H => ∃ F τ vs ds, StT K B F H σ τ vs ds ∧ postS K B W vs ds D (m τ)
/-- a target; sl: the slots that it sets -/
def rdG (sl : List Nat) (g : D → Env → Option Env) : TG := fun v σ H Q => ∃ F τ vs ds d, StT K B F H σ τ (v :: vs) (d :: ds) ∧ ∃ τ', g d τ = some τ' ∧
  ∀ σ' F' H', StT K B F' H' σ' τ' vs ds → σ'.length = σ.length → (∀ j, j ∉ sl → σ'[j]? = σ[j]?) → Q σ' H'
def rdGs (sl : List Nat) (g : List D → Env → Option Env) : TGs := fun ws σ H Q => ∃ F τ vs ds es, ws.length = es.length ∧ StT K B F H σ τ (ws ++ vs) (es ++ ds) ∧ ∃ τ', g es τ = some τ' ∧
  ∀ σ' F' H', StT K B F' H' σ' τ' vs ds → σ'.length = σ.length → (∀ j, j ∉ sl → σ'[j]? = σ[j]?) → Q σ' H'
end

/-! ### names and constants -/
def zVar (i : Nat) : MZ := fun τ => τ.getD i none
def zC (d : D) : MZ := fun _ => some d
theorem getD_some {τ : Env} {i : Nat} {d : D} (h : τ.getD i none = some d) : τ[i]? = some (some d) := by
  rw [List.getD_eq_getElem?_getD] at h
  cases e : τ[i]? with
  | none => rw [e] at h; cases h
  | some x => rw [e] at h; exact congrArg some h
section
variable {X : Cx} {B : Bx} {W : WX}
theorem z_var {i : Nat} {e : Expr} (h : PE X e (tVar i)) : PE X e (rdZ X.K B (zVar i)) := PE.imp h fun σ H Q ⟨F, τ, vs, ds, s, d, e, k⟩ => by
  obtain ⟨v, f, h1, h2⟩ := s.get (getD_some e)
  exact ⟨v, h1, k v f h2⟩
theorem z_c {e : Expr} {d : D} {v : V} (h : PE X e (tC v)) (hd : ∀ F, Rep X.K B.ca F d v) : PE X e (rdZ X.K B (zC d)) := PE.imp h fun σ H Q ⟨F, τ, vs, ds, s, d', e, k⟩ => by
  cases (show some d = some d' from e)
  exact k v _ (hd F).o
theorem z_int {i j pos} : PE X (.Constant (.int i) j pos) (rdZ X.K B (zC (.int i))) := z_c pe_int fun _ => rfl
theorem z_bl {b j pos} : PE X (.Constant (.bool b) j pos) (rdZ X.K B (zC (.bl b))) := z_c pe_bl fun _ => rfl
theorem z_non {j pos} : PE X (.Constant .none j pos) (rdZ X.K B (zC .non)) := z_c pe_non fun _ => rfl
theorem z_str {x j pos} : PE X (.Constant (.str x) j pos) (rdZ X.K B (zC (.str x))) := z_c pe_str fun _ => rfl
theorem z_ty {x : Str} {n : String} {pos : Pos} (hg : Gl X x) (hm : X.mg x = none) (hv : bootBuiltins x = some (.type n)) (hn : x ≠ "__name__" := by decide) (hd : (x == ("__debug__" : Str)) = false := by decide) : PE X (.Name x pos) (rdZ X.K B (zC (.ty n))) :=
  z_c (pe_bltn (v := .ty n) hg hm hv rfl hn hd) fun _ => rfl

/-! ### from Z to E -/
def eZ (m : MZ) : ME := fun τ => match m τ with
  | some d => if isFz d = true then .ok d τ else .bad
  | none => .bad
theorem e_z {e : Expr} {m : MZ} (h : PE X e (rdZ X.K B m)) : PE X e (rdE X.K B W (eZ m)) := PE.imp h fun σ H Q ⟨F, τ, vs, ds, s, k⟩ => by
  unfold eZ at k
  cases e : m τ with
  | none => rw [e] at k; exact k.elim
  | some d =>
    rw [e] at k
    by_cases z : isFz d = true
    · simp only [z, if_true] at k
      exact ⟨F, τ, vs, ds, s, d, e, fun v f r => k v F H (s.push ((repO_fz z).mp r).1)⟩
    · simp only [z] at k
      exact k.elim
/-- a name's value; what it owns is given up -/
def eVar (i : Nat) : ME := fun τ => match τ.getD i none with
  | some d => if isFz d = true then .ok d τ else .ok (freeze d) (τ.set i (some (freeze d)))
  | none => .bad
theorem e_var {i : Nat} {e : Expr} (h : PE X e (tVar i)) : PE X e (rdE X.K B W (eVar i)) := PE.imp h fun σ H Q ⟨F, τ, vs, ds, s, k⟩ => by
  unfold eVar at k
  cases e : τ.getD i none with
  | none => rw [e] at k; exact k.elim
  | some d =>
    rw [e] at k
    have e' := getD_some e
    by_cases z : isFz d = true
    · simp only [z, if_true] at k
      obtain ⟨v, f, h1, h2⟩ := s.get e'
      exact ⟨v, h1, k v F H (s.push ((repO_fz z).mp h2).1)⟩
    · simp only [z] at k
      obtain ⟨v, h1, s1⟩ := s.take e'
      obtain ⟨F', sm, ⟨_, _, e2, r, _⟩, s2⟩ := StT.freeze (us := [v]) (es := [d]) s1 rfl
      cases e2
      have s3 := StT.putBack (s2.push r) (i := i) (by rw [List.length_set]; exact (List.getElem?_eq_some_iff.mp e').1) h1
      rw [List.set_set] at s3
      exact ⟨v, h1, k v F' H (s3.push r)⟩
/-- a name gives its value away -/
def eMv (i : Nat) : ME := fun τ => match τ.getD i none with
  | some d => .ok d (τ.set i none)
  | none => .bad
theorem e_mv {i : Nat} {e : Expr} (h : PE X e (tVar i)) : PE X e (rdE X.K B W (eMv i)) := PE.imp h fun σ H Q ⟨F, τ, vs, ds, s, k⟩ => by
  unfold eMv at k
  cases e : τ.getD i none with
  | none => rw [e] at k; exact k.elim
  | some d =>
    rw [e] at k
    obtain ⟨v, h1, s1⟩ := s.take (getD_some e)
    exact ⟨v, h1, k v F H s1⟩

/-! ### operators by values -/
def OpS (K : PySem.W.Frag) (r : R2) (g : D → D → Option D) : Prop := ∀ (ca : Str → Addr) (F H : Hp) (x y : V) (a b d : D) (f1 f2 : Ct) (Q : VK), Same F H → RepO K ca F H a x f1 → RepO K ca F H b y f2 → g a b = some d → (∀ v f, RepO K ca F H d v f → Q v H) → r x y H Q
def UnS (K : PySem.W.Frag) (r : V → Hp → VK → Prop) (g : D → Option D) : Prop := ∀ (ca : Str → Addr) (F H : Hp) (x : V) (a d : D) (f1 : Ct) (Q : VK), Same F H → RepO K ca F H a x f1 → g a = some d → (∀ v f, RepO K ca F H d v f → Q v H) → r x H Q
def CallS (K : PySem.W.Frag) (r : List V → Hp → VK → Prop) (g : List D → Option D) : Prop := ∀ (ca : Str → Addr) (F H : Hp) (xs : List V) (as : List D) (d : D) (f1 : Ct) (Q : VK), Same F H → RepOs K ca F H as xs f1 → g as = some d → (∀ v f, RepO K ca F H d v f → Q v H) → r xs H Q
def z2 (g : D → D → Option D) (m n : MZ) : MZ := fun τ => (m τ).bind fun a => (n τ).bind fun b => g a b
def z1 (g : D → Option D) (m : MZ) : MZ := fun τ => (m τ).bind g
def ofO (o : Option D) (τ : Env) : R D := match o with
  | some d => if isFz d = true then .ok d τ else .bad
  | none => .bad
def e2 (g : D → D → Option D) (m n : ME) : ME := fun τ => (m τ).bind fun a τ1 => (n τ1).bind fun b τ2 => ofO (g a b) τ2
def e1 (g : D → Option D) (m : ME) : ME := fun τ => (m τ).bind fun a τ1 => ofO (g a) τ1
def eC (g : List D → Option D) (m : MA) : ME := fun τ => (m τ).bind fun a τ1 => ofO (g a) τ1
theorem post_ofO {y : D → Env → Prop} {x : Str → Env → Prop} {o : Option D} {τ : Env} (h : post y x (ofO o τ)) : ∃ d, o = some d ∧ isFz d = true ∧ y d τ := by
  unfold ofO at h
  cases o with
  | none => exact h.elim
  | some d =>
    by_cases z : isFz d = true
    · simp only [z, if_true] at h; exact ⟨d, rfl, z, h⟩
    · simp only [z] at h; exact h.elim
theorem bind_some {α β : Type} {o : Option α} {k : α → Option β} {d : β} (h : o.bind k = some d) : ∃ a, o = some a ∧ k a = some d := by
  cases o with
  | none => cases h
  | some a => exact ⟨a, rfl, h⟩
theorem imp2Z {r : R2} {g : D → D → Option D} {m n : MZ} (hs : OpS X.K r g) (σ : L2.St) (H : Hp) (Q : VK) (h : rdZ X.K B (z2 g m n) σ H Q) : tOp r (rdZ X.K B m) (rdZ X.K B n) σ H Q := by
  obtain ⟨F, τ, vs, ds, s, d, e, k⟩ := h
  obtain ⟨a, ea, e⟩ := bind_some e
  obtain ⟨b, eb, e⟩ := bind_some e
  exact ⟨F, τ, vs, ds, s, a, ea, fun x f1 hx => ⟨F, τ, vs, ds, s, b, eb, fun y f2 hy => hs _ _ _ _ _ _ _ _ _ _ _ s.same hx hy e k⟩⟩
theorem imp2E {r : R2} {g : D → D → Option D} {m n : ME} (hs : OpS X.K r g) (σ : L2.St) (H : Hp) (Q : VK) (h : rdE X.K B W (e2 g m n) σ H Q) : tOp r (rdE X.K B W m) (rdE X.K B W n) σ H Q := by
  obtain ⟨F, τ, vs, ds, s, p⟩ := h
  refine ⟨F, τ, vs, ds, s, post_imp (post_bind p) (fun a τ1 q x F1 H1 s1 => ⟨F1, τ1, _, _, s1, post_imp (post_bind q) (fun b τ2 q y F2 H2 s2 => ?_) fun c τ2 q F2 H2 s2 => q F2 H2 s2.pop⟩) fun _ _ q => q⟩
  obtain ⟨d, e, z, q⟩ := post_ofO q
  obtain ⟨f2, hy⟩ := s2.top
  obtain ⟨f1, hx⟩ := s2.pop.top
  exact hs _ _ _ _ _ _ _ _ _ _ _ s2.same hx hy e fun v f hv => q v F2 H2 (s2.pop.pop.push ((repO_fz z).mp hv).1)
theorem imp1Z {r : V → Hp → VK → Prop} {g : D → Option D} {m : MZ} (hs : UnS X.K r g) (σ : L2.St) (H : Hp) (Q : VK) (h : rdZ X.K B (z1 g m) σ H Q) : tUn r (rdZ X.K B m) σ H Q := by
  obtain ⟨F, τ, vs, ds, s, d, e, k⟩ := h
  obtain ⟨a, ea, e⟩ := bind_some e
  exact ⟨F, τ, vs, ds, s, a, ea, fun x f1 hx => hs _ _ _ _ _ _ _ _ s.same hx e k⟩
theorem imp1E {r : V → Hp → VK → Prop} {g : D → Option D} {m : ME} (hs : UnS X.K r g) (σ : L2.St) (H : Hp) (Q : VK) (h : rdE X.K B W (e1 g m) σ H Q) : tUn r (rdE X.K B W m) σ H Q := by
  obtain ⟨F, τ, vs, ds, s, p⟩ := h
  refine ⟨F, τ, vs, ds, s, post_imp (post_bind p) (fun a τ1 q x F1 H1 s1 => ?_) fun _ _ q => q⟩
  obtain ⟨d, e, z, q⟩ := post_ofO q
  obtain ⟨f1, hx⟩ := s1.top
  exact hs _ _ _ _ _ _ _ _ s1.same hx e fun v f hv => q v F1 H1 (s1.pop.push ((repO_fz z).mp hv).1)
theorem z_op {op : Operator} {a b : Expr} {pos : Pos} {r : R2} {g : D → D → Option D} {m n : MZ} (ho : OpR X (binaryOp op) r) (hs : OpS X.K r g) (ha : PE X a (rdZ X.K B m)) (hb : PE X b (rdZ X.K B n)) : PE X (.BinOp a op b pos) (rdZ X.K B (z2 g m n)) := PE.imp (pe_op ho ha hb) (imp2Z hs)
theorem e_op {op : Operator} {a b : Expr} {pos : Pos} {r : R2} {g : D → D → Option D} {m n : ME} (ho : OpR X (binaryOp op) r) (hs : OpS X.K r g) (ha : PE X a (rdE X.K B W m)) (hb : PE X b (rdE X.K B W n)) : PE X (.BinOp a op b pos) (rdE X.K B W (e2 g m n)) := PE.imp (pe_op ho ha hb) (imp2E hs)
theorem z_un {op : UnaryOp} {a : Expr} {pos : Pos} {r : V → Hp → VK → Prop} {g : D → Option D} {m : MZ} (ho : UnR X (unaryOp op) r) (hs : UnS X.K r g) (ha : PE X a (rdZ X.K B m)) : PE X (.UnaryOp op a pos) (rdZ X.K B (z1 g m)) := PE.imp (pe_un ho ha) (imp1Z hs)
theorem e_un {op : UnaryOp} {a : Expr} {pos : Pos} {r : V → Hp → VK → Prop} {g : D → Option D} {m : ME} (ho : UnR X (unaryOp op) r) (hs : UnS X.K r g) (ha : PE X a (rdE X.K B W m)) : PE X (.UnaryOp op a pos) (rdE X.K B W (e1 g m)) := PE.imp (pe_un ho ha) (imp1E hs)
theorem z_ix {a b : Expr} {pos : Pos} {r : R2} {g : D → D → Option D} {m n : MZ} (ho : IxR X r) (hs : OpS X.K r g) (ha : PE X a (rdZ X.K B m)) (hb : PE X b (rdZ X.K B n)) (hp : PlainIx b := by exact fun _ _ => rfl) : PE X (.Subscript a b pos) (rdZ X.K B (z2 g m n)) := PE.imp (pe_ix ho ha hb hp) (imp2Z hs)
theorem e_ix {a b : Expr} {pos : Pos} {r : R2} {g : D → D → Option D} {m n : ME} (ho : IxR X r) (hs : OpS X.K r g) (ha : PE X a (rdE X.K B W m)) (hb : PE X b (rdE X.K B W n)) (hp : PlainIx b := by exact fun _ _ => rfl) : PE X (.Subscript a b pos) (rdE X.K B W (e2 g m n)) := PE.imp (pe_ix ho ha hb hp) (imp2E hs)
theorem z_cmp {op : CmpOp} {a b : Expr} {pos : Pos} {r : R2} {g : D → D → Option D} {m n : MZ} (ho : OpR X (compareOp op) r) (hs : OpS X.K r g) (ha : PE X a (rdZ X.K B m)) (hb : PE X b (rdZ X.K B n)) (hm : behindInMarks op b = false := by first | exact nomark _ | rfl) : PE X (.Compare a [op] [b] pos) (rdZ X.K B (z2 g m n)) := PE.imp (pe_cmpR ho ha hb hm) (imp2Z hs)
theorem e_cmp {op : CmpOp} {a b : Expr} {pos : Pos} {r : R2} {g : D → D → Option D} {m n : ME} (ho : OpR X (compareOp op) r) (hs : OpS X.K r g) (ha : PE X a (rdE X.K B W m)) (hb : PE X b (rdE X.K B W n)) (hm : behindInMarks op b = false := by first | exact nomark _ | rfl) : PE X (.Compare a [op] [b] pos) (rdE X.K B W (e2 g m n)) := PE.imp (pe_cmpR ho ha hb hm) (imp2E hs)

/-! ### tests -/
def tE (m : ME) : MT := fun τ => (m τ).bind fun d τ1 => match d with
  | .bl b => .ok b τ1
  | _ => .bad
def tZ (m : MZ) : MT := fun τ => match m τ with
  | some (.bl b) => .ok b τ
  | _ => .bad
theorem impTE {m : ME} (σ : L2.St) (H : Hp) (Q : Bool → Hp → Prop) (h : rdT X.K B W (tE m) σ H Q) : rdE X.K B W m σ H fun x H' => ∃ k, x = .bl k ∧ Q k H' := by
  obtain ⟨F, τ, vs, ds, s, p⟩ := h
  refine ⟨F, τ, vs, ds, s, post_imp (post_bind p) (fun d τ1 q x F1 H1 s1 => ?_) fun _ _ q => q⟩
  cases d with
  | bl b => exact ⟨b, s1.topF rfl, q F1 H1 s1.pop⟩
  | _ => exact False.elim q
theorem impTZ {m : MZ} (σ : L2.St) (H : Hp) (Q : Bool → Hp → Prop) (h : rdT X.K B W (tZ m) σ H Q) : rdZ X.K B m σ H fun x H' => ∃ k, x = .bl k ∧ Q k H' := by
  obtain ⟨F, τ, vs, ds, s, p⟩ := h
  unfold tZ at p
  cases e : m τ with
  | none => rw [e] at p; exact False.elim p
  | some d =>
    rw [e] at p
    cases d with
    | bl b => exact ⟨F, τ, vs, ds, s, _, e, fun v f r => ⟨b, r.1, p F H s⟩⟩
    | _ => exact False.elim p
theorem t_valZ {e : Expr} {m : MZ} (h : PE X e (rdZ X.K B m)) (he : ∀ whole, isTrue e X.env whole = (do let v ← whole; standAt e.pos; holding [v] (truthy v)) := by intro _; rfl) : PT X e (rdT X.K B W (tZ m)) := PT.imp (pt_val h he) impTZ
theorem t_valE {e : Expr} {m : ME} (h : PE X e (rdE X.K B W m)) (he : ∀ whole, isTrue e X.env whole = (do let v ← whole; standAt e.pos; holding [v] (truthy v)) := by intro _; rfl) : PT X e (rdT X.K B W (tE m)) := PT.imp (pt_val h he) impTE
theorem t_cmpZ {op : CmpOp} {a b : Expr} {pos : Pos} {r : R2} {g : D → D → Option D} {m n : MZ} (ho : OpR X (compareOp op) r) (hs : OpS X.K r g) (ha : PE X a (rdZ X.K B m)) (hb : PE X b (rdZ X.K B n)) (hm : behindInMarks op b = false := by first | exact nomark _ | rfl) : PT X (.Compare a [op] [b] pos) (rdT X.K B W (tZ (z2 g m n))) :=
  PT.imp (pt_cmpR ho ha hb hm) fun σ H Q h => imp2Z hs σ H _ (impTZ σ H Q h)
theorem t_cmpE {op : CmpOp} {a b : Expr} {pos : Pos} {r : R2} {g : D → D → Option D} {m n : ME} (ho : OpR X (compareOp op) r) (hs : OpS X.K r g) (ha : PE X a (rdE X.K B W m)) (hb : PE X b (rdE X.K B W n)) (hm : behindInMarks op b = false := by first | exact nomark _ | rfl) : PT X (.Compare a [op] [b] pos) (rdT X.K B W (tE (e2 g m n))) :=
  PT.imp (pt_cmpR ho ha hb hm) fun σ H Q h => imp2E hs σ H _ (impTE σ H Q h)
def tAnd (a b : MT) : MT := fun τ => (a τ).bind fun x τ1 => if x = true then b τ1 else .ok false τ1
def tOr (a b : MT) : MT := fun τ => (a τ).bind fun x τ1 => if x = true then .ok true τ1 else b τ1
def tNot (a : MT) : MT := fun τ => (a τ).bind fun x τ1 => .ok (!x) τ1
theorem t_and1 {a : Expr} {pos : Pos} {m : MT} (ha : PT X a (rdT X.K B W m)) : PW X (.BoolOp .And [a] pos) (rdT X.K B W m) := pw_and1 ha
theorem t_or1 {a : Expr} {pos : Pos} {m : MT} (ha : PT X a (rdT X.K B W m)) : PW X (.BoolOp .Or [a] pos) (rdT X.K B W m) := pw_or1 ha
theorem t_and {a b : Expr} {r : List Expr} {pos : Pos} {m n : MT} (ha : PT X a (rdT X.K B W m)) (hb : PW X (.BoolOp .And (b :: r) pos) (rdT X.K B W n)) : PW X (.BoolOp .And (a :: b :: r) pos) (rdT X.K B W (tAnd m n)) := PW.imp (pw_and ha hb) fun σ H Q h => by
  obtain ⟨F, τ, vs, ds, s, p⟩ := h
  refine ⟨F, τ, vs, ds, s, post_imp (post_bind p) (fun b τ1 q F1 H1 s1 => ?_) fun _ _ q => q⟩
  cases b with
  | true => exact ⟨F1, τ1, vs, ds, s1, q⟩
  | false => exact q F1 H1 s1
theorem t_or {a b : Expr} {r : List Expr} {pos : Pos} {m n : MT} (ha : PT X a (rdT X.K B W m)) (hb : PW X (.BoolOp .Or (b :: r) pos) (rdT X.K B W n)) : PW X (.BoolOp .Or (a :: b :: r) pos) (rdT X.K B W (tOr m n)) := PW.imp (pw_or ha hb) fun σ H Q h => by
  obtain ⟨F, τ, vs, ds, s, p⟩ := h
  refine ⟨F, τ, vs, ds, s, post_imp (post_bind p) (fun b τ1 q F1 H1 s1 => ?_) fun _ _ q => q⟩
  cases b with
  | false => exact ⟨F1, τ1, vs, ds, s1, q⟩
  | true => exact q F1 H1 s1
theorem t_not {a : Expr} {pos : Pos} {m : MT} (ha : PT X a (rdT X.K B W m)) : PT X (.UnaryOp .Not a pos) (rdT X.K B W (tNot m)) := PT.imp (pt_not ha) fun σ H Q h => by
  obtain ⟨F, τ, vs, ds, s, p⟩ := h
  exact ⟨F, τ, vs, ds, s, post_imp (post_bind p) (fun b τ1 q F1 H1 s1 => q F1 H1 s1) fun _ _ q => q⟩
/-- chains a < b < c -/
def zChain (g g' : D → D → Option D) (a b c : MZ) : MZ := fun τ => (a τ).bind fun x => (b τ).bind fun y => (g x y).bind fun z => match z with
  | .bl true => (c τ).bind fun w => g' y w
  | .bl false => some (.bl false)
  | _ => none
theorem impChZ {r r' : R2} {g g' : D → D → Option D} {l m n : MZ} (hs : OpS X.K r g) (hs' : OpS X.K r' g') (σ : L2.St) (H : Hp) (Q : VK) (h : rdZ X.K B (zChain g g' l m n) σ H Q) : tChain r r' (rdZ X.K B l) (rdZ X.K B m) (rdZ X.K B n) σ H Q := by
  obtain ⟨F, τ, vs, ds, s, d, e, k⟩ := h
  obtain ⟨a, ea, e⟩ := bind_some e
  obtain ⟨b, eb, e⟩ := bind_some e
  obtain ⟨z, ez, e⟩ := bind_some e
  refine ⟨F, τ, vs, ds, s, a, ea, fun x f1 hx => ⟨F, τ, vs, ds, s, b, eb, fun y f2 hy => hs _ _ _ _ _ _ _ _ _ _ _ s.same hx hy ez fun v f hv => ?_⟩⟩
  cases z with
  | bl t =>
    refine ⟨t, hv.1, ?_⟩
    cases t with
    | true =>
      obtain ⟨c, ec, e⟩ := bind_some e
      exact ⟨F, τ, vs, ds, s, c, ec, fun w f3 hw => hs' _ _ _ _ _ _ _ _ _ _ _ s.same hy hw e k⟩
    | false =>
      cases (show some (D.bl false) = some d from e)
      exact k (.bl false) _ (Rep.o (d := .bl false) rfl)
  | _ => cases e
theorem z_chain {op op' : CmpOp} {a b c : Expr} {pos : Pos} {r r' : R2} {g g' : D → D → Option D} {l m n : MZ} (ho : OpR X (compareOp op) r) (hs : OpS X.K r g) (ho' : OpR X (compareOp op') r') (hs' : OpS X.K r' g') (ha : PE X a (rdZ X.K B l)) (hb : PE X b (rdZ X.K B m)) (hc : PE X c (rdZ X.K B n))
    (hm : lastMarks [op, op'] [b, c] = false := by with_unfolding_all rfl) : PE X (.Compare a [op, op'] [b, c] pos) (rdZ X.K B (zChain g g' l m n)) := PE.imp (pe_chain ho ho' ha hb hc hm) (impChZ hs hs')
theorem t_chain {op op' : CmpOp} {a b c : Expr} {pos : Pos} {r r' : R2} {g g' : D → D → Option D} {l m n : MZ} (ho : OpR X (compareOp op) r) (hs : OpS X.K r g) (ho' : OpR X (compareOp op') r') (hs' : OpS X.K r' g') (ha : PE X a (rdZ X.K B l)) (hb : PE X b (rdZ X.K B m)) (hc : PE X c (rdZ X.K B n))
    (hm : lastMarks [op, op'] [b, c] = false := by with_unfolding_all rfl) : PT X (.Compare a [op, op'] [b, c] pos) (rdT X.K B W (tZ (zChain g g' l m n))) := PT.imp (pt_chain ho ho' ha hb hc hm) fun σ H Q h => impChZ hs hs' σ H _ (impTZ σ H Q h)

/-! ### and, or, not, if as values -/
def eAnd (a b : ME) : ME := fun τ => (a τ).bind fun x τ1 => match x with
  | .bl true => b τ1
  | .bl false => .ok (.bl false) τ1
  | _ => .bad
def eOr (a b : ME) : ME := fun τ => (a τ).bind fun x τ1 => match x with
  | .bl false => b τ1
  | .bl true => .ok (.bl true) τ1
  | _ => .bad
def eNot (a : ME) : ME := fun τ => (a τ).bind fun x τ1 => match x with
  | .bl b => .ok (.bl (!b)) τ1
  | _ => .bad
def eIf (c : MT) (a b : ME) : ME := fun τ => (c τ).bind fun x τ1 => if x = true then a τ1 else b τ1
theorem e_one {op : BoolOp} {a : Expr} {pos : Pos} {m : ME} (h : PE X a (rdE X.K B W m)) : PE X (.BoolOp op [a] pos) (rdE X.K B W m) := pe_one h
theorem e_and {a b : Expr} {r : List Expr} {pos : Pos} {m n : ME} (ha : PE X a (rdE X.K B W m)) (hb : PE X (.BoolOp .And (b :: r) pos) (rdE X.K B W n)) : PE X (.BoolOp .And (a :: b :: r) pos) (rdE X.K B W (eAnd m n)) := PE.imp (pe_and ha hb) fun σ H Q h => by
  obtain ⟨F, τ, vs, ds, s, p⟩ := h
  refine ⟨F, τ, vs, ds, s, post_imp (post_bind p) (fun d τ1 q x F1 H1 s1 => ?_) fun _ _ q => q⟩
  cases d with
  | bl b =>
    refine ⟨b, s1.topF rfl, ?_⟩
    cases b with
    | true => exact ⟨F1, τ1, vs, ds, s1.pop, q⟩
    | false => exact q _ F1 H1 (s1.pop.push (d := .bl false) rfl)
  | _ => exact False.elim q
theorem e_or {a b : Expr} {r : List Expr} {pos : Pos} {m n : ME} (ha : PE X a (rdE X.K B W m)) (hb : PE X (.BoolOp .Or (b :: r) pos) (rdE X.K B W n)) : PE X (.BoolOp .Or (a :: b :: r) pos) (rdE X.K B W (eOr m n)) := PE.imp (pe_or ha hb) fun σ H Q h => by
  obtain ⟨F, τ, vs, ds, s, p⟩ := h
  refine ⟨F, τ, vs, ds, s, post_imp (post_bind p) (fun d τ1 q x F1 H1 s1 => ?_) fun _ _ q => q⟩
  cases d with
  | bl b =>
    refine ⟨b, s1.topF rfl, ?_⟩
    cases b with
    | false => exact ⟨F1, τ1, vs, ds, s1.pop, q⟩
    | true => exact q _ F1 H1 (s1.pop.push (d := .bl true) rfl)
  | _ => exact False.elim q
theorem e_not {a : Expr} {pos : Pos} {m : ME} (ha : PE X a (rdE X.K B W m)) : PE X (.UnaryOp .Not a pos) (rdE X.K B W (eNot m)) := PE.imp (pe_not ha) fun σ H Q h => by
  obtain ⟨F, τ, vs, ds, s, p⟩ := h
  refine ⟨F, τ, vs, ds, s, post_imp (post_bind p) (fun d τ1 q x F1 H1 s1 => ?_) fun _ _ q => q⟩
  cases d with
  | bl b => exact ⟨b, s1.topF rfl, q _ F1 H1 (s1.pop.push (d := .bl (!b)) rfl)⟩
  | _ => exact False.elim q
theorem e_if {c a b : Expr} {pos : Pos} {t : MT} {m n : ME} (hc : PT X c (rdT X.K B W t)) (ha : PE X a (rdE X.K B W m)) (hb : PE X b (rdE X.K B W n)) : PE X (.IfExp c a b pos) (rdE X.K B W (eIf t m n)) := PE.imp (pe_ifExp hc ha hb) fun σ H Q h => by
  obtain ⟨F, τ, vs, ds, s, p⟩ := h
  refine ⟨F, τ, vs, ds, s, post_imp (post_bind p) (fun b τ1 q F1 H1 s1 => ?_) fun _ _ q => q⟩
  cases b with
  | true => exact ⟨F1, τ1, vs, ds, s1, q⟩
  | false => exact ⟨F1, τ1, vs, ds, s1, q⟩

/-! ### argument lists -/
def aNil : MA := fun τ => .ok [] τ
def aCons (m : ME) (n : MA) : MA := fun τ => (m τ).bind fun d τ1 => (n τ1).bind fun ds τ2 => .ok (d :: ds) τ2
theorem a_nil : PA X [] (rdA X.K B W aNil) := PA.imp pa_nil fun σ H Q ⟨F, τ, vs, ds, s, p⟩ => p [] F H rfl s
theorem a_cons {e : Expr} {es : List Expr} {m : ME} {n : MA} (ha : PE X e (rdE X.K B W m)) (hr : PA X es (rdA X.K B W n)) (hs : starEach (e :: es) X.env = (false, eval e X.env) :: starEach es X.env := by rfl) : PA X (e :: es) (rdA X.K B W (aCons m n)) := PA.imp (pa_cons ha hr hs) fun σ H Q h => by
  obtain ⟨F, τ, vs, ds, s, p⟩ := h
  refine ⟨F, τ, vs, ds, s, post_imp (post_bind p) (fun a τ1 q x F1 H1 s1 => ⟨F1, τ1, _, _, s1, post_imp (post_bind q) (fun es τ2 q us F2 H2 hl s2 => ?_) fun c τ2 q F2 H2 s2 => q F2 H2 s2.pop⟩) fun _ _ q => q⟩
  exact q (x :: us) F2 H2 (by rw [List.length_cons, List.length_cons, hl]) (s2.swap hl)
/-- with values that are only looked at -/
def rdZA (K : PySem.W.Frag) (B : Bx) (m : Env → Option (List D)) : TA := fun σ H Q => ∃ F τ vs ds, StT K B F H σ τ vs ds ∧ ∃ es, m τ = some es ∧ ∀ us f, RepOs K B.ca F H es us f → Q us H
def zaNil : Env → Option (List D) := fun _ => some []
def zaCons (m : MZ) (n : Env → Option (List D)) : Env → Option (List D) := fun τ => (m τ).bind fun d => (n τ).bind fun ds => some (d :: ds)
theorem za_nil : PA X [] (rdZA X.K B zaNil) := PA.imp pa_nil fun σ H Q ⟨F, τ, vs, ds, s, es, e, k⟩ => by
  cases (show some [] = some es from e)
  exact k [] (fun _ => 0) ⟨rfl, fun _ => rfl⟩
theorem za_cons {e : Expr} {es : List Expr} {m : MZ} {n : Env → Option (List D)} (ha : PE X e (rdZ X.K B m)) (hr : PA X es (rdZA X.K B n)) (hs : starEach (e :: es) X.env = (false, eval e X.env) :: starEach es X.env := by rfl) : PA X (e :: es) (rdZA X.K B (zaCons m n)) := PA.imp (pa_cons ha hr hs) fun σ H Q h => by
  obtain ⟨F, τ, vs, ds, s, es, e, k⟩ := h
  obtain ⟨a, ea, e⟩ := bind_some e
  obtain ⟨bs, eb, e⟩ := bind_some e
  cases (show some (a :: bs) = some es from e)
  exact ⟨F, τ, vs, ds, s, a, ea, fun x f1 hx => ⟨F, τ, vs, ds, s, bs, eb, fun us f2 hu => k (x :: us) (fun b => f1 b + f2 b) ⟨x, us, f1, f2, rfl, hx, hu, fun _ => rfl⟩⟩⟩
def zC' (g : List D → Option D) (m : Env → Option (List D)) : MZ := fun τ => (m τ).bind g
theorem impCZ {r : List V → Hp → VK → Prop} {g : List D → Option D} {m : Env → Option (List D)} (hs : CallS X.K r g) (σ : L2.St) (H : Hp) (Q : VK) (h : rdZ X.K B (zC' g m) σ H Q) : tCB r (rdZA X.K B m) σ H Q := by
  obtain ⟨F, τ, vs, ds, s, d, e, k⟩ := h
  obtain ⟨a, ea, e⟩ := bind_some e
  exact ⟨F, τ, vs, ds, s, a, ea, fun us f hu => hs _ _ _ _ _ _ _ _ s.same hu e k⟩
theorem impCE {r : List V → Hp → VK → Prop} {g : List D → Option D} {m : MA} (hs : CallS X.K r g) (σ : L2.St) (H : Hp) (Q : VK) (h : rdE X.K B W (eC g m) σ H Q) : tCB r (rdA X.K B W m) σ H Q := by
  obtain ⟨F, τ, vs, ds, s, p⟩ := h
  refine ⟨F, τ, vs, ds, s, post_imp (post_bind p) (fun es τ1 q us F1 H1 hl s1 => ?_) fun _ _ q => q⟩
  obtain ⟨d, e, z, q⟩ := post_ofO q
  obtain ⟨f1, hu⟩ := s1.tops hl
  exact hs _ _ _ _ _ _ _ _ s1.same hu e fun v f hv => q v F1 H1 ((s1.pops hl).push ((repO_fz z).mp hv).1)
section
variable {x : Str} {p pos : Pos} {e : Expr} {es : List Expr} {id T : String} {r : List V → Hp → VK → Prop} {g : List D → Option D}
theorem z_callB {m : Env → Option (List D)} (hc : CallR X (.builtin id) r) (hs : CallS X.K r g) (hg : Gl X x) (hm : X.mg x = none) (hv : bootBuiltins x = some (.builtin id)) (ha : PA X (e :: es) (rdZA X.K B m)) (hn : x ≠ "__name__" := by decide) (hdb : (x == ("__debug__" : Str)) = false := by decide)
    (he : starEach (e :: es) X.env = (false, eval e X.env) :: starEach es X.env := by rfl) (hpl : (backTo pos (starEach es X.env)).any (·.1) = false := by rfl) : PE X (.Call (.Name x p) (e :: es) [] pos) (rdZ X.K B (zC' g m)) := PE.imp (pe_callB hc hg hm hv ha hn hdb he hpl) (impCZ hs)
theorem e_callB {m : MA} (hc : CallR X (.builtin id) r) (hs : CallS X.K r g) (hg : Gl X x) (hm : X.mg x = none) (hv : bootBuiltins x = some (.builtin id)) (ha : PA X (e :: es) (rdA X.K B W m)) (hn : x ≠ "__name__" := by decide) (hdb : (x == ("__debug__" : Str)) = false := by decide)
    (he : starEach (e :: es) X.env = (false, eval e X.env) :: starEach es X.env := by rfl) (hpl : (backTo pos (starEach es X.env)).any (·.1) = false := by rfl) : PE X (.Call (.Name x p) (e :: es) [] pos) (rdE X.K B W (eC g m)) := PE.imp (pe_callB hc hg hm hv ha hn hdb he hpl) (impCE hs)
theorem e_callTy {m : MA} (hc : CallR X (.type T) r) (hs : CallS X.K r g) (hg : Gl X x) (hm : X.mg x = none) (hv : bootBuiltins x = some (.type T)) (ha : PA X (e :: es) (rdA X.K B W m)) (hn : x ≠ "__name__" := by decide) (hdb : (x == ("__debug__" : Str)) = false := by decide)
    (he : starEach (e :: es) X.env = (false, eval e X.env) :: starEach es X.env := by rfl) (hpl : (backTo pos (starEach es X.env)).any (·.1) = false := by rfl) : PE X (.Call (.Name x p) (e :: es) [] pos) (rdE X.K B W (eC g m)) := PE.imp (pe_callTy hc hg hm hv ha hn hdb he hpl) (impCE hs)
end

/-! ### displays -/
def eTup (m : MA) : ME := fun τ => (m τ).bind fun ds τ1 => if ds.length ≤ 1000000 then .ok (.tup (freezeL ds)) τ1 else .bad
def eLst (m : MA) : ME := fun τ => (m τ).bind fun ds τ1 => if ds.length ≤ 1000000 then .ok (.lst true ds) τ1 else .bad
theorem le_sizeLine {n : Nat} (h : n ≤ 1000000) : n ≤ sizeLine := by rw [sizeLine_eq]; omega
theorem e_tup {es : List Expr} {k : Nat} {pos : Pos} {m : MA} (h : PA X es (rdA X.K B W m)) : PE X (.Tuple es k pos) (rdE X.K B W (eTup m)) := PE.imp (pe_tup h) fun σ H Q h => by
  obtain ⟨F, τ, vs, ds, s, p⟩ := h
  refine ⟨F, τ, vs, ds, s, post_imp (post_bind p) (fun es τ1 q us F1 H1 hl s1 => ?_) fun _ _ q => q⟩
  by_cases z : es.length ≤ 1000000
  · simp only [z, if_true] at q
    refine ⟨le_sizeLine (hl ▸ z), fun p hp => ?_⟩
    obtain ⟨F2, sm, rl, s2⟩ := s1.freeze hl
    exact q _ _ _ (s2.newTup hp rl)
  · simp only [z] at q; exact False.elim q
theorem e_lst {es : List Expr} {pos : Pos} {m : MA} (h : PA X es (rdA X.K B W m)) : PE X (.List es pos) (rdE X.K B W (eLst m)) := PE.imp (pe_lst h) fun σ H Q h => by
  obtain ⟨F, τ, vs, ds, s, p⟩ := h
  refine ⟨F, τ, vs, ds, s, post_imp (post_bind p) (fun es τ1 q us F1 H1 hl s1 => ?_) fun _ _ q => q⟩
  by_cases z : es.length ≤ 1000000
  · simp only [z, if_true] at q
    exact ⟨le_sizeLine (hl ▸ z), fun p hp => q _ _ _ (s1.newLst hl hp)⟩
  · simp only [z] at q; exact False.elim q
end
end Bn

/-! Calls, statements, loops, try, comprehensions; a def by its function. -/
namespace Bn
open PySem PySem.Spec PyProof.Rows L2

structure XOk (X : Cx) (W : WX) : Prop where
  tk : Takes X W
  hp : PassesOwn (model X.prog X.w) X.A X.env X.xe
  calm : X.calm = true
abbrev W0 : WX := fun _ _ _ _ => False

/-! ### calls -/
def spP (K : PySem.W.Frag) (ca : Str → Addr) (g : List D → CR) : Sp := fun vs H Q E => ∃ F ds, Same F H ∧ RepL K ca F ds vs ∧
  match g ds with
  | .ok d => ∀ v F' H' f, Same F F' → Same F' H' → Same H H' → RepO K ca F' H' d v f → (∀ a, f a ≤ 1) → (∀ a, 0 < f a → F' a = none ∧ H a = none) → (∀ a, F' a ≠ none → F a ≠ none ∨ H a = none) → Q v H'
  | .ex c => ∀ H', Same H H' → E (.ref (ca c)) none H'
  | .bad => False
structure Fo (P : Program) (w : World) (K : PySem.W.Frag) (mg : Str → Option Value) (base : Heap) (ca : Str → Addr) (k : Nat) (x : Str) (g : List D → CR) : Prop where
  ex : ∃ f fd ps, mg x = some (.ref f) ∧ PySem.W.keepIn K (.ref f) = true ∧ Binds K fd ps [] ∧ FnOk P w K mg base (L2.CX P w) k f fd ps (spP K ca g)
def ofC (r : CR) (τ : Env) : R D := match r with
  | .ok d => .ok d τ
  | .ex c => .ex c τ
  | .bad => .bad
def eCall (g : List D → CR) (m : MA) : ME := fun τ => (m τ).bind fun ds τ1 => ofC (g (freezeL ds)) τ1
def eCall0 (g : List D → CR) : ME := fun τ => match g [] with
  | .ok d => .ok d τ
  | _ => .bad
section
variable {X : Cx} {B : Bx} {W : WX}
theorem e_call {x : Str} {p pos : Pos} {e : Expr} {es : List Expr} {m : MA} {g : List D → CR} {k j : Nat} (c : XOk X W) (G : Fo X.prog X.w X.K X.mg X.base B.ca k x g) (hr : Room j X.A) (hg : Gl X x) (ha : PA X (e :: es) (rdA X.K B W m)) (hk : k ≤ j := by decide) (hdb : (x == ("__debug__" : Str)) = false := by decide)
    (he : starEach (e :: es) X.env = (false, eval e X.env) :: starEach es X.env := by rfl) (hpl : (backTo pos (starEach es X.env)).any (·.1) = false := by rfl) : PE X (.Call (.Name x p) (e :: es) [] pos) (rdE X.K B W (eCall g m)) := by
  obtain ⟨f, fd, ps, h1, h2, h3, h4⟩ := G.ex
  refine PE.imp (pe_callS h4 (hr.mono hk) hg h1 h2 h3 (fun σ => passAt c.tk σ) ha hdb he hpl) fun σ H Q h => ?_
  obtain ⟨F, τ, vs, ds, s, p⟩ := h
  refine ⟨F, τ, vs, ds, s, post_imp (post_bind p) (fun as τ1 q us F1 H1 hl s1 => ?_) fun _ _ q => q⟩
  obtain ⟨F2, sm, rl, s2⟩ := s1.freeze hl
  refine ⟨F2, freezeL as, s2.same, rl, ?_⟩
  cases eg : g (freezeL as) with
  | ok d => rw [eg] at q; exact fun v F' H' f k1 k2 k3 k4 k5 k6 k7 => q v F' H' (s2.called k1 k2 k3 k4 k5 k6 k7)
  | ex c => rw [eg] at q; exact fun H' k1 => q F2 H' (s2.grown k1)
  | bad => rw [eg] at q; exact q
theorem e_call0 {x : Str} {p pos : Pos} {g : List D → CR} {k j : Nat} (G : Fo X.prog X.w X.K X.mg X.base B.ca k x g) (hr : Room j X.A) (hg : Gl X x) (hk : k ≤ j := by decide) (hdb : (x == ("__debug__" : Str)) = false := by decide) :
    PE X (.Call (.Name x p) [] [] pos) (rdE X.K B W (eCall0 g)) := by
  obtain ⟨f, fd, ps, h1, h2, h3, h4⟩ := G.ex
  refine PE.imp (pe_call0 h4 (hr.mono hk) hg h1 h2 h3 .nil passL hdb) fun σ H Q h => ?_
  obtain ⟨F, τ, vs, ds, s, p⟩ := h
  refine ⟨F, [], s.same, rfl, ?_⟩
  unfold eCall0 at p
  cases eg : g [] with
  | ok d => rw [eg] at p; exact fun v F' H' f k1 k2 k3 k4 k5 k6 k7 => p v F' H' (s.called k1 k2 k3 k4 k5 k6 k7)
  | ex c => rw [eg] at p; exact p.elim
  | bad => rw [eg] at p; exact p

/-! ### statements -/
def R.s {α : Type} : R α → (α → Env → SR) → SR
  | .ok a τ, k => k a τ
  | .ex c τ, _ => .ex c τ
  | .bad, _ => .bad
theorem post_s {α : Type} {K : PySem.W.Frag} {vs : List V} {ds : List D} {D' : Ends} {r : R α} {k : α → Env → SR} {σ : L2.St} (h : postS K B W vs ds D' (r.s k)) : post (fun a τ => postS K B W vs ds D' (k a τ)) (exW K B W σ vs ds) r := by
  cases r with
  | ok a τ => exact h
  | ex c τ => exact fun F H s => h σ F H s
  | bad => exact h
def sSeq (s r : MS) : MS := fun τ => match s τ with
  | .nx τ' => r τ'
  | .rt d τ' => .rt d τ'
  | .bk τ' => .bk τ'
  | .ct τ' => .ct τ'
  | .ex c τ' => .ex c τ'
  | .bad => .bad
def sNil : MS := fun τ => .nx τ
theorem s_nil : PSs X [] (rdS X.K B W sNil) := PSs.imp pss_nil fun D σ H ⟨F, τ, vs, ds, s, p⟩ => p σ F H s
theorem s_one {st : Stmt} {m : MS} (h : PS X st (rdS X.K B W m)) : PSs X [st] (rdS X.K B W m) := pss_one h
theorem s_cons {st : Stmt} {r : List Stmt} {m n : MS} (h : PS X st (rdS X.K B W m)) (hr : PSs X r (rdS X.K B W n)) : PSs X (st :: r) (rdS X.K B W (sSeq m n)) := PSs.imp (pss_cons h hr) fun D σ H ⟨F, τ, vs, ds, s, p⟩ => by
  refine ⟨F, τ, vs, ds, s, ?_⟩
  unfold sSeq at p
  cases e : m τ with
  | nx τ' => rw [e] at p; exact fun σ' F' H' s' => ⟨F', τ', vs, ds, s', p⟩
  | _ => rw [e] at p; exact p
def sRet (m : ME) : MS := fun τ => (m τ).s fun d τ1 => .rt d τ1
theorem s_ret {e : Expr} {pos : Pos} {m : ME} (h : PE X e (rdE X.K B W m)) : PS X (.Return (some e) pos) (rdS X.K B W (sRet m)) := PS.imp (ps_ret h) fun D σ H ⟨F, τ, vs, ds, s, p⟩ =>
  ⟨F, τ, vs, ds, s, post_imp (post_s (σ := σ) p) (fun d τ1 q v F1 H1 s1 => q v σ F1 H1 s1) fun _ _ q => q⟩
def sRetN : MS := fun τ => .rt .non τ
theorem s_retN {pos : Pos} : PS X (.Return none pos) (rdS X.K B W sRetN) := PS.imp ps_retN fun D σ H ⟨F, τ, vs, ds, s, p⟩ => p .non σ F H (s.push (d := .non) rfl)
def sDrop (m : ME) : MS := fun τ => (m τ).s fun _ τ1 => .nx τ1
theorem s_expr {e : Expr} {pos : Pos} {m : ME} (h : PE X e (rdE X.K B W m)) (hs : swapsWith e none pos.line X.env = pure false := by rfl) : PS X (.Expr e pos) (rdS X.K B W (sDrop m)) := PS.imp (ps_expr h hs) fun D σ H ⟨F, τ, vs, ds, s, p⟩ =>
  ⟨F, τ, vs, ds, s, post_imp (post_s (σ := σ) p) (fun d τ1 q v F1 H1 s1 => q σ F1 H1 s1.pop) fun _ _ q => q⟩
theorem s_doc {x j pos pos'} : PS X (.Expr (.Constant (.str x) j pos) pos') (rdS X.K B W sNil) := PS.imp ps_doc fun D σ H ⟨F, τ, vs, ds, s, p⟩ => p σ F H s
theorem s_pass {pos : Pos} : PS X (.Pass pos) (rdS X.K B W sNil) := PS.imp ps_pass fun D σ H ⟨F, τ, vs, ds, s, p⟩ => p σ F H s
def sBk : MS := fun τ => .bk τ
def sCt : MS := fun τ => .ct τ
theorem s_break {pos : Pos} : PS X (.Break pos) (rdS X.K B W sBk) := PS.imp ps_break fun D σ H ⟨F, τ, vs, ds, s, p⟩ => p σ F H s
theorem s_continue {pos : Pos} : PS X (.Continue pos) (rdS X.K B W sCt) := PS.imp ps_continue fun D σ H ⟨F, τ, vs, ds, s, p⟩ => p σ F H s
def sIf (c : MT) (a b : MS) : MS := fun τ => (c τ).s fun x τ1 => if x = true then a τ1 else b τ1
theorem s_if {c : Expr} {a b : List Stmt} {pos : Pos} {t : MT} {m n : MS} (hc : PT X c (rdT X.K B W t)) (ha : PSs X a (rdS X.K B W m)) (hb : PSs X b (rdS X.K B W n)) : PS X (.If c a b pos) (rdS X.K B W (sIf t m n)) := PS.imp (ps_if hc ha hb) fun D σ H ⟨F, τ, vs, ds, s, p⟩ => by
  refine ⟨F, τ, vs, ds, s, post_imp (post_s (σ := σ) p) (fun x τ1 q F1 H1 s1 => ?_) fun _ _ q => q⟩
  cases x with
  | true => exact ⟨F1, τ1, vs, ds, s1, q⟩
  | false => exact ⟨F1, τ1, vs, ds, s1, q⟩

/-! ### targets -/
def gN (i : Nat) : D → Env → Option Env := fun d τ => some (τ.set i (some d))
theorem StT.put' {K : PySem.W.Frag} {F H : Hp} {σ : L2.St} {τ : Env} {vs : List V} {ds : List D} {v : V} {d : D} {i : Nat} (s : StT K B F H σ τ (v :: vs) (d :: ds)) (hf : ioFree B i) : StT K B F H (σ.set i (some v)) (τ.set i (some d)) vs ds := by
  by_cases h : i < τ.length
  · exact s.put h hf
  · have hl : σ.length = τ.length := by obtain ⟨f1, f2, a, _⟩ := s; exact a.length
    rw [List.set_eq_of_length_le (by omega), List.set_eq_of_length_le (by omega)]
    exact s.pop
theorem g_name {i : Nat} {x : Str} {pos : Pos} (hN : X.N.Nodup) (hi : X.N[i]? = some x) (hx : Loc X.env.scope x) (hio : ioFree B i := by intro p hp; cases hp) (hf : X.fn x = true ∨ X.env.scope.names.lookup x = some .local := by first | exact .inl rfl | exact .inr rfl | assumption) : PG X (.Name x pos) (rdG X.K B [i] (gN i)) :=
  PG.imp (pg_name hN hi hx hf) fun v σ H Q ⟨F, τ, vs, ds, d, s, τ', e, k⟩ => by
    cases (show some (τ.set i (some d)) = some τ' from e)
    refine k _ F H (s.put' hio) (by rw [List.length_set]) fun j hj => ?_
    rw [List.getElem?_set_ne]
    exact fun e => hj (by simp [e])
def gNil' : List D → Env → Option Env := fun ds τ => match ds with
  | [] => some τ
  | _ => none
def gCons' (g : D → Env → Option Env) (h : List D → Env → Option Env) : List D → Env → Option Env := fun ds τ => match ds with
  | d :: r => (g d τ).bind (h r)
  | [] => none
def gT (n : Nat) (g : List D → Env → Option Env) : D → Env → Option Env := fun d τ => match d with
  | .tup es => if es.length = n then g es τ else none
  | _ => none
theorem gs_nil : PGs X [] (rdGs X.K B [] gNil') := PGs.imp pgs_nil fun ws σ H Q ⟨F, τ, vs, ds, es, hl, s, τ', e, k⟩ => by
  cases es with
  | nil =>
    cases (show some τ = some τ' from e)
    have : ws = [] := List.eq_nil_of_length_eq_zero hl
    subst this
    exact ⟨rfl, k σ F H s rfl fun _ _ => rfl⟩
  | cons a b => cases e
theorem gs_cons {e : Expr} {es : List Expr} {sl sl' : List Nat} {g : D → Env → Option Env} {h : List D → Env → Option Env} (h1 : PG X e (rdG X.K B sl g)) (h2 : PGs X es (rdGs X.K B sl' h))
    (hs : (assignEach (e :: es) X.env).map (·.2) = assign e X.env :: (assignEach es X.env).map (·.2) := by rfl) : PGs X (e :: es) (rdGs X.K B (sl ++ sl') (gCons' g h)) := PGs.imp (pgs_cons h1 h2 hs) fun ws σ H Q ⟨F, τ, vs, ds, es, hl, s, τ', e, k⟩ => by
  cases es with
  | nil => cases e
  | cons d r =>
    obtain ⟨τ1, e1, e⟩ := bind_some e
    cases ws with
    | nil => cases hl
    | cons v ws =>
      refine ⟨v, ws, rfl, F, τ, ws ++ vs, r ++ ds, d, s, τ1, e1, fun σ1 F1 H1 s1 l1 k1 => ⟨F1, τ1, vs, ds, r, by simpa using hl, s1, τ', e, fun σ2 F2 H2 s2 l2 k2 => k σ2 F2 H2 s2 (l2.trans l1) fun j hj => ?_⟩⟩
      rw [k2 j fun z => hj (List.mem_append_right _ z), k1 j fun z => hj (List.mem_append_left _ z)]
theorem g_tup {es : List Expr} {k : Nat} {pos : Pos} {sl : List Nat} {g : List D → Env → Option Env} {n : Nat} (hc : X.calm = true) (h : PGs X es (rdGs X.K B sl g)) (hn : (assignEach es X.env).length = n := by rfl) (hst : (assignEach es X.env).findIdx? (·.1) = none := by rfl) : PG X (.Tuple es k pos) (rdG X.K B sl (gT n g)) :=
  PG.imp (pg_tup hc h hn hst) fun v σ H Q ⟨F, τ, vs, ds, d, s, τ', e, k⟩ => by
    cases d with
    | tup xs =>
      obtain ⟨a, us, e1, h1, h2⟩ := s.topF rfl
      subst e1
      by_cases hl : xs.length = n
      · have e' : g xs τ = some τ' := by
          have e' : (if xs.length = n then g xs τ else none) = some τ' := e
          rw [if_pos hl] at e'; exact e'
        have hul := h2.length
        refine ⟨a, us, rfl, sqT_same s.same h1, hul.trans hl, F, τ, vs, ds, xs, hul, ?_, τ', e', k⟩
        obtain ⟨f1, f2, A, b, w, io⟩ := s.pop
        have b2 := (h2.os (H := H)).append b
        have e3 : (fun b => 0 + f2 b) = f2 := funext fun b => by omega
        rw [e3] at b2
        exact ⟨f1, f2, A, b2, w, io⟩
      · have e' : (if xs.length = n then g xs τ else none) = some τ' := e
        rw [if_neg hl] at e'; cases e'
    | _ => cases e
def sAsg (m : ME) (g : D → Env → Option Env) : MS := fun τ => (m τ).s fun d τ1 => match g d τ1 with
  | some τ2 => .nx τ2
  | none => .bad
theorem impAsg {m : ME} {sl : List Nat} {g : D → Env → Option Env} {D' : Ends} {σ : L2.St} {H : Hp} (h : rdS X.K B W (sAsg m g) D' σ H) : tAsg (rdE X.K B W m) (rdG X.K B sl g) D' σ H := by
  obtain ⟨F, τ, vs, ds, s, p⟩ := h
  refine ⟨F, τ, vs, ds, s, post_imp (post_s (σ := σ) p) (fun d τ1 q v F1 H1 s1 => ?_) fun _ _ q => q⟩
  cases e : g d τ1 with
  | none => simp only [e] at q; exact q.elim
  | some τ2 => simp only [e] at q; exact ⟨F1, τ1, vs, ds, d, s1, τ2, e, fun σ' F' H' s' _ _ => q σ' F' H' s'⟩
theorem s_asg {tg e : Expr} {pos : Pos} {m : ME} {sl : List Nat} {g : D → Env → Option Env} (he : PE X e (rdE X.K B W m)) (hg : PG X tg (rdG X.K B sl g)) (hs : swapsWithSole [tg] e pos.line X.env = pure false := by rfl) (hw : swappedStores [tg] e X.env = pure none := by rfl)
    (h1 : (assignEach [tg] X.env).map (·.2) = [assign tg X.env] := by rfl) : PS X (.Assign [tg] e pos) (rdS X.K B W (sAsg m g)) := PS.imp (ps_asg he hg hs hw h1) fun D σ H h => impAsg h
theorem s_set {i : Nat} {x : Str} {e : Expr} {pos pos' : Pos} {m : ME} (hN : X.N.Nodup) (hi : X.N[i]? = some x) (hx : Loc X.env.scope x) (he : PE X e (rdE X.K B W m)) (hio : ioFree B i := by intro p hp; cases hp) (hs : swapsWith e (some (.Name x pos')) pos.line X.env = pure false := by rfl)
    (hf : X.fn x = true ∨ X.env.scope.names.lookup x = some .local := by first | exact .inl rfl | exact .inr rfl | assumption) : PS X (.Assign [.Name x pos'] e pos) (rdS X.K B W (sAsg m (gN i))) := PS.imp (ps_set hN hi hx he hs hf) fun D σ H ⟨F, τ, vs, ds, s, p⟩ =>
  ⟨F, τ, vs, ds, s, post_imp (post_s (σ := σ) p) (fun d τ1 q v F1 H1 s1 => q _ F1 H1 (s1.put' hio)) fun _ _ q => q⟩

/-! ### raise, try -/
structure Ec (K : PySem.W.Frag) (mg : Str → Option Value) (ca : Str → Addr) (x : Str) : Prop where
  g : mg x = some (.ref (ca x))
  k : PySem.W.keepIn K (.ref (ca x)) = true
  q : PySem.W.excIn K (ca x) [.type "ValueError", .type "Exception", .type "BaseException", .type "object"] "ValueError.__new__" = true
  b : PySem.W.subIn K (.ref (ca x)) (.type "BaseException") = some true
  t : PySem.W.typeIn K (.ref (ca x)) = some (.type "type")
def sRaise (x : Str) : MS := fun τ => .ex x τ
theorem s_raise {x m : Str} {j} {p p2 pos1 pos : Pos} (c : XOk X W) (E : Ec X.K X.mg B.ca x) (hg : Gl X x) (hdb : (x == ("__debug__" : Str)) = false := by decide) : PS X (.Raise (some (.Call (.Name x p) [.Constant (.str m) j p2] [] pos1)) none pos) (rdS X.K B W (sRaise x)) :=
  PS.imp (ps_raise c.calm c.tk (pmk_own PySem.F.excBase_ValueError E.q E.g E.k (raises_own E.b E.t) hg hdb)) fun D σ H ⟨F, τ, vs, ds, s, p⟩ => p σ F H s
def noEx (r : SR) : SR := match r with
  | .ex _ _ => .bad
  | r => r
def sTry (sub : Str → Option Bool) (b su : MS) : MS := fun τ => match b τ with
  | .ex c τ' => (match sub c with
    | some true => noEx (su τ')
    | some false => .ex c τ'
    | none => .bad)
  | .nx τ' => .nx τ'
  | .rt d τ' => .rt d τ'
  | .bk τ' => .bk τ'
  | .ct τ' => .ct τ'
  | .bad => .bad
theorem s_try {x : Str} {cv : Value} {body suite : List Stmt} {b₀ : Stmt} {np pos pos' : Pos} {b su : MS} (c : XOk X W) (sub : Str → Option Bool) (hn : Names X x cv) (hsub : ∀ y t, sub y = some t → PySem.W.exmOne X.K (.ref (B.ca y)) cv = some t) (hs : X.stack = X.env :: X.outer) (hf : X.env.frame = some X.env.locals)
    (hb : ∀ (W' : WX) (pn : List (Addr × Obj)) (xe : Value → Shared → Prop), XOk (X.tr pn xe) W' → PSs (X.tr pn xe) body (rdS X.K B W' b))
    (hsu : ∀ (a : Addr) (oe : Obj) (cls : Value) (d : Option Addr) (pn : List (Addr × Obj)), PSs (X.suite a ((a, oe) :: pn)) (b₀ :: suite) (rdS X.K B W0 su)) :
    PS X (.Try body [.ExceptHandler (some (.Name x np)) none (b₀ :: suite) pos'] [] [] pos) (rdS X.K B W (sTry sub b su)) :=
  PS.imp (ps_try_only (tb := fun W' => rdS X.K B W' b) (ts := fun _ _ _ => rdS X.K B W0 su) hs hf hn c.tk (fun W' pn xe tk hp => hb W' pn xe ⟨tk, hp, c.calm⟩) fun a oe cls d pn _ _ => hsu a oe cls d pn) fun D σ H ⟨F, τ, vs, ds, s, p⟩ => by
    refine ⟨F, τ, vs, ds, s, ?_⟩
    unfold sTry at p
    cases e : b τ with
    | ex y τ' =>
      rw [e] at p
      intro σ' F' H' s'
      cases es : sub y with
      | none => simp only [es] at p; exact p.elim
      | some t =>
        simp only [es] at p
        refine ⟨t, hsub y t es, fun ht a ha => ?_, fun ht => ?_⟩
        · subst ht
          refine ⟨F', τ', vs, ds, s', ?_⟩
          cases e2 : su τ' with
          | ex y2 τ2 => simp only [e2] at p; exact False.elim p
          | _ => simp only [e2] at p; exact p
        · subst ht; exact p σ' F' H' s'
    | _ => rw [e] at p; exact p

/-! ### what is walked -/
theorem sqOf {K : PySem.W.Frag} {H : Hp} {a : Addr} {xs : List V} (h : H a = some (.lst xs)) : SqL K H a xs := .inl (.inl h)
structure ItOk (K : PySem.W.Frag) (B : Bx) (J : It) (items : List D) (tv : List V) (td : List D) : Prop where
  go : ∀ i F H σ τ, StT K B F H σ τ tv td → i < items.length → J.go i H
  st : ∀ F H σ τ, StT K B F H σ τ tv td → J.stop items.length H
  y : ∀ i d F H σ τ x H' us es, us.length = es.length → items[i]? = some d → StT K B F H σ τ (us ++ tv) (es ++ td) → J.yld i H x H' → ∃ F', StT K B F' H' σ τ (x :: (us ++ tv)) (d :: (es ++ td))
def rdI (K : PySem.W.Frag) (B : Bx) (W : WX) (m : MA) : TI := fun σ H R => ∃ F τ vs ds, StT K B F H σ τ vs ds ∧ post (fun items τ1 => ∀ J us es F' H', us.length = es.length → StT K B F' H' σ τ1 (us ++ vs) (es ++ ds) → ItOk K B J items (us ++ vs) (es ++ ds) → R J H') (exW K B W σ vs ds) (m τ)
theorem PI.imp {tg it : Expr} {t t' : TI} (h : PI X tg it t) (k : ∀ σ H R, t' σ H R → t σ H R) : PI X tg it t' := ⟨fun p s σ H R I q => h.run p s σ H R I (k _ _ _ q)⟩
def iL (m : ME) : MA := fun τ => (m τ).bind fun d τ1 => match freeze d with
  | .lst _ es => .ok es τ1
  | _ => .bad
theorem freeze_fz : ∀ d : D, isFz (freeze d) = true
  | .lst true _ => rfl | .lst false _ => rfl | .obj true _ _ _ => rfl | .obj false _ _ _ => rfl
  | .non => rfl | .bl _ => rfl | .int _ => rfl | .str _ => rfl | .ty _ => rfl | .tup _ => rfl | .cst _ => rfl
theorem StT.freeze1 {K : PySem.W.Frag} {F H : Hp} {σ : L2.St} {τ : Env} {vs : List V} {ds : List D} {v : V} {d : D} (s : StT K B F H σ τ (v :: vs) (d :: ds)) : ∃ F', StT K B F' H σ τ (v :: vs) (Bn.freeze d :: ds) := by
  obtain ⟨F2, sm, ⟨_, _, e2, r, _⟩, s2⟩ := StT.freeze (us := [v]) (es := [d]) s rfl
  cases e2
  exact ⟨F2, s2.push r⟩
theorem itOk_list {K : PySem.W.Frag} {a : Addr} {es : List D} {vs : List V} {ds : List D} : ItOk K B (Itl K a) es (.ref a :: vs) (.lst false es :: ds) := by
  have look : ∀ {F H σ τ}, StT K B F H σ τ (.ref a :: vs) (.lst false es :: ds) → ∃ us, SqL K H a us ∧ RepL K B.ca F es us := fun {F H σ τ} s => by
    obtain ⟨a', us, e, h1, h2⟩ := s.topF rfl
    cases e
    exact ⟨us, sqOf (s.same _ _ h1), h2⟩
  refine ⟨fun i F H σ τ s hi => ?_, fun F H σ τ s => ?_, fun i d F H σ τ x H' us' es' hl hd s y => ?_⟩
  · obtain ⟨us, h1, h2⟩ := look s
    exact ⟨us, us[i]'(by rw [h2.length]; exact hi), h1, by simp [h2.length, hi]⟩
  · obtain ⟨us, h1, h2⟩ := look s
    exact ⟨us, h1, by rw [h2.length]; exact Nat.le_refl _⟩
  · obtain ⟨rfl, y⟩ := y
    obtain ⟨us, h1, h2⟩ := look (s.pops hl)
    obtain ⟨v, e, r⟩ := h2.get hd
    rw [y us h1] at e; cases e
    exact ⟨F, s.push r⟩
theorem itOk_tup {K : PySem.W.Frag} {a : Addr} {es : List D} {vs : List V} {ds : List D} : ItOk K B (Itt K a) es (.ref a :: vs) (.tup es :: ds) := by
  have look : ∀ {F H σ τ}, StT K B F H σ τ (.ref a :: vs) (.tup es :: ds) → ∃ us, SqT K H a us ∧ RepL K B.ca F es us := fun {F H σ τ} s => by
    obtain ⟨a', us, e, h1, h2⟩ := s.topF rfl
    cases e
    exact ⟨us, sqT_same s.same h1, h2⟩
  refine ⟨fun i F H σ τ s hi => ?_, fun F H σ τ s => ?_, fun i d F H σ τ x H' us' es' hl hd s y => ?_⟩
  · obtain ⟨us, h1, h2⟩ := look s
    exact ⟨us, us[i]'(by rw [h2.length]; exact hi), h1, by simp [h2.length, hi]⟩
  · obtain ⟨us, h1, h2⟩ := look s
    exact ⟨us, h1, by rw [h2.length]; exact Nat.le_refl _⟩
  · obtain ⟨rfl, y⟩ := y
    obtain ⟨us, h1, h2⟩ := look (s.pops hl)
    obtain ⟨v, e, r⟩ := h2.get hd
    rw [y us h1] at e; cases e
    exact ⟨F, s.push r⟩
def enumD : Nat → List D → List D
  | _, [] => []
  | i, d :: ds => .tup [.int (i : Nat), d] :: enumD (i + 1) ds
theorem enumD_len : ∀ (i : Nat) (ds : List D), (enumD i ds).length = ds.length
  | _, [] => rfl
  | i, d :: ds => by show (enumD (i + 1) ds).length + 1 = ds.length + 1; rw [enumD_len]
theorem enumD_get : ∀ (i j : Nat) (ds : List D), (enumD i ds)[j]? = ds[j]?.map fun d => .tup [.int ((i + j : Nat) : Int), d]
  | _, j, [] => by simp [enumD]
  | i, 0, d :: ds => by simp [enumD]
  | i, j + 1, d :: ds => by
    show (enumD (i + 1) ds)[j]? = _
    rw [enumD_get (i + 1) j ds]
    simp [Nat.add_assoc, Nat.add_comm 1 j]
theorem itOk_enum {K : PySem.W.Frag} {a : Addr} {es : List D} {vs : List V} {ds : List D} : ItOk K B (Ite K a) (enumD 0 es) (.ref a :: vs) (.lst false es :: ds) := by
  have look : ∀ {F H σ τ}, StT K B F H σ τ (.ref a :: vs) (.lst false es :: ds) → ∃ us, SqL K H a us ∧ RepL K B.ca F es us := fun {F H σ τ} s => by
    obtain ⟨a', us, e, h1, h2⟩ := s.topF rfl
    cases e
    exact ⟨us, sqOf (s.same _ _ h1), h2⟩
  refine ⟨fun i F H σ τ s hi => ?_, fun F H σ τ s => ?_, fun i d F H σ τ x H' us' es' hl hd s y => ?_⟩
  · obtain ⟨us, h1, h2⟩ := look s
    rw [enumD_len] at hi
    exact ⟨us, us[i]'(by rw [h2.length]; exact hi), h1, by simp [h2.length, hi]⟩
  · obtain ⟨us, h1, h2⟩ := look s
    exact ⟨us, h1, by rw [enumD_len, h2.length]; exact Nat.le_refl _⟩
  · obtain ⟨T, x', rfl, hT, rfl, y⟩ := y
    obtain ⟨us, h1, h2⟩ := look (s.pops hl)
    rw [enumD_get] at hd
    cases e : es[i]? with
    | none => rw [e] at hd; cases hd
    | some d' =>
      rw [e] at hd
      obtain ⟨v, ev, r⟩ := h2.get e
      rw [y us h1] at ev; cases ev
      have hd' : D.tup [.int ((0 + i : Nat) : Int), d'] = d := Option.some.inj hd
      subst hd'
      rw [Nat.zero_add]
      exact ⟨_, s.newTup hT ⟨.int (i : Nat), [x'], rfl, rfl, x', [], rfl, r, rfl⟩⟩
def zipD : List D → List D → List D
  | x :: xs, y :: ys => .tup [x, y] :: zipD xs ys
  | _, _ => []
theorem zipD_len : ∀ xs ys : List D, (zipD xs ys).length = min xs.length ys.length
  | [], ys => by simp [zipD]
  | x :: xs, [] => by simp [zipD]
  | x :: xs, y :: ys => by
    show (zipD xs ys).length + 1 = min (xs.length + 1) (ys.length + 1)
    rw [zipD_len]; omega
theorem zipD_get : ∀ (i : Nat) (xs ys : List D) (d : D), (zipD xs ys)[i]? = some d → ∃ x y, xs[i]? = some x ∧ ys[i]? = some y ∧ d = .tup [x, y]
  | _, [], ys, d, h => by simp [zipD] at h
  | _, x :: xs, [], d, h => by simp [zipD] at h
  | 0, x :: xs, y :: ys, d, h => ⟨x, y, rfl, rfl, (Option.some.inj h).symm⟩
  | i + 1, x :: xs, y :: ys, d, h => by simpa using zipD_get i xs ys d h
theorem itOk_zip {K : PySem.W.Frag} {a b : Addr} {es fs : List D} {vs : List V} {ds : List D} : ItOk K B (Itz K a b) (zipD es fs) (.ref b :: .ref a :: vs) (.lst false fs :: .lst false es :: ds) := by
  have look : ∀ {F H σ τ}, StT K B F H σ τ (.ref b :: .ref a :: vs) (.lst false fs :: .lst false es :: ds) → ∃ us ws, SqL K H a us ∧ RepL K B.ca F es us ∧ SqL K H b ws ∧ RepL K B.ca F fs ws := fun {F H σ τ} s => by
    obtain ⟨a', us, e, h1, h2⟩ := s.topF rfl
    obtain ⟨a'', ws, e', h1', h2'⟩ := s.pop.topF rfl
    cases e; cases e'
    exact ⟨ws, us, sqOf (s.same _ _ h1'), h2', sqOf (s.same _ _ h1), h2⟩
  refine ⟨fun i F H σ τ s hi => ?_, fun F H σ τ s => ?_, fun i d F H σ τ x H' us' es' hl hd s y => ?_⟩
  · obtain ⟨us, ws, h1, h2, h3, h4⟩ := look s
    rw [zipD_len] at hi
    have i1 : i < us.length := by rw [h2.length]; omega
    have i2 : i < ws.length := by rw [h4.length]; omega
    exact ⟨us, ws, us[i], ws[i], h1, h3, by simp [i1], by simp [i2]⟩
  · obtain ⟨us, ws, h1, h2, h3, h4⟩ := look s
    refine ⟨us, ws, h1, h3, ?_⟩
    rw [zipD_len, h2.length, h4.length]; omega
  · obtain ⟨T, x', y', rfl, hT, rfl, y1, y2⟩ := y
    obtain ⟨us, ws, h1, h2, h3, h4⟩ := look (s.pops hl)
    obtain ⟨d1, d2, g1, g2, rfl⟩ := zipD_get i es fs d hd
    obtain ⟨v1, k1, r1⟩ := h2.get g1
    obtain ⟨v2, k2, r2⟩ := h4.get g2
    rw [y1 us h1] at k1; cases k1
    rw [y2 ws h3] at k2; cases k2
    exact ⟨_, s.newTup hT ⟨x', [y'], rfl, r1, y', [], rfl, r2, rfl⟩⟩
theorem itOk_rev {K : PySem.W.Frag} {a : Addr} {es : List D} {vs : List V} {ds : List D} {n : Nat} (hn : n = es.length) : ItOk K B (Itv K a n) es.reverse (.ref a :: vs) (.lst false es :: ds) := by
  subst hn
  have look : ∀ {F H σ τ}, StT K B F H σ τ (.ref a :: vs) (.lst false es :: ds) → ∃ us, SqL K H a us ∧ RepL K B.ca F es us := fun {F H σ τ} s => by
    obtain ⟨a', us, e, h1, h2⟩ := s.topF rfl
    cases e
    exact ⟨us, sqOf (s.same _ _ h1), h2⟩
  refine ⟨fun i F H σ τ s hi => ?_, fun F H σ τ s => ?_, fun i d F H σ τ x H' us' es' hl hd s y => ?_⟩
  · obtain ⟨us, h1, h2⟩ := look s
    rw [List.length_reverse] at hi
    have i2 : es.length - 1 - i < us.length := by rw [h2.length]; omega
    exact ⟨hi, us, us[es.length - 1 - i], h1, by simp [i2]⟩
  · show es.length ≤ es.reverse.length
    rw [List.length_reverse]; exact Nat.le_refl _
  · obtain ⟨rfl, y⟩ := y
    obtain ⟨us, h1, h2⟩ := look (s.pops hl)
    have hi : i < es.length := by
      have := (List.getElem?_eq_some_iff.mp hd).1
      rwa [List.length_reverse] at this
    rw [List.getElem?_reverse hi] at hd
    obtain ⟨v, e, r⟩ := h2.get hd
    rw [y us h1] at e; cases e
    exact ⟨F, s.push r⟩
def rangeD (lo : Int) (n : Nat) : List D := (List.range n).map fun k => D.int (lo + (k : Nat))
theorem itOk_range {K : PySem.W.Frag} {lo : Int} {n : Nat} {vs : List V} {ds : List D} : ItOk K B (Itr lo n) (rangeD lo n) vs ds := by
  refine ⟨fun i F H σ τ s hi => ?_, fun F H σ τ s => ?_, fun i d F H σ τ x H' us' es' hl hd s y => ?_⟩
  · show i < n; simpa [rangeD] using hi
  · show n ≤ (rangeD lo n).length; simp [rangeD]
  · obtain ⟨rfl, rfl⟩ := y
    have hi : i < n := by simpa [rangeD] using (List.getElem?_eq_some_iff.mp hd).1
    have e : d = .int (lo + (i : Nat)) := by
      unfold rangeD at hd
      rw [List.getElem?_map, List.getElem?_range hi] at hd
      exact (Option.some.inj hd).symm
    subst e
    exact ⟨F, s.push (d := .int _) rfl⟩
def strD (s : Str) : List D := s.cps.toList.map fun c => D.str ⟨#[c]⟩
theorem itOk_str {K : PySem.W.Frag} {z : Str} {vs : List V} {ds : List D} : ItOk K B (Its z) (strD z) vs ds := by
  refine ⟨fun i F H σ τ s hi => ?_, fun F H σ τ s => ?_, fun i d F H σ τ x H' us' es' hl hd s y => ?_⟩
  · show i < z.cps.size; simpa [strD] using hi
  · show z.cps.size ≤ (strD z).length; simp [strD]
  · obtain ⟨rfl, c, hc, rfl⟩ := y
    have e : d = .str ⟨#[c]⟩ := by
      unfold strD at hd
      rw [List.getElem?_map, Array.getElem?_toList, hc] at hd
      exact (Option.some.inj hd).symm
    subst e
    exact ⟨F, s.push (d := .str _) rfl⟩

theorem i_list {tg l : Expr} {m : ME} (hl : PE X l (rdE X.K B W m)) : PI X tg l (rdI X.K B W (iL m)) := PI.imp (pi_list hl) fun σ H R ⟨F, τ, vs, ds, s, p⟩ => by
  refine ⟨F, τ, vs, ds, s, post_imp (post_bind p) (fun d τ1 q v F1 H1 s1 => ?_) fun _ _ q => q⟩
  obtain ⟨F2, s2⟩ := s1.freeze1
  have hz := freeze_fz d
  cases e : freeze d with
  | lst m es =>
    cases m with
    | true => rw [e] at hz; cases hz
    | false =>
      simp only [e] at q
      rw [e] at s2
      obtain ⟨a, us, ev, h1, h2⟩ := s2.topF rfl
      subst ev
      exact ⟨a, rfl, ⟨us, sqOf (s2.same _ _ h1)⟩, q (Itl X.K a) [.ref a] [.lst false es] F2 H1 rfl s2 itOk_list⟩
  | _ => simp only [e] at q; exact False.elim q
def iT (m : ME) : MA := fun τ => (m τ).bind fun d τ1 => match d with
  | .tup es => .ok es τ1
  | _ => .bad
theorem i_tup {tg l : Expr} {m : ME} (hl : PE X l (rdE X.K B W m)) : PI X tg l (rdI X.K B W (iT m)) := PI.imp (pi_tup hl) fun σ H R ⟨F, τ, vs, ds, s, p⟩ => by
  refine ⟨F, τ, vs, ds, s, post_imp (post_bind p) (fun d τ1 q v F1 H1 s1 => ?_) fun _ _ q => q⟩
  cases d with
  | tup es =>
    obtain ⟨a, us, ev, h1, h2⟩ := s1.topF rfl
    subst ev
    exact ⟨a, rfl, ⟨us, sqT_same s1.same h1⟩, q (Itt X.K a) [.ref a] [.tup es] F1 H1 rfl s1 itOk_tup⟩
  | _ => exact False.elim q
def iS (m : ME) : MA := fun τ => (m τ).bind fun d τ1 => match d with
  | .str z => .ok (strD z) τ1
  | _ => .bad
theorem i_str {tg l : Expr} {m : ME} (hl : PE X l (rdE X.K B W m)) : PI X tg l (rdI X.K B W (iS m)) := PI.imp (pi_str hl) fun σ H R ⟨F, τ, vs, ds, s, p⟩ => by
  refine ⟨F, τ, vs, ds, s, post_imp (post_bind p) (fun d τ1 q v F1 H1 s1 => ?_) fun _ _ q => q⟩
  cases d with
  | str z => exact ⟨z, s1.topF rfl, q (Its z) [] [] F1 H1 rfl s1.pop itOk_str⟩
  | _ => exact False.elim q
def iR1 (m : MA) : MA := fun τ => (m τ).bind fun ds τ1 => match ds with
  | [.int j] => if -(2 ^ 62) ≤ j ∧ j < 2 ^ 62 then .ok (rangeD 0 j.toNat) τ1 else .bad
  | _ => .bad
def iR2 (m : MA) : MA := fun τ => (m τ).bind fun ds τ1 => match ds with
  | [.int i, .int j] => if -(2 ^ 62) ≤ i ∧ i < 2 ^ 62 ∧ -(2 ^ 62) ≤ j ∧ j < 2 ^ 62 then .ok (rangeD i (j - i).toNat) τ1 else .bad
  | _ => .bad
theorem i_range1 {tg a : Expr} {p pos : Pos} {m : MA} (hg : Gl X "range") (hm : X.mg "range" = none) (ha : PA X [a] (rdA X.K B W m)) (hs : starEach [a] X.env = [(false, eval a X.env)] := by rfl) : PI X tg (.Call (.Name "range" p) [a] [] pos) (rdI X.K B W (iR1 m)) := PI.imp (pi_range1 hg hm ha hs) fun σ H R ⟨F, τ, vs, ds, s, p⟩ => by
  refine ⟨F, τ, vs, ds, s, post_imp (post_bind p) (fun es τ1 q us F1 H1 hl s1 => ?_) fun _ _ q => q⟩
  have g := s1.pops hl
  match es, q, s1, hl with
  | [.int j], q, s1, hl =>
    match us, s1, hl with
    | [v], s1, _ =>
      cases (show v = .int j from s1.topF rfl)
      by_cases z : -(2 ^ 62) ≤ j ∧ j < 2 ^ 62
      · simp only [z, and_self, if_true] at q
        exact ⟨j, rfl, z.1, z.2, q (Itr 0 j.toNat) [] [] F1 H1 rfl g itOk_range⟩
      · simp only [z, if_false] at q; exact False.elim q
theorem i_range2 {tg a b : Expr} {p pos : Pos} {m : MA} (hg : Gl X "range") (hm : X.mg "range" = none) (ha : PA X [a, b] (rdA X.K B W m)) (hs : starEach [a, b] X.env = [(false, eval a X.env), (false, eval b X.env)] := by rfl) (hs2 : starEach [b] X.env = [(false, eval b X.env)] := by rfl) :
    PI X tg (.Call (.Name "range" p) [a, b] [] pos) (rdI X.K B W (iR2 m)) := PI.imp (pi_range2 hg hm ha hs hs2) fun σ H R ⟨F, τ, vs, ds, s, p⟩ => by
  refine ⟨F, τ, vs, ds, s, post_imp (post_bind p) (fun es τ1 q us F1 H1 hl s1 => ?_) fun _ _ q => q⟩
  have g := s1.pops hl
  match es, q, s1, hl with
  | [.int i, .int j], q, s1, hl =>
    match us, s1, hl with
    | [u, v], s1, _ =>
      cases (show u = .int i from s1.topF rfl)
      cases (show v = .int j from s1.pop.topF rfl)
      by_cases z : -(2 ^ 62) ≤ i ∧ i < 2 ^ 62 ∧ -(2 ^ 62) ≤ j ∧ j < 2 ^ 62
      · simp only [z, and_self, if_true] at q
        exact ⟨i, j, rfl, z, q (Itr i (j - i).toNat) [] [] F1 H1 rfl g itOk_range⟩
      · simp only [z, if_false] at q; exact False.elim q
def iE (m : MA) : MA := fun τ => (m τ).bind fun ds τ1 => match freezeL ds with
  | [.lst _ es] => .ok (enumD 0 es) τ1
  | _ => .bad
def iV (m : MA) : MA := fun τ => (m τ).bind fun ds τ1 => match freezeL ds with
  | [.lst _ es] => .ok es.reverse τ1
  | _ => .bad
def iZ (m : MA) : MA := fun τ => (m τ).bind fun ds τ1 => match freezeL ds with
  | [.lst _ es, .lst _ fs] => .ok (zipD es fs) τ1
  | _ => .bad
theorem StT.pushL {K : PySem.W.Frag} {F H : Hp} {σ : L2.St} {τ : Env} {vs us : List V} {ds es : List D} (s : StT K B F H σ τ vs ds) (h : RepL K B.ca F es us) : StT K B F H σ τ (us ++ vs) (es ++ ds) := by
  obtain ⟨f1, f2, A, b, w, io⟩ := s
  have b2 := (h.os (H := H)).append b
  have e3 : (fun b => 0 + f2 b) = f2 := funext fun b => by omega
  rw [e3] at b2
  exact ⟨f1, f2, A, b2, w, io⟩
theorem i_enum {e : Expr} {p pos tpos : Pos} {elts : List Expr} {kk : Nat} {m : MA} (hg : Gl X "enumerate") (hm : X.mg "enumerate" = none) (ha : PA X [e] (rdA X.K B W m)) (hs : starEach [e] X.env = [(false, eval e X.env)] := by rfl) :
    PI X (.Tuple elts kk tpos) (.Call (.Name "enumerate" p) [e] [] pos) (rdI X.K B W (iE m)) := PI.imp (pi_enum hg hm ha hs) fun σ H R ⟨F, τ, vs, ds, s, p⟩ => by
  refine ⟨F, τ, vs, ds, s, post_imp (post_bind p) (fun es τ1 q us F1 H1 hl s1 => ?_) fun _ _ q => q⟩
  obtain ⟨F2, sm, rl, s2⟩ := s1.freeze hl
  match h : freezeL es, q, rl with
  | [.lst b xs], q, rl =>
    obtain ⟨v, r, rfl, r1, r2⟩ := rl
    cases (show r = [] from r2)
    cases b with
    | true => exact r1.elim
    | false =>
      have s3 := s2.push r1
      obtain ⟨a, ws, rfl, h1, h2⟩ := r1
      exact ⟨a, ws, rfl, sqOf (s2.same _ _ h1), q (Ite X.K a) [.ref a] [.lst false xs] F2 H1 rfl s3 itOk_enum⟩
theorem i_rev {tg e : Expr} {p pos : Pos} {m : MA} (hg : Gl X "reversed") (hm : X.mg "reversed" = none) (ha : PA X [e] (rdA X.K B W m)) (hs : starEach [e] X.env = [(false, eval e X.env)] := by rfl) :
    PI X tg (.Call (.Name "reversed" p) [e] [] pos) (rdI X.K B W (iV m)) := PI.imp (pi_reversed hg hm ha hs) fun σ H R ⟨F, τ, vs, ds, s, p⟩ => by
  refine ⟨F, τ, vs, ds, s, post_imp (post_bind p) (fun es τ1 q us F1 H1 hl s1 => ?_) fun _ _ q => q⟩
  obtain ⟨F2, sm, rl, s2⟩ := s1.freeze hl
  match h : freezeL es, q, rl with
  | [.lst b xs], q, rl =>
    obtain ⟨v, r, rfl, r1, r2⟩ := rl
    cases (show r = [] from r2)
    cases b with
    | true => exact r1.elim
    | false =>
      have s3 := s2.push r1
      obtain ⟨a, ws, rfl, h1, h2⟩ := r1
      exact ⟨a, ws, rfl, sqOf (s2.same _ _ h1), q (Itv X.K a ws.length) [.ref a] [.lst false xs] F2 H1 rfl s3 (itOk_rev h2.length)⟩
theorem i_zip {e e2 : Expr} {p pos tpos : Pos} {elts : List Expr} {kk : Nat} {m : MA} (hg : Gl X "zip") (hm : X.mg "zip" = none) (ha : PA X [e, e2] (rdA X.K B W m))
    (hs : starEach [e, e2] X.env = (false, eval e X.env) :: starEach [e2] X.env := by rfl) (hpl : (backTo pos (starEach [e2] X.env)).any (·.1) = false := by rfl) :
    PI X (.Tuple elts kk tpos) (.Call (.Name "zip" p) [e, e2] [] pos) (rdI X.K B W (iZ m)) := PI.imp (pi_zip hg hm ha hs hpl) fun σ H R ⟨F, τ, vs, ds, s, p⟩ => by
  refine ⟨F, τ, vs, ds, s, post_imp (post_bind p) (fun es τ1 q us F1 H1 hl s1 => ?_) fun _ _ q => q⟩
  obtain ⟨F2, sm, rl, s2⟩ := s1.freeze hl
  match h : freezeL es, q, rl with
  | [.lst b xs, .lst b2 ys], q, rl =>
    obtain ⟨v, r, rfl, r1, v2, r', rfl, r2, r3⟩ := rl
    cases (show r' = [] from r3)
    cases b with
    | true => exact r1.elim
    | false =>
      cases b2 with
      | true => exact r2.elim
      | false =>
        have s3 := (s2.push r1).push r2
        obtain ⟨a, ws, rfl, h1, h2⟩ := r1
        obtain ⟨a', ws', rfl, h1', h2'⟩ := r2
        exact ⟨a, a', ws, ws', rfl, sqOf (s2.same _ _ h1), sqOf (s2.same _ _ h1'), q (Itz X.K a a') [.ref a', .ref a] [.lst false ys, .lst false xs] F2 H1 rfl s3 itOk_zip⟩
end
end Bn

/-! Loops, comprehensions; a def by its function. -/
namespace Bn
open PySem PySem.Spec PyProof.Rows L2

/-! ### for, while -/
def forL (g : D → Env → Option Env) (b : MS) : List D → Env → SR
  | [], τ => .nx τ
  | d :: r, τ => match g d τ with
    | none => .bad
    | some τ1 => match b τ1 with
      | .nx τ2 => forL g b r τ2
      | .ct τ2 => forL g b r τ2
      | .bk τ2 => .nx τ2
      | .rt d τ2 => .rt d τ2
      | .ex c τ2 => .ex c τ2
      | .bad => .bad
def sFor (m : MA) (g : D → Env → Option Env) (b : MS) : MS := fun τ => (m τ).s fun items τ1 => forL g b items τ1
def whileM (c : MT) (b : MS) : Nat → Env → SR
  | 0, _ => .bad
  | n + 1, τ => match c τ with
    | .ok true τ1 => (match b τ1 with
      | .nx τ2 => whileM c b n τ2
      | .ct τ2 => whileM c b n τ2
      | .bk τ2 => .nx τ2
      | .rt d τ2 => .rt d τ2
      | .ex e τ2 => .ex e τ2
      | .bad => .bad)
    | .ok false τ1 => .nx τ1
    | .ex e τ1 => .ex e τ1
    | .bad => .bad
def sWhile (fuel : Env → Nat) (c : MT) (b : MS) : MS := fun τ => whileM c b (fuel τ) τ
section
variable {X : Cx} {B : Bx} {W : WX}
theorem postS_pops {K : PySem.W.Frag} {us vs : List V} {es ds : List D} {D' : Ends} {r : SR} (hl : us.length = es.length) (h : postS K B W vs ds D' r) : postS K B W (us ++ vs) (es ++ ds) D' r := by
  cases r with
  | nx τ => exact fun σ F H s => h σ F H (s.pops hl)
  | rt d τ => exact fun v σ F H s => h v σ F H (StT.pops (us := us) (es := es) (by
      obtain ⟨f1, f2, A, ⟨v', r', g1, g2, e, b1, b2, q⟩, w, io⟩ := s
      cases e
      obtain ⟨g3, g4, c1, c2, q2⟩ := b2.split' hl
      exact ⟨f1, f2, A, c1.append (us := v :: vs) (es := d :: ds) (g := fun b => g1 b + g4 b) ⟨v, vs, g1, g4, rfl, b1, c2, fun _ => rfl⟩ |> fun z => by
        have e : (fun b => g3 b + (g1 b + g4 b)) = f2 := funext fun b => by rw [q, q2]; omega
        rw [e] at z; exact z, w, io⟩) hl)
  | bk τ => exact fun σ F H s => h σ F H (s.pops hl)
  | ct τ => exact fun σ F H s => h σ F H (s.pops hl)
  | ex c τ => exact fun σ F H s => h σ F H (s.pops hl)
  | bad => exact h
theorem for_core {J : It} {items : List D} {tv : List V} {td : List D} {g : D → Env → Option Env} {sl : List Nat} {b : MS} {K : PySem.W.Frag} {σ : L2.St} {H F : Hp} {τ : Env} {D' : Ends} (ok : ItOk K B J items tv td) (s : StT K B F H σ τ tv td) (p : postS K B W tv td D' (forL g b items τ)) :
    ∃ W' : Nat → Nat → L2.St → Hp → Prop, (∃ m, W' 0 m σ H) ∧ ∀ i m σ H, W' i m σ H → (J.stop i H ∧ D'.nx σ H) ∨ (J.go i H ∧ ∃ N : L2.St → Hp → Prop, (∀ σ' H', N σ' H' → ∃ m', m' < m ∧ W' (i + 1) m' σ' H') ∧
      ∀ x H', J.yld i H x H' → rdG K B sl g x σ H' fun σ2 H2 => rdS K B W b { D' with nx := N, ct := N, bk := D'.nx } σ2 H2) := by
  refine ⟨fun i m σ H => m = items.length - i ∧ i ≤ items.length ∧ ∃ F τ, StT K B F H σ τ tv td ∧ postS K B W tv td D' (forL g b (items.drop i) τ), ⟨_, rfl, Nat.zero_le _, F, τ, s, p⟩, ?_⟩
  rintro i m σ H ⟨rfl, hi, F, τ, s, p⟩
  by_cases h : i < items.length
  · refine .inr ⟨ok.go i F H σ τ s h, fun σ' H' => ∃ F τ, StT K B F H' σ' τ tv td ∧ postS K B W tv td D' (forL g b (items.drop (i + 1)) τ), fun σ' H' ⟨F', τ', s', p'⟩ => ⟨items.length - (i + 1), by omega, rfl, h, F', τ', s', p'⟩, fun x H' y => ?_⟩
    have e : items[i]? = some items[i] := by simp [h]
    obtain ⟨F', s'⟩ := ok.y i _ F H σ τ x H' [] [] rfl e s y
    rw [List.drop_eq_getElem_cons h] at p
    unfold forL at p
    cases eg : g items[i] τ with
    | none => rw [eg] at p; exact p.elim
    | some τ1 =>
      rw [eg] at p
      refine ⟨F', τ, tv, td, _, s', τ1, eg, fun σ2 F2 H2 s2 _ _ => ⟨F2, τ1, tv, td, s2, ?_⟩⟩
      cases eb : b τ1 with
      | nx τ2 => simp only [eb] at p; exact fun σ3 F3 H3 s3 => ⟨F3, τ2, s3, p⟩
      | ct τ2 => simp only [eb] at p; exact fun σ3 F3 H3 s3 => ⟨F3, τ2, s3, p⟩
      | bk τ2 => simp only [eb] at p; exact p
      | rt d τ2 => simp only [eb] at p; exact p
      | ex c τ2 => simp only [eb] at p; exact p
      | bad => simp only [eb] at p; exact p
  · have e : i = items.length := by omega
    subst e
    rw [List.drop_length] at p
    exact .inl ⟨ok.st F H σ τ s, p σ F H s⟩
theorem s_for {tg it : Expr} {body : List Stmt} {pos : Pos} {m : MA} {sl : List Nat} {g : D → Env → Option Env} {b : MS} (c : XOk X W) (hi : PI X tg it (rdI X.K B W m)) (hg : PG X tg (rdG X.K B sl g)) (hb : PSs X body (rdS X.K B W b))
    (hs : ∀ x, foldedSetIterable it X.env x = pure x := by intro _; rfl) : PS X (.For tg it body [] pos) (rdS X.K B W (sFor m g b)) := PS.imp (ps_for c.hp c.calm hi hg hb hs) fun D' σ H ⟨F, τ, vs, ds, s, p⟩ =>
  ⟨F, τ, vs, ds, s, post_imp (post_s (σ := σ) p) (fun items τ1 q J us es F' H' hl s' ok => for_core ok s' (postS_pops hl q)) fun _ _ q => q⟩
theorem s_while {c : Expr} {body : List Stmt} {pos : Pos} {t : MT} {b : MS} (k : XOk X W) (fuel : Env → Nat) (hc : PT X c (rdT X.K B W t)) (hb : PSs X body (rdS X.K B W b)) : PS X (.While c body [] pos) (rdS X.K B W (sWhile fuel t b)) := PS.imp (ps_while k.hp hc hb) fun D' σ H ⟨F, τ, vs, ds, s, p⟩ => by
  refine ⟨fun m σ H => ∃ F τ, StT X.K B F H σ τ vs ds ∧ postS X.K B W vs ds D' (whileM t b m τ), ⟨_, F, τ, s, p⟩, ?_⟩
  rintro m σ H ⟨F, τ, s, p⟩
  cases m with
  | zero => exact False.elim p
  | succ m =>
    unfold whileM at p
    refine ⟨F, τ, vs, ds, s, ?_⟩
    cases et : t τ with
    | bad => rw [et] at p; exact p
    | ex e τ1 => rw [et] at p; exact fun F1 H1 s1 => p σ F1 H1 s1
    | ok x τ1 =>
      rw [et] at p
      intro F1 H1 s1
      cases x with
      | false => exact p σ F1 H1 s1
      | true =>
        refine ⟨fun σ' H' => ∃ F τ, StT X.K B F H' σ' τ vs ds ∧ postS X.K B W vs ds D' (whileM t b m τ), fun σ' H' ⟨F', τ', s', p'⟩ => ⟨m, Nat.lt_succ_self m, F', τ', s', p'⟩, F1, τ1, vs, ds, s1, ?_⟩
        cases eb : b τ1 with
        | nx τ2 => simp only [eb] at p; exact fun σ3 F3 H3 s3 => ⟨F3, τ2, s3, p⟩
        | ct τ2 => simp only [eb] at p; exact fun σ3 F3 H3 s3 => ⟨F3, τ2, s3, p⟩
        | bk τ2 => simp only [eb] at p; exact p
        | rt d τ2 => simp only [eb] at p; exact p
        | ex c τ2 => simp only [eb] at p; exact p
        | bad => simp only [eb] at p; exact p

/-! ### list comprehensions -/
def wipeE (τ : Env) : List Nat → Env
  | [] => τ
  | v :: vs => (wipeE τ vs).set v none
def lcL (own : List Nat) (g : D → Env → Option Env) (t : MT) (m : ME) : List D → List D → Env → R (List D)
  | [], acc, τ => .ok acc τ
  | d :: r, acc, τ => match g d τ with
    | none => .bad
    | some τ1 => (t τ1).bind fun b τ2 => if b = true then (m τ2).bind fun e τ3 => if acc.length < 1000000 then lcL own g t m r (acc ++ [e]) (wipeE τ3 own) else .bad else lcL own g t m r acc (wipeE τ2 own)
def eLc (own : List Nat) (it : MA) (g : D → Env → Option Env) (t : MT) (m : ME) : ME := fun τ => (it τ).bind fun items τ1 => match lcL own g t m items [] (wipeE τ1 own) with
  | .ok acc τ2 => .ok (.lst true acc) τ2
  | _ => .bad
theorem Sl.reset {K : PySem.W.Frag} {ca : Str → Addr} {F H : Hp} : ∀ {τ : Env} {σ σ' : L2.St} {f : Ct}, Sl K ca F H τ σ f → σ'.length = σ.length → (∀ (j : Nat) (d : D), τ[j]? = some (some d) → σ'[j]? = σ[j]?) → Sl K ca F H τ σ' f
  | [], σ, σ', f, h, hl, k => by
    obtain ⟨rfl, h2⟩ := h
    exact ⟨List.eq_nil_of_length_eq_zero hl, h2⟩
  | none :: τ, _, σ', f, ⟨x, r, h1, h2⟩, hl, k => by
    subst h1
    cases σ' with
    | nil => cases hl
    | cons y r' => exact ⟨y, r', rfl, h2.reset (by simpa using hl) fun j d hj => by simpa using k (j + 1) d (by simpa using hj)⟩
  | some d :: τ, _, σ', f, ⟨v, r, f1, f2, h1, h2, h3, h4⟩, hl, k => by
    subst h1
    cases σ' with
    | nil => cases hl
    | cons y r' =>
      have e : some y = some (some v) := by simpa using k 0 d (by simp)
      cases e
      exact ⟨v, r', f1, f2, rfl, h2, h3.reset (by simpa using hl) fun j d hj => by simpa using k (j + 1) d (by simpa using hj), h4⟩
theorem wipe_out {σ : L2.St} {j : Nat} : ∀ {own : List Nat}, j ∉ own → (wipe σ own)[j]? = σ[j]?
  | [], _ => rfl
  | v :: vs, h => by
    unfold wipe
    rw [List.getElem?_set_ne (fun e => h (by simp [e]))]
    exact wipe_out fun z => h (List.mem_cons_of_mem _ z)
theorem wipeE_in {τ : Env} {j : Nat} {d : D} : ∀ {own : List Nat}, (wipeE τ own)[j]? = some (some d) → j ∉ own
  | [], _ => by simp
  | v :: vs, h => by
    unfold wipeE at h
    by_cases e : v = j
    · subst e
      by_cases hv : v < (wipeE τ vs).length
      · rw [List.getElem?_set_self hv] at h; cases h
      · rw [List.getElem?_eq_none (by simpa using hv)] at h; cases h
    · rw [List.getElem?_set_ne e] at h
      simp only [List.mem_cons, not_or]
      exact ⟨fun z => e z.symm, wipeE_in h⟩
theorem wipe_in {σ : L2.St} {j : Nat} : ∀ {own : List Nat}, j ∈ own → j < σ.length → (wipe σ own)[j]? = some none
  | [], h, _ => by simp at h
  | v :: vs, h, hl => by
    unfold wipe
    by_cases e : v = j
    · subst e; rw [List.getElem?_set_self (by rw [wipe_length]; exact hl)]
    · rw [List.getElem?_set_ne e]
      exact wipe_in (by rcases List.mem_cons.mp h with z | z; exact absurd z.symm e; exact z) hl
theorem wipe_eq {a b : L2.St} {own : List Nat} (hl : a.length = b.length) (h : ∀ j, j ∉ own → a[j]? = b[j]?) : wipe a own = wipe b own := by
  apply List.ext_getElem?
  intro j
  by_cases e : j ∈ own
  · by_cases hj : j < a.length
    · rw [wipe_in e hj, wipe_in e (by omega)]
    · rw [List.getElem?_eq_none (by rw [wipe_length]; omega), List.getElem?_eq_none (by rw [wipe_length]; omega)]
  · rw [wipe_out e, wipe_out e]; exact h j e
theorem wipe_wipe {σ : L2.St} {own : List Nat} : wipe (wipe σ own) own = wipe σ own := wipe_eq (wipe_length σ own) fun j h => wipe_out h
theorem StT.reset {K : PySem.W.Frag} {F H : Hp} {σ σ' : L2.St} {τ : Env} {vs : List V} {ds : List D} (s : StT K B F H σ τ vs ds) (hl : σ'.length = σ.length) (k : ∀ (j : Nat) (d : D), τ[j]? = some (some d) → σ'[j]? = σ[j]?) (io : IoOk B σ') : StT K B F H σ' τ vs ds := by
  obtain ⟨f1, f2, a, b, w, _⟩ := s
  exact ⟨f1, f2, a.reset hl k, b, w, io⟩
theorem StT.wipeE {K : PySem.W.Frag} {F H : Hp} {σ : L2.St} {τ : Env} {vs : List V} {ds : List D} (s : StT K B F H σ τ vs ds) : ∀ own : List Nat, StT K B F H σ (Bn.wipeE τ own) vs ds
  | [] => s
  | _ :: own => (s.wipeE own).forget
def ioFreeL (B : Bx) (own : List Nat) : Prop := ∀ p ∈ B.io, p.1 ∉ own
theorem StT.wiped {K : PySem.W.Frag} {F H : Hp} {σ : L2.St} {τ : Env} {vs : List V} {ds : List D} {own : List Nat} (s : StT K B F H σ τ vs ds) (hio : ioFreeL B own) : StT K B F H (wipe σ own) (Bn.wipeE τ own) vs ds := by
  have io : IoOk B σ := by obtain ⟨_, _, _, _, _, io⟩ := s; exact io
  exact (s.wipeE own).reset (wipe_length _ _) (fun j d h => wipe_out (wipeE_in h)) fun p hp => by rw [wipe_out (hio p hp)]; exact io p hp
theorem StT.unwiped {K : PySem.W.Frag} {F H : Hp} {σ : L2.St} {τ : Env} {vs : List V} {ds : List D} {own : List Nat} (s : StT K B F H (wipe σ own) (Bn.wipeE τ own) vs ds) (hio : ioFreeL B own) : StT K B F H σ (Bn.wipeE τ own) vs ds := by
  have io : IoOk B (wipe σ own) := by obtain ⟨_, _, _, _, _, io⟩ := s; exact io
  exact s.reset (wipe_length _ _).symm (fun j d h => (wipe_out (wipeE_in h)).symm) fun p hp => by rw [← wipe_out (hio p hp)]; exact io p hp
theorem wipeE_wipeE {τ : Env} {own : List Nat} : ∀ own2 : List Nat, (∀ j ∈ own2, j ∈ own) → Bn.wipeE (Bn.wipeE τ own) own2 = Bn.wipeE τ own
  | [], _ => rfl
  | v :: vs, h => by
    show (Bn.wipeE (Bn.wipeE τ own) vs).set v none = Bn.wipeE τ own
    rw [wipeE_wipeE vs fun j hj => h j (List.mem_cons_of_mem _ hj)]
    apply List.ext_getElem?
    intro j
    show ((Bn.wipeE τ own).set v none)[j]? = (Bn.wipeE τ own)[j]?
    rw [List.getElem?_set]
    split
    · rename_i e
      subst e
      split
      · cases e2 : (Bn.wipeE τ own)[v]? with
        | none => rw [List.getElem?_eq_none_iff] at e2; omega
        | some x =>
          cases x with
          | none => rfl
          | some d => exact absurd (h v List.mem_cons_self) (wipeE_in e2)
      · rename_i hl; rw [List.getElem?_eq_none (by omega)]
    · rfl
theorem lc_core' {J : It} {items : List D} {tv : List V} {td : List D} {g : D → Env → Option Env} {sl own : List Nat} {t : MT} {m : ME} {K : PySem.W.Frag} {σ : L2.St} {H F : Hp} {τ τ2 : Env} {acc2 : List D} {Q : VK} (ok : ItOk K B J items tv td) (hsl : ∀ j ∈ sl, j ∈ own) (hio : ioFreeL B own) (s : StT K B F H σ τ tv td)
    (e : lcL own g t m items [] (Bn.wipeE τ own) = .ok acc2 τ2) (k : ∀ v F H, StT K B F H σ τ2 (v :: tv) (.lst true acc2 :: td) → Q v H) : ∀ D, H D = none → ∃ W' : Nat → Nat → Hp → Prop, (∃ m, W' 0 m (upd H D (.lst []))) ∧ ∀ i n H, W' i n H →
      (J.stop i H ∧ Q (.ref D) H) ∨ (J.go i H ∧ ∃ Nx : Hp → Prop, (∀ H', Nx H' → ∃ m', m' < n ∧ W' (i + 1) m' H') ∧ ∀ x H', J.yld i H x H' → rdG K B sl g x (wipe σ own) H' fun σ2 H2 => wipe σ2 own = wipe σ own ∧ rdT K B W0 t σ2 H2 fun b H3 =>
        if b = true then rdE K B W0 m σ2 H3 fun y H4 => ∃ acc, H4 D = some (.lst acc) ∧ acc.length < sizeLine ∧ Nx (upd H4 D (.lst (acc ++ [y]))) else Nx H3) := by
  intro D hD
  have s0 : StT K B F (upd H D (.lst [])) σ τ (.ref D :: tv) (.lst true [] :: td) := s.newLst (us := []) (es := []) rfl hD
  have s1 := s0.wiped (own := own) hio
  -- the items are walked with the new list on top
  refine ⟨fun i n H => n = items.length - i ∧ i ≤ items.length ∧ ∃ F τ acc, StT K B F H (wipe σ own) (Bn.wipeE τ own) (.ref D :: tv) (.lst true acc :: td) ∧ lcL own g t m (items.drop i) acc (Bn.wipeE τ own) = .ok acc2 τ2, ⟨_, rfl, Nat.zero_le _, F, τ, [], s1, e⟩, ?_⟩
  rintro i n H ⟨rfl, hi, F, τ, acc, s, e⟩
  by_cases h : i < items.length
  · refine .inr ⟨ok.go i F H _ _ s.pop h, fun H' => ∃ F τ acc, StT K B F H' (wipe σ own) (Bn.wipeE τ own) (.ref D :: tv) (.lst true acc :: td) ∧ lcL own g t m (items.drop (i + 1)) acc (Bn.wipeE τ own) = .ok acc2 τ2,
      fun H' ⟨F', τ', acc', s', e'⟩ => ⟨items.length - (i + 1), by omega, rfl, h, F', τ', acc', s', e'⟩, fun x H' y => ?_⟩
    have ei : items[i]? = some items[i] := by simp [h]
    obtain ⟨F', s'⟩ := ok.y i _ F H _ _ x H' [.ref D] [.lst true acc] rfl ei s y
    rw [List.drop_eq_getElem_cons h] at e
    unfold lcL at e
    cases eg : g items[i] (Bn.wipeE τ own) with
    | none => rw [eg] at e; cases e
    | some τ1 =>
      rw [eg] at e
      refine ⟨F', _, _, _, _, s', τ1, eg, fun σ2 F2 H2 s2 l2 k2 => ⟨?_, F2, τ1, _, _, s2, ?_⟩⟩
      · rw [← wipe_wipe (σ := σ)]
        exact wipe_eq l2 fun j hj => k2 j fun z => hj (hsl j z)
      · have w2 : wipe σ2 own = wipe σ own := by
          rw [← wipe_wipe (σ := σ)]
          exact wipe_eq l2 fun j hj => k2 j fun z => hj (hsl j z)
        cases et : t τ1 with
        | bad => simp only [et, R.bind] at e; cases e
        | ex c τ3 => simp only [et, R.bind] at e; cases e
        | ok b τ3 =>
          simp only [et, R.bind] at e
          intro F3 H3 s3
          cases b with
          | false =>
            simp only [Bool.false_eq_true, if_false] at e
            rw [if_neg Bool.false_ne_true]
            have s4 := s3.wiped (own := own) hio
            rw [w2] at s4
            exact ⟨F3, τ3, acc, s4, e⟩
          | true =>
            simp only [if_true] at e
            rw [if_pos rfl]
            refine ⟨F3, τ3, _, _, s3, ?_⟩
            cases em : m τ3 with
            | bad => simp only [em] at e; cases e
            | ex c τ4 => simp only [em] at e; cases e
            | ok d τ4 =>
              simp only [em] at e
              intro v F4 H4 s4
              by_cases hacc : acc.length < 1000000
              · rw [if_pos hacc] at e
                obtain ⟨ff, q⟩ := s4.pop.top
                obtain ⟨a', vs', g', ea, hx, hg, hq⟩ := q
                cases ea
                refine ⟨vs', hx, ?_, F4, τ4, acc ++ [d], ?_, e⟩
                · rw [hg.length, sizeLine_eq]; omega
                · have s5 := (StT.swap (us := [v]) (es := [d]) s4 rfl).change (us := [v]) (ds := [d]) (ys := vs' ++ [v]) (es2 := acc ++ [d]) rfl hx fun g1 g2 r1 r2 => ⟨_, r1.append r2, fun b => Nat.le_refl _⟩
                  have s6 := s5.wiped (own := own) hio
                  rw [w2] at s6
                  exact s6
              · rw [if_neg hacc] at e; cases e
  · have ei : i = items.length := by omega
    subst ei
    rw [List.drop_length] at e
    cases (show R.ok acc (Bn.wipeE τ own) = R.ok acc2 τ2 from e)
    exact .inl ⟨ok.st F H _ _ s.pop, k _ F H (s.unwiped hio)⟩
end
end Bn

/-! Comprehensions; a def by its function; operators. -/
namespace Bn
open PySem PySem.Spec PyProof.Rows L2
section
variable {X : Cx} {B : Bx} {W : WX}
theorem StT.under {K : PySem.W.Frag} {F H : Hp} {σ : L2.St} {τ : Env} {vs us : List V} {ds es : List D} {v : V} {d : D} (s : StT K B F H σ τ (v :: (us ++ vs)) (d :: (es ++ ds))) (hl : us.length = es.length) : StT K B F H σ τ (v :: vs) (d :: ds) := by
  obtain ⟨f1, f2, A, ⟨v', r', g1, g2, e, b1, b2, q⟩, w, io⟩ := s
  cases e
  obtain ⟨g3, g4, c1, c2, q2⟩ := b2.split' hl
  exact ⟨f1, fun b => g1 b + g4 b, A, ⟨v, vs, g1, g4, rfl, b1, c2, fun _ => rfl⟩, w.less fun b => by show f1 b + (g1 b + g4 b) ≤ f1 b + f2 b; rw [q, q2]; omega, io⟩
theorem PTs.imp {e : List Expr} {t t' : TT} (h : PTs X e t) (k : ∀ σ H Q, t' σ H Q → t σ H Q) : PTs X e t' := ⟨fun p s σ H Q I q => h.run p s σ H Q I (k _ _ _ q)⟩
def tTrue : MT := fun τ => .ok true τ
theorem ts_nil : PTs X [] (rdT X.K B W tTrue) := PTs.imp pts_nil fun σ H Q ⟨F, τ, vs, ds, s, p⟩ => p F H s
theorem ts_one {c : Expr} {t : MT} (h : PT X c (rdT X.K B W t)) : PTs X [c] (rdT X.K B W t) := pts_one h
theorem impLc {own : List Nat} {it : MA} {g : D → Env → Option Env} {sl : List Nat} {t : MT} {m : ME} (hsl : ∀ j ∈ sl, j ∈ own) (hio : ioFreeL B own) (σ : L2.St) (H : Hp) (Q : VK) (h : rdE X.K B W (eLc own it g t m) σ H Q) : tLc (rdI X.K B W it) (rdG X.K B sl g) (rdT X.K B W0 t) (rdE X.K B W0 m) own σ H Q := by
  obtain ⟨F, τ, vs, ds, s, p⟩ := h
  refine ⟨F, τ, vs, ds, s, post_imp (post_bind p) (fun items τ1 q J us es F' H' hl s' ok => ?_) fun _ _ q => q⟩
  cases e : lcL own g t m items [] (Bn.wipeE τ1 own) with
  | ok acc τ2 =>
    simp only [e] at q
    exact lc_core' ok hsl hio s' e fun v F2 H2 s2 => q v F2 H2 (s2.under hl)
  | _ => simp only [e] at q; exact False.elim q
theorem e_lc {elt tg iter : Expr} {ifs : List Expr} {scope : Scope} {own : List (Str × Nat)} {pos : Pos} {it : MA} {g : D → Env → Option Env} {sl : List Nat} {t : MT} {m : ME} (c : XOk X W) (hN : X.N.Nodup) (hi : PI X tg iter (rdI X.K B W it)) (ok : BlkOk X.N X.env.scope scope own)
    (hg : ∀ (s : Shared) (H : Hp) (C : Addr) (cl : List (Str × Addr)) (fp : List Addr), PG (X.blk s H scope (compEnvC scope cl C X.env) fp) tg (rdG X.K B sl g)) (ht : ∀ (s : Shared) (H : Hp) (C : Addr) (cl : List (Str × Addr)) (fp : List Addr), PTs (X.blk s H scope (compEnvC scope cl C X.env) fp) ifs (rdT X.K B W0 t))
    (he : ∀ (s : Shared) (H : Hp) (C : Addr) (cl : List (Str × Addr)) (fp : List Addr), XOk (X.blk s H scope (compEnvC scope cl C X.env) fp) W0 → PE (X.blk s H scope (compEnvC scope cl C X.env) fp) elt (rdE X.K B W0 m))
    (hsl : ∀ j ∈ sl, j ∈ own.map (·.2) := by decide) (hio : ioFreeL B (own.map (·.2)) := by intro p hp; cases hp) (hs : ∀ x, foldedSetIterable iter X.env x = pure x := by intro _; rfl) :
    PE X (.ListComp elt [⟨tg, iter, ifs, 0⟩] scope pos) (rdE X.K B W (eLc (own.map (·.2)) it g t m)) :=
  PE.imp (pe_lc c.calm hN hi ok hg ht (fun s H C cl fp => he s H C cl fp ⟨takes0, PassesOwn.never, c.calm⟩) hs) (impLc hsl hio)
theorem s_setLc {i : Nat} {y : Str} {py : Pos} {elt tg iter : Expr} {ifs : List Expr} {scope : Scope} {own : List (Str × Nat)} {pos spos : Pos} {it : MA} {g : D → Env → Option Env} {sl : List Nat} {t : MT} {m : ME} (c : XOk X W) (hN : X.N.Nodup) (hy : X.N[i]? = some y) (hyl : X.env.scope.names.lookup y = some .local)
    (hsw : swapsWith (.ListComp elt [⟨tg, iter, ifs, 0⟩] scope pos) (some (.Name y py)) spos.line X.env = pure true) (hi : PI X tg iter (rdI X.K B W it)) (ok : BlkOk X.N X.env.scope scope own)
    (hg : ∀ (s : Shared) (H : Hp) (C : Addr) (cl : List (Str × Addr)) (fp : List Addr), PG (X.blk s H scope (compEnvC scope cl C X.env) fp) tg (rdG X.K B sl g)) (ht : ∀ (s : Shared) (H : Hp) (C : Addr) (cl : List (Str × Addr)) (fp : List Addr), PTs (X.blk s H scope (compEnvC scope cl C X.env) fp) ifs (rdT X.K B W0 t))
    (he : ∀ (s : Shared) (H : Hp) (C : Addr) (cl : List (Str × Addr)) (fp : List Addr), XOk (X.blk s H scope (compEnvC scope cl C X.env) fp) W0 → PE (X.blk s H scope (compEnvC scope cl C X.env) fp) elt (rdE X.K B W0 m))
    (hsl : ∀ j ∈ sl, j ∈ own.map (·.2) := by decide) (hio : ioFreeL B (own.map (·.2)) := by intro p hp; cases hp) (hio2 : ioFree B i := by intro p hp; cases hp) (hs : ∀ x, foldedSetIterable iter X.env x = pure x := by intro _; rfl) :
    PS X (.Assign [.Name y py] (.ListComp elt [⟨tg, iter, ifs, 0⟩] scope pos) spos) (rdS X.K B W (sAsg (eLc (own.map (·.2)) it g t m) (gN i))) :=
  PS.imp (ps_setLc c.calm hN hy hyl hsw hi ok hg ht (fun s H C cl fp => he s H C cl fp ⟨takes0, PassesOwn.never, c.calm⟩) hs) fun D σ H ⟨F, τ, vs, ds, s, p⟩ =>
    impLc hsl hio σ H _ ⟨F, τ, vs, ds, s, post_imp (post_s (σ := σ) p) (fun d τ1 q v F1 H1 s1 => q _ F1 H1 (s1.put' hio2)) fun _ _ q => q⟩
end

/-! ### a def -/
def callF (n N : Nat) (b : MS) : List D → CR := fun ds => if ds.length = n then (match b (ds.map some ++ List.replicate (N - n) none) with
  | .nx _ => .ok .non
  | .rt d _ => .ok d
  | .ex c _ => .ex c
  | _ => .bad) else .bad
theorem sl_start {K : PySem.W.Frag} {ca : Str → Addr} {F H : Hp} {k : Nat} : ∀ {ds : List D} {vs : List V}, RepL K ca F ds vs → Sl K ca F H (ds.map some ++ List.replicate k none) (vs.map some ++ List.replicate k none) (fun _ => 0)
  | [], vs, h => by
    cases (show vs = [] from h)
    show Sl K ca F H (List.replicate k none) (List.replicate k none) _
    induction k with
    | zero => exact ⟨rfl, fun _ => rfl⟩
    | succ k ih => exact ⟨none, _, rfl, ih⟩
  | d :: ds, _, ⟨v, r, h1, h2, h3⟩ => by
    subst h1
    exact ⟨v, _, _, _, rfl, h2.o, sl_start h3, fun _ => rfl⟩
section
variable {P : Program} {w : World} {K : PySem.W.Frag} {mg : Str → Option Value} {base : Heap} {ca : Str → Addr}
theorem fn_ok {x qual : Str} {st : Stmt} {f : Addr} {fd : FuncData} {N ps : List Str} {k : Nat} {b : MS} (F : Fun K x qual st f fd) (S : FnScope N ps (defScope st))
    (hb : ∀ (cdv : Value) (A : Around) (outer : List PySem.Env) (s : Shared) (H : Hp) (E : XK) (F0 R : Hp), Room k (A.deeper (envOfC qual (defScope st) s.heap.objs.size f cdv)) →
      XOk (cxOf (L2.CX P w) P w K mg base N qual (defScope st) f cdv A outer s H E) (fun cls d _ H => E cls d H) →
      PSs (cxOf (L2.CX P w) P w K mg base N qual (defScope st) f cdv A outer s H E) (defBody st) (rdS K ⟨ca, F0, R, []⟩ (fun cls d _ H => E cls d H) b)) :
    FnOk P w K mg base (L2.CX P w) (k + 1) f fd ps (spP K ca (callF ps.length N.length b)) := by
  refine F.okX S (fun vs H Q E h => ?_) (fun cdv A outer s H vs Q E hr h => ?_)
  · obtain ⟨F0, ds, _, rl, h⟩ := h
    rw [rl.length]
    by_cases e : ds.length = ps.length
    · exact e
    · unfold callF at h
      rw [if_neg e] at h
      exact h.elim
  · obtain ⟨F0, ds, sm, rl, h⟩ := h
    refine ⟨_, hb cdv A outer s H E F0 H hr ⟨takes_of rfl rfl rfl rfl, passes_of rfl, rfl⟩, ?_⟩
    have hl : ds.length = ps.length := by
      by_cases e : ds.length = ps.length
      · exact e
      · unfold callF at h
        rw [if_neg e] at h
        exact h.elim
    unfold callF at h
    rw [if_pos hl] at h
    have st0 : StT K ⟨ca, F0, H, []⟩ F0 H (L2.start N vs) (ds.map some ++ List.replicate (N.length - ps.length) none) [] [] := by
      refine ⟨fun _ => 0, fun _ => 0, ?_, ⟨rfl, fun _ => rfl⟩, ⟨fun _ => Nat.zero_le _, fun a q => absurd q (Nat.lt_irrefl _), fun a q => absurd q (Nat.lt_irrefl _), sm, Same.refl _, Same.refl _, fun a q => .inl q⟩, fun p hp => by cases hp⟩
      unfold L2.start
      rw [rl.length, hl]
      exact sl_start rl
    refine ⟨F0, _, [], [], st0, ?_⟩
    cases e : b (ds.map some ++ List.replicate (N.length - ps.length) none) with
    | nx τ =>
      rw [e] at h
      intro σ' F' H' s'
      obtain ⟨f1, f2, _, _, w', _⟩ := s'
      exact h .non F' H' (fun _ => 0) w'.s0 w'.sF w'.sR (Rep.o (d := .non) rfl) (fun _ => Nat.zero_le _) (fun a q => absurd q (Nat.lt_irrefl _)) w'.fr
    | rt d τ =>
      rw [e] at h
      intro v σ' F' H' s'
      obtain ⟨f1, f2, _, ⟨_, _, g1, g2, ee, hv, _, q⟩, w', _⟩ := s'
      cases ee
      have le : ∀ a, g1 a ≤ f1 a + f2 a := fun a => by rw [q]; omega
      exact h v F' H' g1 w'.s0 w'.sF w'.sR hv (fun a => Nat.le_trans (le a) (w'.nd a)) (fun a z => ⟨w'.dF a (Nat.lt_of_lt_of_le z (le a)), w'.dR a (Nat.lt_of_lt_of_le z (le a))⟩) w'.fr
    | ex c τ =>
      rw [e] at h
      intro σ' F' H' s'
      obtain ⟨f1, f2, _, _, w', _⟩ := s'
      exact h H' w'.sR
    | bk τ => rw [e] at h; exact h.elim
    | ct τ => rw [e] at h; exact h.elim
    | bad => rw [e] at h; exact h.elim
theorem fo_of {x qual : Str} {st : Stmt} {f : Addr} {fd : FuncData} {ps : List Str} {k : Nat} {g : List D → CR} (F : Fun K x qual st f fd) (hm : mg x = some (.ref f)) (hb : Binds K fd ps []) (h : FnOk P w K mg base (L2.CX P w) k f fd ps (spP K ca g)) : Fo P w K mg base ca k x g := ⟨f, fd, ps, hm, F.kp, hb, h⟩
end
end Bn

/-! Operators and built-in calls by trees. -/
namespace Bn
open PySem PySem.Spec PyProof.Rows L2
section
variable {K : PySem.W.Frag}
def gI (k : Int → Int → D) : D → D → Option D
  | .int i, .int j => some (k i j)
  | _, _ => none
def gIC (C : Int → Int → Prop) [∀ i j, Decidable (C i j)] (k : Int → Int → D) : D → D → Option D
  | .int i, .int j => if C i j then some (k i j) else none
  | _, _ => none
theorem opS_I0 {f : Int → Int → V} {k : Int → Int → D} (h : ∀ ca F i j, Rep K ca F (k i j) (f i j)) : OpS K (rI0 f) (gI k) := by
  intro ca F H x y a b d f1 f2 Q sm hx hy e q
  cases a with
  | int i =>
    cases b with
    | int j =>
      cases (show some (k i j) = some d from e)
      exact ⟨i, j, hx.1, hy.1, q _ _ (h ca F i j).o⟩
    | _ => cases e
  | _ => cases e
theorem opS_IC {C : Int → Int → Prop} [∀ i j, Decidable (C i j)] {f : Int → Int → V} {k : Int → Int → D} (h : ∀ ca F i j, Rep K ca F (k i j) (f i j)) : OpS K (rI C f) (gIC C k) := by
  intro ca F H x y a b d f1 f2 Q sm hx hy e q
  cases a with
  | int i =>
    cases b with
    | int j =>
      by_cases c : C i j
      · have e' : (if C i j then some (k i j) else none) = some d := e
        rw [if_pos c] at e'
        cases e'
        exact ⟨i, j, hx.1, hy.1, c, q _ _ (h ca F i j).o⟩
      · have e' : (if C i j then some (k i j) else none) = some d := e
        rw [if_neg c] at e'; cases e'
    | _ => cases e
  | _ => cases e
def gAdd : D → D → Option D := gI fun i j => .int (i + j)
def gSub : D → D → Option D := gI fun i j => .int (i - j)
instance {i j : Int} : Decidable (CMulW i j) := by unfold CMulW; infer_instance
instance {i j : Int} : Decidable (CDivW i j) := by unfold CDivW; infer_instance
instance {i j : Int} : Decidable (CPow i j) := by unfold CPow; infer_instance
def gMul : D → D → Option D := gIC CMulW fun i j => .int (i * j)
def gDiv : D → D → Option D := gIC CDivW fun i j => .int (i / j)
def gMod : D → D → Option D := gIC (fun _ j => 0 < j) fun i j => .int (i % j)
def gPow : D → D → Option D := gIC CPow fun i j => .int (i ^ j.toNat)
def gLt : D → D → Option D := gI fun i j => .bl (decide (i < j))
def gLe : D → D → Option D := gI fun i j => .bl (decide (i ≤ j))
def gGt : D → D → Option D := gI fun i j => .bl (decide (j < i))
def gGe : D → D → Option D := gI fun i j => .bl (decide (j ≤ i))
theorem sAdd : OpS K (rI0 fun i j => .int (i + j)) gAdd := opS_I0 fun _ _ _ _ => rfl
theorem sSub : OpS K (rI0 fun i j => .int (i - j)) gSub := opS_I0 fun _ _ _ _ => rfl
theorem sMul : OpS K (rI CMulW fun i j => .int (i * j)) gMul := opS_IC fun _ _ _ _ => rfl
theorem sDiv : OpS K (rI CDivW fun i j => .int (i / j)) gDiv := opS_IC fun _ _ _ _ => rfl
theorem sMod : OpS K (rI (fun _ j => 0 < j) fun i j => .int (i % j)) gMod := opS_IC fun _ _ _ _ => rfl
theorem sPow : OpS K (rI CPow fun i j => .int (i ^ j.toNat)) gPow := opS_IC fun _ _ _ _ => rfl
theorem sLt : OpS K (rI0 fun i j => .bl (decide (i < j))) gLt := opS_I0 fun _ _ _ _ => rfl
theorem sLe : OpS K (rI0 fun i j => .bl (decide (i ≤ j))) gLe := opS_I0 fun _ _ _ _ => rfl
theorem sGt : OpS K (rI0 fun i j => .bl (decide (j < i))) gGt := opS_I0 fun _ _ _ _ => rfl
theorem sGe : OpS K (rI0 fun i j => .bl (decide (j ≤ i))) gGe := opS_I0 fun _ _ _ _ => rfl
def gNeg : D → Option D
  | .int i => some (.int (-i))
  | _ => none
theorem sNeg : UnS K (rU fun i => .int (-i)) gNeg := by
  intro ca F H x a d f1 Q sm hx e q
  cases a with
  | int i =>
    cases (show some (D.int (-i)) = some d from e)
    exact ⟨i, hx.1, q (.int (-i)) _ (Rep.o (d := .int (-i)) rfl)⟩
  | _ => cases e
def gAddS : D → D → Option D
  | .str i, .str j => if i.length + j.length ≤ 1000000 then some (.str (i ++ j)) else none
  | _, _ => none
theorem sAddS : OpS K (fun x y H Q => ∃ i j, x = .str i ∧ y = .str j ∧ i.length + j.length ≤ sizeLine ∧ Q (.str (i ++ j)) H) gAddS := by
  intro ca F H x y a b d f1 f2 Q sm hx hy e q
  cases a with
  | str i =>
    cases b with
    | str j =>
      by_cases c : i.length + j.length ≤ 1000000
      · have e' : (if i.length + j.length ≤ 1000000 then some (D.str (i ++ j)) else none) = some d := e
        rw [if_pos c] at e'
        cases e'
        exact ⟨i, j, hx.1, hy.1, le_sizeLine c, q (.str (i ++ j)) _ (Rep.o (d := .str (i ++ j)) rfl)⟩
      · have e' : (if i.length + j.length ≤ 1000000 then some (D.str (i ++ j)) else none) = some d := e
        rw [if_neg c] at e'; cases e'
    | _ => cases e
  | _ => cases e

/-! ### == of data -/
mutual
def toP : D → PyData
  | .bl b => .bool b
  | .int i => .int i
  | .str s => .str s
  | .tup xs => .tuple (toPs xs)
  | .lst _ xs => .list (toPs xs)
  | .cst xs => .list (toPs xs)
  | .non => .none
  | .ty _ => .none
  | .obj _ _ _ _ => .none
def toPs : List D → List PyData
  | [] => []
  | x :: xs => toP x :: toPs xs
end
mutual
def hasP : D → Bool
  | .tup xs => hasPs xs
  | .lst _ xs => hasPs xs
  | .cst xs => hasPs xs
  | .ty _ => false
  | .obj _ _ _ _ => false
  | .bl _ => true | .int _ => true | .str _ => true | .non => true
def hasPs : List D → Bool
  | [] => true
  | x :: xs => hasP x && hasPs xs
end
section
variable {ca : Str → Addr} {F H : Hp}
mutual
theorem Rep.dp (sm : Same F H) : ∀ (d : D) (v : V), hasP d = true → Rep K ca F d v → Dp K H v (toP d)
  | .non, v, _, h => by cases (show v = .non from h); exact .non
  | .bl b, v, _, h => by cases (show v = .bl b from h); exact .bl b
  | .int b, v, _, h => by cases (show v = .int b from h); exact .int b
  | .str b, v, _, h => by cases (show v = .str b from h); exact .str b
  | .tup ds, v, z, h => by
    obtain ⟨a, vs, rfl, h1, h2⟩ := h
    exact .tup (sqT_same sm h1) (RepL.dp sm ds vs z h2)
  | .lst true _, _, _, h => h.elim
  | .lst false ds, v, z, h => by
    obtain ⟨a, vs, rfl, h1, h2⟩ := h
    exact .lst (sqOf (sm _ _ h1)) (RepL.dp sm ds vs z h2)
  | .cst ds, v, z, h => by
    obtain ⟨a, vs, rfl, h1, h2⟩ := h
    exact .lst (sm.seq h1) (RepL.dp sm ds vs z h2)
theorem RepL.dp (sm : Same F H) : ∀ (ds : List D) (vs : List V), hasPs ds = true → RepL K ca F ds vs → DpAll K H vs (toPs ds)
  | [], vs, _, h => by cases (show vs = [] from h); exact .nil
  | d :: ds, _, z, ⟨v, r, h1, h2, h3⟩ => by
    subst h1
    have z' : (hasP d && hasPs ds) = true := z
    rw [Bool.and_eq_true] at z'
    exact .cons (Rep.dp sm d v z'.1 h2) (RepL.dp sm ds r z'.2 h3)
end
mutual
theorem RepO.dp (sm : Same F H) : ∀ (d : D) (v : V) (f : Ct), hasP d = true → RepO K ca F H d v f → Dp K H v (toP d)
  | .lst true ds, v, f, z, h => by
    obtain ⟨a, vs, g, rfl, h1, h2, _⟩ := h
    exact .lst (sqOf h1) (RepOs.dp sm ds vs g z h2)
  | .lst false ds, v, f, z, h => Rep.dp sm _ _ z h.1
  | .non, v, f, z, h => Rep.dp sm _ _ z h.1
  | .bl _, v, f, z, h => Rep.dp sm _ _ z h.1
  | .int _, v, f, z, h => Rep.dp sm _ _ z h.1
  | .str _, v, f, z, h => Rep.dp sm _ _ z h.1
  | .tup _, v, f, z, h => Rep.dp sm _ _ z h.1
  | .cst _, v, f, z, h => Rep.dp sm _ _ z h.1
theorem RepOs.dp (sm : Same F H) : ∀ (ds : List D) (vs : List V) (f : Ct), hasPs ds = true → RepOs K ca F H ds vs f → DpAll K H vs (toPs ds)
  | [], vs, _, _, h => by cases (show vs = [] from h.1); exact .nil
  | d :: ds, _, f, z, ⟨v, r, f1, f2, h1, h2, h3, _⟩ => by
    subst h1
    have z' : (hasP d && hasPs ds) = true := z
    rw [Bool.and_eq_true] at z'
    exact .cons (RepO.dp sm d v f1 z'.1 h2) (RepOs.dp sm ds r f2 z'.2 h3)
end
end
def okP (d : D) : Bool := hasP d && SeqAt.shaped (toP d)
def eqP (a b : D) : Bool := PyData.eqv (toP a) (toP b)
def gEq (a b : D) : Option D := if okP a = true ∧ okP b = true then some (.bl (eqP a b)) else none
def gNe (a b : D) : Option D := if okP a = true ∧ okP b = true then some (.bl (!eqP a b)) else none
theorem sEq : OpS K (rEqD K) gEq := by
  intro ca F H x y a b d f1 f2 Q sm hx hy e q
  unfold gEq at e
  by_cases c : okP a = true ∧ okP b = true
  · rw [if_pos c] at e
    cases e
    have c1 := c.1
    have c2 := c.2
    unfold okP at c1 c2
    rw [Bool.and_eq_true] at c1 c2
    exact ⟨_, _, RepO.dp sm a x f1 c1.1 hx, RepO.dp sm b y f2 c2.1 hy, c1.2, c2.2, q (.bl _) _ (Rep.o (d := .bl _) rfl)⟩
  · rw [if_neg c] at e; cases e
theorem sNe : OpS K (rNeD K) gNe := by
  intro ca F H x y a b d f1 f2 Q sm hx hy e q
  unfold gNe at e
  by_cases c : okP a = true ∧ okP b = true
  · rw [if_pos c] at e
    cases e
    have c1 := c.1
    have c2 := c.2
    unfold okP at c1 c2
    rw [Bool.and_eq_true] at c1 c2
    exact ⟨_, _, RepO.dp sm a x f1 c1.1 hx, RepO.dp sm b y f2 c2.1 hy, c1.2, c2.2, q (.bl _) _ (Rep.o (d := .bl _) rfl)⟩
  · rw [if_neg c] at e; cases e
def isNonD : D → Bool
  | .non => true
  | _ => false
def gIsN (a b : D) : Option D := match b with
  | .non => some (.bl (isNonD a))
  | _ => none
def gNotN (a b : D) : Option D := match b with
  | .non => some (.bl (!isNonD a))
  | _ => none
theorem isN_of {ca : Str → Addr} {F H : Hp} {a : D} {x : V} {f : Ct} (h : RepO K ca F H a x f) : decide (x = .non) = isNonD a := by
  cases a with
  | non => cases (show x = .non from h.1); rfl
  | bl b => cases (show x = .bl b from h.1); rfl
  | int b => cases (show x = .int b from h.1); rfl
  | str b => cases (show x = .str b from h.1); rfl
  | ty b => cases (show x = .ty b from h.1); rfl
  | tup ds => obtain ⟨⟨a, vs, rfl, _⟩, _⟩ := h; rfl
  | cst ds => obtain ⟨⟨a, vs, rfl, _⟩, _⟩ := h; rfl
  | lst m ds => cases m with
    | true => obtain ⟨a, vs, g, rfl, _⟩ := h; rfl
    | false => obtain ⟨⟨a, vs, rfl, _⟩, _⟩ := h; rfl
  | obj m c ns ds => cases m with
    | true => obtain ⟨a, dx, fs, vs, g, rfl, _⟩ := h; rfl
    | false => obtain ⟨⟨a, dx, fs, vs, rfl, _⟩, _⟩ := h; rfl
theorem sIsN : OpS K (fun x y H Q => y = .non ∧ Q (.bl (decide (x = .non))) H) gIsN := by
  intro ca F H x y a b d f1 f2 Q sm hx hy e q
  cases b with
  | non =>
    cases (show some (D.bl (isNonD a)) = some d from e)
    refine ⟨hy.1, ?_⟩
    rw [isN_of hx]
    exact q (.bl _) _ (Rep.o (d := .bl _) rfl)
  | _ => cases e
theorem sNotN : OpS K (fun x y H Q => y = .non ∧ Q (.bl (!decide (x = .non))) H) gNotN := by
  intro ca F H x y a b d f1 f2 Q sm hx hy e q
  cases b with
  | non =>
    cases (show some (D.bl (!isNonD a)) = some d from e)
    refine ⟨hy.1, ?_⟩
    rw [isN_of hx]
    exact q (.bl _) _ (Rep.o (d := .bl _) rfl)
  | _ => cases e

/-! ### subscripts, len -/
def itemsD : D → Option (List D)
  | .lst _ xs => some xs
  | .cst xs => some xs
  | .tup xs => some xs
  | _ => none
def gIx (a b : D) : Option D := match b with
  | .int i => (match a with
    | .str z => if z.length ≤ 1000000 then (atI z.cps.toList i).map fun c => .str ⟨#[c]⟩ else none
    | .lst _ xs => atI xs i
    | .cst xs => atI xs i
    | .tup xs => atI xs i
    | _ => none)
  | _ => none
theorem atI_get {α β : Type} {xs : List α} {ys : List β} {i : Int} {y : β} (hl : xs.length = ys.length) (h : atI ys i = some y) : ∃ (j : Nat) (x : α), ys[j]? = some y ∧ xs[j]? = some x ∧ atI xs i = some x := by
  unfold atI at h ⊢
  obtain ⟨j, e, h⟩ := bind_some h
  have hj : j < ys.length := (List.getElem?_eq_some_iff.mp h).1
  obtain ⟨x, hx⟩ : ∃ x, xs[j]? = some x := ⟨xs[j]'(by omega), by simp [hl, hj]⟩
  refine ⟨j, x, h, hx, ?_⟩
  rw [hl, e]
  exact hx
theorem seq_of {ca : Str → Addr} {F H : Hp} {a : D} {x : V} {f : Ct} {xs : List D} (sm : Same F H) (h : RepO K ca F H a x f) (e : itemsD a = some xs) : ∃ p vs g, x = .ref p ∧ (SqL K H p vs ∨ SqT K H p vs) ∧ RepOs K ca F H xs vs g := by
  cases a with
  | tup ds =>
    cases (show some ds = some xs from e)
    obtain ⟨⟨a, vs, rfl, h1, h2⟩, _⟩ := h
    exact ⟨a, vs, _, rfl, .inr (sqT_same sm h1), h2.os⟩
  | cst ds =>
    cases (show some ds = some xs from e)
    obtain ⟨⟨a, vs, rfl, h1, h2⟩, _⟩ := h
    exact ⟨a, vs, _, rfl, .inl (sm.seq h1), h2.os⟩
  | lst m ds =>
    cases (show some ds = some xs from e)
    cases m with
    | true =>
      obtain ⟨a, vs, g, rfl, h1, h2, _⟩ := h
      exact ⟨a, vs, g, rfl, .inl (sqOf h1), h2⟩
    | false =>
      obtain ⟨⟨a, vs, rfl, h1, h2⟩, _⟩ := h
      exact ⟨a, vs, _, rfl, .inl (sqOf (sm _ _ h1)), h2.os⟩
  | _ => cases e
theorem gIx_seq {a d : D} {i : Int} (e : gIx a (.int i) = some d) : (∃ xs, itemsD a = some xs ∧ atI xs i = some d) ∨ ∃ z c, a = .str z ∧ z.length ≤ 1000000 ∧ atI z.cps.toList i = some c ∧ d = .str ⟨#[c]⟩ := by
  cases a with
  | tup xs => exact .inl ⟨xs, rfl, e⟩
  | cst xs => exact .inl ⟨xs, rfl, e⟩
  | lst m xs => exact .inl ⟨xs, rfl, e⟩
  | str z =>
    have e' : (if z.length ≤ 1000000 then (atI z.cps.toList i).map fun c => D.str ⟨#[c]⟩ else none) = some d := e
    by_cases c : z.length ≤ 1000000
    · rw [if_pos c] at e'
      cases e2 : atI z.cps.toList i with
      | none => rw [e2] at e'; cases e'
      | some c' =>
        rw [e2] at e'
        exact .inr ⟨z, c', rfl, c, e2, (Option.some.inj e').symm⟩
    · rw [if_neg c] at e'; cases e'
  | _ => cases e
theorem sIx : OpS K (rIx K) gIx := by
  intro ca F H x y a b d f1 f2 Q sm hx hy e q
  cases b with
  | int i =>
    rcases gIx_seq e with ⟨xs, e1, e2⟩ | ⟨z, c, rfl, hz, e2, rfl⟩
    · obtain ⟨p, vs, g, rfl, h1, h2⟩ := seq_of sm hx e1
      obtain ⟨j, v, g1, g2, g3⟩ := atI_get h2.length e2
      obtain ⟨v', g', k1, k2⟩ := h2.get g1
      rw [g2] at k1; cases k1
      rcases h1 with h1 | h1
      · exact .inl ⟨p, vs, i, v, rfl, hy.1, h1, g3, q v _ k2⟩
      · exact .inr (.inl ⟨p, vs, i, v, rfl, hy.1, h1, g3, q v _ k2⟩)
    · exact .inr (.inr ⟨z, i, c, hx.1, hy.1, le_sizeLine hz, e2, q (.str ⟨#[c]⟩) _ (Rep.o (d := .str _) rfl)⟩)
  | _ => cases e
def gLen : List D → Option D
  | [.str z] => if z.length ≤ 1000000 then some (.int (z.length : Nat)) else none
  | [a] => (itemsD a).map fun xs => .int (xs.length : Nat)
  | _ => none
theorem repOs1 {ca : Str → Addr} {F H : Hp} {a : D} {xs : List V} {f : Ct} (h : RepOs K ca F H [a] xs f) : ∃ x g, xs = [x] ∧ RepO K ca F H a x g := by
  obtain ⟨x, r, f1, f2, rfl, h1, ⟨rfl, _⟩, _⟩ := h
  exact ⟨x, f1, rfl, h1⟩
theorem repOs2 {ca : Str → Addr} {F H : Hp} {a b : D} {xs : List V} {f : Ct} (h : RepOs K ca F H [a, b] xs f) : ∃ x y g g', xs = [x, y] ∧ RepO K ca F H a x g ∧ RepO K ca F H b y g' := by
  obtain ⟨x, r, f1, f2, rfl, h1, h2, _⟩ := h
  obtain ⟨y, g', rfl, h3⟩ := repOs1 h2
  exact ⟨x, y, f1, g', rfl, h1, h3⟩
theorem sLen : CallS K (fun xs H Q => ∃ x n, xs = [x] ∧ LenV K x H n ∧ Q (.int n) H) gLen := by
  intro ca F H xs as d f1 Q sm hx e q
  unfold gLen at e
  split at e
  · rename_i z
    obtain ⟨x, g, rfl, h⟩ := repOs1 hx
    cases (show x = .str z from h.1)
    by_cases c : z.length ≤ 1000000
    · rw [if_pos c] at e; cases e
      exact ⟨_, z.length, rfl, ⟨le_sizeLine c, rfl⟩, q (.int _) _ (Rep.o (d := .int _) rfl)⟩
    · rw [if_neg c] at e; cases e
  · rename_i a _
    obtain ⟨x, g, rfl, h⟩ := repOs1 hx
    cases ei : itemsD a with
    | none => rw [ei] at e; cases e
    | some ys =>
      rw [ei] at e
      cases (show some (D.int (ys.length : Nat)) = some d from e)
      obtain ⟨p, vs, g, rfl, h1, h2⟩ := seq_of sm h ei
      refine ⟨_, ys.length, rfl, ?_, q (.int _) _ (Rep.o (d := .int _) rfl)⟩
      rcases h1 with h1 | h1
      · exact .inl ⟨vs, h1, h2.length.symm⟩
      · exact .inr ⟨vs, h1, h2.length.symm⟩
  · cases e

/-! ### abs, min, max -/
def gAbs : List D → Option D
  | [.int i] => some (.int (if i < 0 then -i else i))
  | _ => none
def gMin2 : List D → Option D
  | [.int i, .int j] => some (.int (if j < i then j else i))
  | _ => none
def gMax2 : List D → Option D
  | [.int i, .int j] => some (.int (if j > i then j else i))
  | _ => none
theorem sAbs : CallS K (fun xs H Q => ∃ i, xs = [.int i] ∧ Q (.int (if i < 0 then -i else i)) H) gAbs := by
  intro ca F H xs as d f1 Q sm hx e q
  unfold gAbs at e
  split at e
  · rename_i i
    cases e
    obtain ⟨x, g, rfl, h⟩ := repOs1 hx
    cases (show x = .int i from h.1)
    exact ⟨i, rfl, q (.int _) _ (Rep.o (d := .int _) rfl)⟩
  · cases e

theorem sMin2 : CallS K (fun xs H Q => ∃ i j, xs = [.int i, .int j] ∧ Q (.int (if j < i then j else i)) H) gMin2 := by
  intro ca F H xs as d f1 Q sm hx e q
  unfold gMin2 at e
  split at e
  · rename_i i j
    cases e
    obtain ⟨x, y, g, g', rfl, h, h'⟩ := repOs2 hx
    cases (show x = .int i from h.1)
    cases (show y = .int j from h'.1)
    exact ⟨i, j, rfl, q (.int _) _ (Rep.o (d := .int _) rfl)⟩
  · cases e

theorem sMax2 : CallS K (fun xs H Q => ∃ i j, xs = [.int i, .int j] ∧ Q (.int (if j > i then j else i)) H) gMax2 := by
  intro ca F H xs as d f1 Q sm hx e q
  unfold gMax2 at e
  split at e
  · rename_i i j
    cases e
    obtain ⟨x, y, g, g', rfl, h, h'⟩ := repOs2 hx
    cases (show x = .int i from h.1)
    cases (show y = .int j from h'.1)
    exact ⟨i, j, rfl, q (.int _) _ (Rep.o (d := .int _) rfl)⟩
  · cases e

/-- the ints of a list of ints -/
def intsOf : List D → Option (List Int)
  | [] => some []
  | .int i :: r => (intsOf r).map (i :: ·)
  | _ => none
theorem ints_map : ∀ ns : List Int, intsOf (ns.map D.int) = some ns
  | [] => rfl
  | i :: r => by show (intsOf (r.map D.int)).map (i :: ·) = _; rw [ints_map r]; rfl
theorem repOs_ints {ca : Str → Addr} {F H : Hp} : ∀ {ds : List D} {vs : List V} {f : Ct} {ns : List Int}, RepOs K ca F H ds vs f → intsOf ds = some ns → vs = ns.map V.int
  | [], vs, f, ns, h, e => by
    cases (show some [] = some ns from e)
    exact h.1
  | d :: r, vs, f, ns, h, e => by
    obtain ⟨v, r', f1, f2, h1, h2, h3, _⟩ := h
    cases d with
    | int i =>
      have e' : (intsOf r).map (i :: ·) = some ns := e
      cases e2 : intsOf r with
      | none => rw [e2] at e'; cases e'
      | some ms =>
        rw [e2] at e'
        cases (show some (i :: ms) = some ns from e')
        rw [h1, repOs_ints h3 e2, (show v = .int i from h2.1)]
        rfl
    | _ => cases e
def minI : Int → List Int → Int
  | m, [] => m
  | m, x :: xs => minI (if x < m then x else m) xs
def maxI : Int → List Int → Int
  | m, [] => m
  | m, x :: xs => maxI (if m < x then x else m) xs
theorem minI_le : ∀ (m : Int) (xs : List Int), minI m xs ≤ m ∧ (∀ x ∈ xs, minI m xs ≤ x) ∧ (minI m xs = m ∨ minI m xs ∈ xs)
  | m, [] => ⟨Int.le_refl _, by simp, .inl rfl⟩
  | m, x :: xs => by
    obtain ⟨h1, h2, h3⟩ := minI_le (if x < m then x else m) xs
    show minI (if x < m then x else m) xs ≤ m ∧ (∀ y ∈ x :: xs, minI (if x < m then x else m) xs ≤ y) ∧ (minI (if x < m then x else m) xs = m ∨ minI (if x < m then x else m) xs ∈ x :: xs)
    have a0 : (if x < m then x else m) ≤ m ∧ (if x < m then x else m) ≤ x := by split <;> omega
    have a : minI (if x < m then x else m) xs ≤ m ∧ minI (if x < m then x else m) xs ≤ x := ⟨Int.le_trans h1 a0.1, Int.le_trans h1 a0.2⟩
    refine ⟨a.1, fun y hy => ?_, ?_⟩
    · rcases List.mem_cons.mp hy with rfl | hy
      · exact a.2
      · exact h2 y hy
    · rcases h3 with h3 | h3
      · rw [h3]
        split
        · exact .inr List.mem_cons_self
        · exact .inl rfl
      · exact .inr (List.mem_cons_of_mem _ h3)
theorem maxI_le : ∀ (m : Int) (xs : List Int), m ≤ maxI m xs ∧ (∀ x ∈ xs, x ≤ maxI m xs) ∧ (maxI m xs = m ∨ maxI m xs ∈ xs)
  | m, [] => ⟨Int.le_refl _, by simp, .inl rfl⟩
  | m, x :: xs => by
    obtain ⟨h1, h2, h3⟩ := maxI_le (if m < x then x else m) xs
    show m ≤ maxI (if m < x then x else m) xs ∧ (∀ y ∈ x :: xs, y ≤ maxI (if m < x then x else m) xs) ∧ (maxI (if m < x then x else m) xs = m ∨ maxI (if m < x then x else m) xs ∈ x :: xs)
    have a0 : m ≤ (if m < x then x else m) ∧ x ≤ (if m < x then x else m) := by split <;> omega
    have a : m ≤ maxI (if m < x then x else m) xs ∧ x ≤ maxI (if m < x then x else m) xs := ⟨Int.le_trans a0.1 h1, Int.le_trans a0.2 h1⟩
    refine ⟨a.1, fun y hy => ?_, ?_⟩
    · rcases List.mem_cons.mp hy with rfl | hy
      · exact a.2
      · exact h2 y hy
    · rcases h3 with h3 | h3
      · rw [h3]
        split
        · exact .inr List.mem_cons_self
        · exact .inl rfl
      · exact .inr (List.mem_cons_of_mem _ h3)
def lstD : D → Option (List D)
  | .lst _ xs => some xs
  | .cst xs => some xs
  | _ => none
theorem lst_of {ca : Str → Addr} {F H : Hp} {a : D} {x : V} {f : Ct} {xs : List D} (sm : Same F H) (h : RepO K ca F H a x f) (e : lstD a = some xs) : ∃ p vs g, x = .ref p ∧ SqL K H p vs ∧ RepOs K ca F H xs vs g := by
  cases a with
  | cst ds =>
    cases (show some ds = some xs from e)
    obtain ⟨⟨a, vs, rfl, h1, h2⟩, _⟩ := h
    exact ⟨a, vs, _, rfl, sm.seq h1, h2.os⟩
  | lst m ds =>
    cases (show some ds = some xs from e)
    cases m with
    | true =>
      obtain ⟨a, vs, g, rfl, h1, h2, _⟩ := h
      exact ⟨a, vs, g, rfl, sqOf h1, h2⟩
    | false =>
      obtain ⟨⟨a, vs, rfl, h1, h2⟩, _⟩ := h
      exact ⟨a, vs, _, rfl, sqOf (sm _ _ h1), h2.os⟩
  | _ => cases e
def gMinL : List D → Option D
  | [a] => match (lstD a).bind intsOf with
    | some (m :: r) => some (.int (minI m r))
    | _ => none
  | _ => none
def gMaxL : List D → Option D
  | [a] => match (lstD a).bind intsOf with
    | some (m :: r) => some (.int (maxI m r))
    | _ => none
  | _ => none
def gSum : List D → Option D
  | [a] => match (lstD a).bind intsOf with
    | some ns => some (.int ns.sum)
    | _ => none
  | _ => none
theorem sMinL : CallS K (rMin K) gMinL := by
  intro ca F H xs as d f1 Q sm hx e q
  unfold gMinL at e
  split at e
  · rename_i a
    split at e
    · rename_i m r e1
      cases e
      obtain ⟨x, g, rfl, h⟩ := repOs1 hx
      obtain ⟨ds, e2, e3⟩ := bind_some e1
      obtain ⟨p, vs, g, rfl, h1, h2⟩ := lst_of sm h e2
      refine ⟨p, m :: r, rfl, by rw [← repOs_ints h2 e3]; exact h1, by simp, fun n hn hle => ?_⟩
      have k := minI_le m r
      have : n = minI m r := by
          have a1 : minI m r ≤ n := by
            rcases List.mem_cons.mp hn with rfl | z
            · exact k.1
            · exact k.2.1 n z
          have a2 : n ≤ minI m r := by
            rcases k.2.2 with z | z
            · rw [z]; exact hle m List.mem_cons_self
            · exact hle _ (List.mem_cons_of_mem _ z)
          omega
      subst this
      exact q (.int _) _ (Rep.o (d := .int _) rfl)
    · cases e
  · cases e

theorem sMaxL : CallS K (rMax K) gMaxL := by
  intro ca F H xs as d f1 Q sm hx e q
  unfold gMaxL at e
  split at e
  · rename_i a
    split at e
    · rename_i m r e1
      cases e
      obtain ⟨x, g, rfl, h⟩ := repOs1 hx
      obtain ⟨ds, e2, e3⟩ := bind_some e1
      obtain ⟨p, vs, g, rfl, h1, h2⟩ := lst_of sm h e2
      refine ⟨p, m :: r, rfl, by rw [← repOs_ints h2 e3]; exact h1, by simp, fun n hn hle => ?_⟩
      have k := maxI_le m r
      have : n = maxI m r := by
          have a1 : n ≤ maxI m r := by
            rcases List.mem_cons.mp hn with rfl | z
            · exact k.1
            · exact k.2.1 n z
          have a2 : maxI m r ≤ n := by
            rcases k.2.2 with z | z
            · rw [z]; exact hle m List.mem_cons_self
            · exact hle _ (List.mem_cons_of_mem _ z)
          omega
      subst this
      exact q (.int _) _ (Rep.o (d := .int _) rfl)
    · cases e
  · cases e

theorem sSum : CallS K (rSum K) gSum := by
  intro ca F H xs as d f1 Q sm hx e q
  unfold gSum at e
  split at e
  · rename_i a
    split at e
    · rename_i ns e1
      cases e
      obtain ⟨x, g, rfl, h⟩ := repOs1 hx
      obtain ⟨ds, e2, e3⟩ := bind_some e1
      obtain ⟨p, vs, g, rfl, h1, h2⟩ := lst_of sm h e2
      exact ⟨p, ns, rfl, by rw [← repOs_ints h2 e3]; exact h1, q (.int _) _ (Rep.o (d := .int _) rfl)⟩
    · cases e
  · cases e

/-- the boolsOf of a list of boolsOf -/
def boolsOf : List D → Option (List Bool)
  | [] => some []
  | .bl i :: r => (boolsOf r).map (i :: ·)
  | _ => none
theorem bools_map : ∀ ns : List Bool, boolsOf (ns.map D.bl) = some ns
  | [] => rfl
  | i :: r => by show (boolsOf (r.map D.bl)).map (i :: ·) = _; rw [bools_map r]; rfl
theorem repOs_bools {ca : Str → Addr} {F H : Hp} : ∀ {ds : List D} {vs : List V} {f : Ct} {ns : List Bool}, RepOs K ca F H ds vs f → boolsOf ds = some ns → vs = ns.map V.bl
  | [], vs, f, ns, h, e => by
    cases (show some [] = some ns from e)
    exact h.1
  | d :: r, vs, f, ns, h, e => by
    obtain ⟨v, r', f1, f2, h1, h2, h3, _⟩ := h
    cases d with
    | bl i =>
      have e' : (boolsOf r).map (i :: ·) = some ns := e
      cases e2 : boolsOf r with
      | none => rw [e2] at e'; cases e'
      | some ms =>
        rw [e2] at e'
        cases (show some (i :: ms) = some ns from e')
        rw [h1, repOs_bools h3 e2, (show v = .bl i from h2.1)]
        rfl
    | _ => cases e
def gAll : List D → Option D
  | [a] => match (lstD a).bind boolsOf with
    | some ns => some (.bl (ns.all id))
    | _ => none
  | _ => none
def gAny : List D → Option D
  | [a] => match (lstD a).bind boolsOf with
    | some ns => some (.bl (ns.any id))
    | _ => none
  | _ => none
theorem sAll : CallS K (rAll K) gAll := by
  intro ca F H xs as d f1 Q sm hx e q
  unfold gAll at e
  split at e
  · rename_i a
    split at e
    · rename_i ns e1
      cases e
      obtain ⟨x, g, rfl, h⟩ := repOs1 hx
      obtain ⟨ds, e2, e3⟩ := bind_some e1
      obtain ⟨p, vs, g, rfl, h1, h2⟩ := lst_of sm h e2
      exact ⟨p, ns, rfl, by rw [← repOs_bools h2 e3]; exact h1, q (.bl _) _ (Rep.o (d := .bl _) rfl)⟩
    · cases e
  · cases e

theorem sAny : CallS K (rAny K) gAny := by
  intro ca F H xs as d f1 Q sm hx e q
  unfold gAny at e
  split at e
  · rename_i a
    split at e
    · rename_i ns e1
      cases e
      obtain ⟨x, g, rfl, h⟩ := repOs1 hx
      obtain ⟨ds, e2, e3⟩ := bind_some e1
      obtain ⟨p, vs, g, rfl, h1, h2⟩ := lst_of sm h e2
      exact ⟨p, ns, rfl, by rw [← repOs_bools h2 e3]; exact h1, q (.bl _) _ (Rep.o (d := .bl _) rfl)⟩
    · cases e
  · cases e

/-! ### isinstance -/
def tyOfD : D → Option String
  | .non => none | .bl _ => some "bool" | .int _ => some "int" | .str _ => some "str"
  | .tup _ => some "tuple" | .lst _ _ => some "list" | .cst _ => some "list" | .ty _ => none | .obj _ _ _ _ => none
def isiT (t u : String) : Option Bool := if t = u then some true else if t = "bool" ∧ u = "int" then some true else if t ∈ ["bool", "int", "str", "tuple", "list"] ∧ u ∈ ["bool", "int", "str", "tuple", "list"] then some false else none
def gIsi : List D → Option D
  | [a, .ty u] => match tyOfD a with
    | some t => if t ∈ ["bool", "int", "str", "tuple", "list"] ∧ u ∈ ["bool", "int", "str", "tuple", "list"] then some (.bl (decide (t = u) || (decide (t = "bool") && decide (u = "int")))) else none
    | none => none
  | _ => none
theorem kitOne_isi {K : PySem.W.Frag} {t u : String} (h : t ∈ ["bool", "int", "str", "tuple", "list"]) (k : u ∈ ["bool", "int", "str", "tuple", "list"]) : PySem.W.kitOne K (.type t) (.type u) = some (decide (t = u) || (decide (t = "bool") && decide (u = "int"))) := by
  simp only [List.mem_cons, List.not_mem_nil, or_false] at h k
  rcases h with rfl | rfl | rfl | rfl | rfl <;> rcases k with rfl | rfl | rfl | rfl | rfl <;> exact kit_ty (by decide +kernel)
theorem ty_of {ca : Str → Addr} {F H : Hp} {a : D} {x : V} {f : Ct} {t : String} (sm : Same F H) (h : RepO K ca F H a x f) (e : tyOfD a = some t) : TyX K H x (.type t) := by
  have L : ∀ {p vs}, SqL K H p vs → TyX K H (.ref p) (.type "list") := fun {p vs} s => by
    rcases s with (s | ⟨o, s⟩) | ⟨o, its, n, k1, k2, _⟩
    · exact .base (.lst s)
    · exact .base (.frz s)
    · exact .kList k1 k2
  have T : ∀ {p vs}, SqT K H p vs → TyX K H (.ref p) (.type "tuple") := fun {p vs} s => by
    rcases s with (s | ⟨o, s⟩) | ⟨o, its, n, k1, k2, _⟩
    · exact .base (.tup s)
    · exact .fTuple s
    · exact .kTuple k1 k2
  cases a with
  | bl b => cases (show x = .bl b from h.1); cases (show some "bool" = some t from e); exact .base (.bl b)
  | int b => cases (show x = .int b from h.1); cases (show some "int" = some t from e); exact .base (.int b)
  | str b => cases (show x = .str b from h.1); cases (show some "str" = some t from e); exact .base (.str b)
  | tup ds =>
    cases (show some "tuple" = some t from e)
    obtain ⟨⟨a, vs, rfl, h1, h2⟩, _⟩ := h
    exact T (sqT_same sm h1)
  | cst ds =>
    cases (show some "list" = some t from e)
    obtain ⟨p, vs, g, rfl, h1, h2⟩ := lst_of sm h rfl
    exact L h1
  | lst m ds =>
    cases (show some "list" = some t from e)
    obtain ⟨p, vs, g, rfl, h1, h2⟩ := lst_of sm h rfl
    exact L h1
  | _ => cases e
theorem sIsi : CallS K (rIsi K) gIsi := by
  intro ca F H xs as d f1 Q sm hx e q
  unfold gIsi at e
  split at e
  · rename_i a u
    obtain ⟨x, y, g, g', rfl, h, h'⟩ := repOs2 hx
    cases (show y = .ty u from h'.1)
    split at e
    · rename_i t et
      by_cases c : t ∈ ["bool", "int", "str", "tuple", "list"] ∧ u ∈ ["bool", "int", "str", "tuple", "list"]
      · rw [if_pos c] at e
        cases e
        exact ⟨x, .ty u, _, _, _, rfl, .ty u, ty_of sm h et, kitOne_isi c.1 c.2, q (.bl _) _ (Rep.o (d := .bl _) rfl)⟩
      · rw [if_neg c] at e; cases e
    · cases e
  · cases e

/-! ### in -/
def flatD : D → Bool
  | .non => true | .bl _ => true | .int _ => true | .str _ => true | _ => false
def toV : D → V
  | .non => .non | .bl b => .bl b | .int i => .int i | .str s => .str s | _ => .non
theorem flat_of {ca : Str → Addr} {F H : Hp} {a : D} {x : V} {f : Ct} (h : RepO K ca F H a x f) (e : flatD a = true) : x = toV a ∧ flatV x = true := by
  cases a with
  | non => cases (show x = .non from h.1); exact ⟨rfl, rfl⟩
  | bl b => cases (show x = .bl b from h.1); exact ⟨rfl, rfl⟩
  | int b => cases (show x = .int b from h.1); exact ⟨rfl, rfl⟩
  | str b => cases (show x = .str b from h.1); exact ⟨rfl, rfl⟩
  | _ => cases e
theorem flats_of {ca : Str → Addr} {F H : Hp} : ∀ {ds : List D} {vs : List V} {f : Ct}, RepOs K ca F H ds vs f → ds.all flatD = true → vs = ds.map toV ∧ vs.all flatV = true
  | [], vs, f, h, e => by cases (show vs = [] from h.1); exact ⟨rfl, rfl⟩
  | d :: ds, vs, f, ⟨v, r, f1, f2, h1, h2, h3, _⟩, e => by
    rw [List.all_cons, Bool.and_eq_true] at e
    obtain ⟨k1, k2⟩ := flat_of h2 e.1
    obtain ⟨k3, k4⟩ := flats_of h3 e.2
    subst h1
    refine ⟨by rw [List.map_cons, ← k1, ← k3], ?_⟩
    rw [List.all_cons, k2, k4]; rfl
def gIn (neg : Bool) (a b : D) : Option D := match itemsD b with
  | some xs => if flatD a = true ∧ xs.all flatD = true then some (.bl (if neg then !inV (toV a) (xs.map toV) else inV (toV a) (xs.map toV))) else none
  | none => none
theorem sIn {neg : Bool} : OpS K (rIn K neg) (gIn neg) := by
  intro ca F H x y a b d f1 f2 Q sm hx hy e q
  unfold gIn at e
  cases ei : itemsD b with
  | none => rw [ei] at e; cases e
  | some xs =>
    rw [ei] at e
    by_cases c : flatD a = true ∧ xs.all flatD = true
    · simp only [c, and_self, if_true] at e
      cases e
      obtain ⟨p, vs, g, rfl, h1, h2⟩ := seq_of sm hy ei
      obtain ⟨k1, k2⟩ := flat_of hx c.1
      obtain ⟨k3, k4⟩ := flats_of h2 c.2
      refine ⟨p, vs, rfl, h1, k2, k4, ?_⟩
      rw [k1, k3]
      exact q (.bl _) _ (Rep.o (d := .bl _) rfl)
    · simp only [c, if_false] at e; cases e
/-- a sign in a text -/
def gInS (neg : Bool) (a b : D) : Option D := match a, b with
  | .str c, .str z => match c.cps.toList with
    | [k] => some (.bl (if neg then !decide (k ∈ z.cps.toList) else decide (k ∈ z.cps.toList)))
    | _ => none
  | _, _ => none
theorem str_one {c : Str} {k : Nat} (h : c.cps.toList = [k]) : c = ⟨#[k]⟩ := by
  cases c with
  | mk cps =>
    have : cps = #[k] := by
      apply Array.toList_inj.mp
      exact h
    rw [this]
theorem sInS : OpS K (fun x y H Q => ∃ (c : Nat) (z : Str), x = .str ⟨#[c]⟩ ∧ y = .str z ∧ Q (.bl (decide (c ∈ z.cps.toList))) H) (gInS false) := by
  intro ca F H x y a b d f1 f2 Q sm hx hy e q
  unfold gInS at e
  split at e
  · rename_i c z
    split at e
    · rename_i k h
      cases e
      exact ⟨k, z, by rw [(show x = .str c from hx.1), str_one h], hy.1, q (.bl _) _ (Rep.o (d := .bl _) rfl)⟩
    · cases e
  · cases e

theorem sNotInS : OpS K (fun x y H Q => ∃ (c : Nat) (z : Str), x = .str ⟨#[c]⟩ ∧ y = .str z ∧ Q (.bl (!decide (c ∈ z.cps.toList))) H) (gInS true) := by
  intro ca F H x y a b d f1 f2 Q sm hx hy e q
  unfold gInS at e
  split at e
  · rename_i c z
    split at e
    · rename_i k h
      cases e
      exact ⟨k, z, by rw [(show x = .str c from hx.1), str_one h], hy.1, q (.bl _) _ (Rep.o (d := .bl _) rfl)⟩
    · cases e
  · cases e

end
end Bn

/-! Append, slices, join, the module's constants. -/
namespace Bn
open PySem PySem.Spec PyProof.Rows L2
section
variable {X : Cx} {B : Bx} {W : WX}
def sApp (i : Nat) (m : ME) : MS := fun τ => match τ.getD i none with
  | some (.lst true _) => (m τ).s fun d τ1 => (match τ1.getD i none with
    | some (.lst true es) => if es.length < 1000000 then .nx (τ1.set i (some (.lst true (es ++ [d])))) else .bad
    | _ => .bad)
  | _ => .bad
theorem s_app {i : Nat} {o e : Expr} {apos cpos pos : Pos} {m : ME} (ho : PE X o (tVar i)) (he : PE X e (rdE X.K B W m))
    (hbase : attributeBase o "append" X.env (eval o X.env) = eval o X.env := by rfl)
    (hfew : ((backTo cpos (starEach [e] X.env)).all (fun x => !x.1) && (backToKw cpos (keywordEach [] X.env)).all (fun x => x.1.isSome)
      && decide ([e].length + ([] : List Keyword).length + (if ([] : List Keyword).isEmpty then 0 else 1) < 30)) = true := by rfl)
    (hline : (apos.endLine == cpos.line) = true := by rfl) (hs : starEach [e] X.env = (false, eval e X.env) :: starEach [] X.env := by rfl) (hplain : (backTo cpos (starEach [] X.env)).any (·.1) = false := by rfl)
    (hsw : swapsWith (.Call (.Attribute o "append" apos) [e] [] cpos) none pos.line X.env = pure false := by rfl) : PS X (.Expr (.Call (.Attribute o "append" apos) [e] [] cpos) pos) (rdS X.K B W (sApp i m)) :=
  PS.imp (ps_expr (pe_bm PySem.F.plainAttrs_list PySem.F.slot_list_append PySem.F.type_list_append mt_append ho (pa_cons he pa_nil hs) hbase hfew hline hs hplain) hsw) fun D σ H ⟨F, τ, vs, ds, s, p⟩ => by
    unfold sApp at p
    split at p
    · rename_i es0 e0
      obtain ⟨v, f, h1, a, us, g, rfl, h2, _⟩ := s.get (getD_some e0)
      refine ⟨.ref a, h1, .inl ⟨rfl, us, sqOf h2⟩, F, τ, vs, ds, s, post_imp (post_s (σ := σ) p) (fun d τ1 q y F1 H1 s1 => ?_) fun _ _ q => q⟩
      split at q
      · rename_i es e1
        have e1' := getD_some e1
        obtain ⟨v, k1, s2⟩ := s1.take e1'
        rw [h1] at k1
        cases k1
        by_cases hl : es.length < 1000000
        · rw [if_pos hl] at q
          obtain ⟨f, a', us', g, ea, hx, hg, _⟩ := s2.top
          cases ea
          refine ⟨a, us', y, rfl, rfl, hx, by rw [hg.length, sizeLine_eq]; omega, ?_⟩
          have s3 := s2.change (us := [y]) (ds := [d]) (ys := us' ++ [y]) (es2 := es ++ [d]) rfl hx fun g1 g2 r1 r2 => ⟨_, r1.append r2, fun b => Nat.le_refl _⟩
          have s4 := s3.putBack (i := i) (by rw [List.length_set]; exact (List.getElem?_eq_some_iff.mp e1').1) h1
          rw [List.set_set] at s4
          exact q σ F1 _ s4
        · rw [if_neg hl] at q; exact q.elim
      · exact q.elim
    · exact p.elim

/-! ### slices -/
def rdP (K : PySem.W.Frag) (B : Bx) (W : WX) (p : Env → R (Option Int)) : TO := fun σ H Q => ∃ F τ vs ds, StT K B F H σ τ vs ds ∧ post (fun o τ' => ∀ F' H', StT K B F' H' σ τ' vs ds → Q o H') (exW K B W σ vs ds) (p τ)
theorem PO.imp {e : Option Expr} {t t' : TO} (h : PO X e t) (k : ∀ σ H Q, t' σ H Q → t σ H Q) : PO X e t' := ⟨fun p s σ H Q I q => h.run p s σ H Q I (k _ _ _ q)⟩
def pNone : Env → R (Option Int) := fun τ => .ok none τ
def pSome (m : ME) : Env → R (Option Int) := fun τ => (m τ).bind fun d τ1 => match d with
  | .int i => .ok (some i) τ1
  | _ => .bad
theorem pe_none : PO X none (rdP X.K B W pNone) := PO.imp po_none fun σ H Q ⟨F, τ, vs, ds, s, k⟩ => k F H s
theorem pe_some {e : Expr} {m : ME} (h : PE X e (rdE X.K B W m)) : PO X (some e) (rdP X.K B W (pSome m)) := PO.imp (po_some h) fun σ H Q ⟨F, τ, vs, ds, s, k⟩ => by
  refine ⟨F, τ, vs, ds, s, post_imp (post_bind k) (fun d τ1 q v F1 H1 s1 => ?_) fun _ _ q => q⟩
  cases d with
  | int i => exact ⟨i, s1.topF rfl, q F1 H1 s1.pop⟩
  | _ => exact False.elim q
def cutL {α : Type} (xs : List α) (lo hi : Option Int) : List α := (xs.drop (HT.sIx xs.length 0 lo)).take (HT.sIx xs.length xs.length hi - HT.sIx xs.length 0 lo)
theorem RepL.drop {K : PySem.W.Frag} {ca : Str → Addr} {F : Hp} : ∀ {ds : List D} {vs : List V} (n : Nat), RepL K ca F ds vs → RepL K ca F (ds.drop n) (vs.drop n)
  | [], vs, n, h => by cases (show vs = [] from h); simp; exact rfl
  | d :: ds, vs, 0, h => h
  | d :: ds, _, n + 1, ⟨v, r, h1, h2, h3⟩ => by subst h1; exact h3.drop n
theorem RepL.take {K : PySem.W.Frag} {ca : Str → Addr} {F : Hp} : ∀ {ds : List D} {vs : List V} (n : Nat), RepL K ca F ds vs → RepL K ca F (ds.take n) (vs.take n)
  | [], vs, n, h => by cases (show vs = [] from h); simp; exact rfl
  | d :: ds, vs, 0, h => rfl
  | d :: ds, _, n + 1, ⟨v, r, h1, h2, h3⟩ => by subst h1; exact ⟨v, r.take n, rfl, h2, h3.take n⟩
theorem RepL.cut {K : PySem.W.Frag} {ca : Str → Addr} {F : Hp} {ds : List D} {vs : List V} (h : RepL K ca F ds vs) (lo hi : Option Int) : RepL K ca F (cutL ds lo hi) (cutV vs lo hi) := by
  unfold cutL cutV
  rw [h.length]
  exact (h.drop _).take _
def slR (d : D) (p r : Env → R (Option Int)) (f : D → Option Int → Option Int → Option D) (τ : Env) : R D := (p τ).bind fun lo τ1 => (r τ1).bind fun hi τ2 => match f d lo hi with
  | some x => .ok x τ2
  | none => .bad
def cutLd (d : D) (lo hi : Option Int) : Option D := match d with
  | .lst _ es => some (.lst true (cutL es lo hi))
  | .cst es => some (.lst true (cutL es lo hi))
  | _ => none
def cutSd (d : D) (lo hi : Option Int) : Option D := match d with
  | .str z => if z.length ≤ 1000000 then some (.str (cutS z lo hi)) else none
  | _ => none
def cutTd (d : D) (lo hi : Option Int) : Option D := match d with
  | .tup es => if HT.sIx es.length 0 lo = 0 ∧ HT.sIx es.length es.length hi = es.length then none else some (.tup (cutL es lo hi))
  | _ => none
def eSlice (f : D → Option Int → Option Int → Option D) (m : ME) (p r : Env → R (Option Int)) : ME := fun τ => (m τ).bind fun d τ1 => slR (freeze d) p r f τ1
theorem e_slice {e : Expr} {lo hi : Option Expr} {p2 pos : Pos} {m : ME} {p r : Env → R (Option Int)} {rd : V → Option Int → Option Int → Hp → VK → Prop} {f : D → Option Int → Option Int → Option D} (hr : SlR X rd)
    (hf : ∀ {F H σ τ v vs d ds l h x Q}, isFz d = true → f d l h = some x → StT X.K B F H σ τ (v :: vs) (d :: ds) → (∀ u F' H', StT X.K B F' H' σ τ (u :: vs) (x :: ds) → Q u H') → rd v l h H Q)
    (he : PE X e (rdE X.K B W m)) (hl : PO X lo (rdP X.K B W p)) (hu : PO X hi (rdP X.K B W r)) : PE X (.Subscript e (.Slice lo hi none p2) pos) (rdE X.K B W (eSlice f m p r)) :=
  PE.imp (pe_slice hr he hl hu) fun σ H Q ⟨F, τ, vs, ds, s, k⟩ => by
    refine ⟨F, τ, vs, ds, s, post_imp (post_bind k) (fun d τ1 q v F1 H1 s1 => ?_) fun _ _ q => q⟩
    obtain ⟨F2, s2⟩ := s1.freeze1
    refine ⟨F2, τ1, _, _, s2, post_imp (post_bind q) (fun l τ2 q F3 H3 s3 => ?_) fun c τ2 q F3 H3 s3 => q F3 H3 s3.pop⟩
    refine ⟨F3, τ2, _, _, s3, post_imp (post_bind q) (fun h τ3 q F4 H4 s4 => ?_) fun c τ2 q F3 H3 s3 => q F3 H3 s3.pop⟩
    cases ef : f (freeze d) l h with
    | none => rw [ef] at q; exact False.elim q
    | some x =>
      rw [ef] at q
      exact hf (freeze_fz d) ef s4 q
theorem e_sliceL {e : Expr} {lo hi : Option Expr} {p2 pos : Pos} {m : ME} {p r : Env → R (Option Int)} (he : PE X e (rdE X.K B W m)) (hl : PO X lo (rdP X.K B W p)) (hu : PO X hi (rdP X.K B W r)) : PE X (.Subscript e (.Slice lo hi none p2) pos) (rdE X.K B W (eSlice cutLd m p r)) :=
  e_slice sl_list (fun {F H σ τ v vs d ds l h x Q} z e s k => by
    cases d with
    | lst b es =>
      cases b with
      | true => cases z
      | false =>
        cases (show some (D.lst true (cutL es l h)) = some x from e)
        obtain ⟨a, us, ev, h1, h2⟩ := s.topF rfl
        subst ev
        exact ⟨a, us, rfl, sqOf (s.same _ _ h1), fun np hnp => k _ _ _ (((s.pop).pushL (h2.cut l h)).newLst (h2.cut l h).length hnp)⟩
    | cst es =>
      cases (show some (D.lst true (cutL es l h)) = some x from e)
      obtain ⟨a, us, ev, h1, h2⟩ := s.topF rfl
      subst ev
      exact ⟨a, us, rfl, s.same.seq h1, fun np hnp => k _ _ _ (((s.pop).pushL (h2.cut l h)).newLst (h2.cut l h).length hnp)⟩
    | _ => cases e) he hl hu
theorem e_sliceS {e : Expr} {lo hi : Option Expr} {p2 pos : Pos} {m : ME} {p r : Env → R (Option Int)} (he : PE X e (rdE X.K B W m)) (hl : PO X lo (rdP X.K B W p)) (hu : PO X hi (rdP X.K B W r)) : PE X (.Subscript e (.Slice lo hi none p2) pos) (rdE X.K B W (eSlice cutSd m p r)) :=
  e_slice sl_str (fun {F H σ τ v vs d ds l h x Q} z e s k => by
    cases d with
    | str zz =>
      by_cases hz : zz.length ≤ 1000000
      · have e' : (if zz.length ≤ 1000000 then some (D.str (cutS zz l h)) else none) = some x := e
        rw [if_pos hz] at e'
        cases e'
        exact ⟨zz, s.topF rfl, le_sizeLine hz, k _ _ _ (s.pop.push (d := .str _) rfl)⟩
      · have e' : (if zz.length ≤ 1000000 then some (D.str (cutS zz l h)) else none) = some x := e
        rw [if_neg hz] at e'; cases e'
    | _ => cases e) he hl hu
theorem e_sliceT {e : Expr} {lo hi : Option Expr} {p2 pos : Pos} {m : ME} {p r : Env → R (Option Int)} (he : PE X e (rdE X.K B W m)) (hl : PO X lo (rdP X.K B W p)) (hu : PO X hi (rdP X.K B W r)) : PE X (.Subscript e (.Slice lo hi none p2) pos) (rdE X.K B W (eSlice cutTd m p r)) :=
  e_slice sl_tup (fun {F H σ τ v vs d ds l h x Q} z e s k => by
    cases d with
    | tup es =>
      by_cases hw : HT.sIx es.length 0 l = 0 ∧ HT.sIx es.length es.length h = es.length
      · have e' : (if HT.sIx es.length 0 l = 0 ∧ HT.sIx es.length es.length h = es.length then none else some (D.tup (cutL es l h))) = some x := e
        rw [if_pos hw] at e'; cases e'
      · have e' : (if HT.sIx es.length 0 l = 0 ∧ HT.sIx es.length es.length h = es.length then none else some (D.tup (cutL es l h))) = some x := e
        rw [if_neg hw] at e'
        cases e'
        obtain ⟨a, us, ev, h1, h2⟩ := s.topF rfl
        subst ev
        exact ⟨a, us, rfl, sqT_same s.same h1, by rw [h2.length]; exact hw, fun np hnp => k _ _ _ (s.pop.newTup hnp (h2.cut l h))⟩
    | _ => cases e) he hl hu

/-! ### join -/
def strsOf : List D → Option (List Str)
  | [] => some []
  | .str i :: r => (strsOf r).map (i :: ·)
  | _ => none
theorem strs_map : ∀ ns : List Str, strsOf (ns.map D.str) = some ns
  | [] => rfl
  | i :: r => by show (strsOf (r.map D.str)).map (i :: ·) = _; rw [strs_map r]; rfl
theorem repOs_strs {K : PySem.W.Frag} {ca : Str → Addr} {F H : Hp} : ∀ {ds : List D} {vs : List V} {f : Ct} {ns : List Str}, RepOs K ca F H ds vs f → strsOf ds = some ns → vs = ns.map V.str
  | [], vs, f, ns, h, e => by
    cases (show some [] = some ns from e)
    exact h.1
  | d :: r, vs, f, ns, h, e => by
    obtain ⟨v, r', f1, f2, h1, h2, h3, _⟩ := h
    cases d with
    | str i =>
      have e' : (strsOf r).map (i :: ·) = some ns := e
      cases e2 : strsOf r with
      | none => rw [e2] at e'; cases e'
      | some ms =>
        rw [e2] at e'
        cases (show some (i :: ms) = some ns from e')
        rw [h1, repOs_strs h3 e2, (show v = .str i from h2.1)]
        rfl
    | _ => cases e
def eJoin (a b : ME) : ME := fun τ => (a τ).bind fun x τ1 => match x with
  | .str z => (b τ1).bind fun y τ2 => (match (itemsD y).bind strsOf with
    | some ys => if (ys.map (·.length)).sum + ys.length * z.length ≤ 1000000 then .ok (.str (Txt.join z ys)) τ2 else .bad
    | none => .bad)
  | _ => .bad
theorem e_join {o e : Expr} {apos pos : Pos} {a b : ME} (ho : PE X o (rdE X.K B W a)) (he : PE X e (rdE X.K B W b)) (hs : starEach [e] X.env = [(false, eval e X.env)] := by rfl) (hbase : attributeBase o "join" X.env (eval o X.env) = eval o X.env := by rfl) (hline : (apos.endLine == pos.line) = true := by rfl) :
    PE X (.Call (.Attribute o "join" apos) [e] [] pos) (rdE X.K B W (eJoin a b)) := PE.imp (pe_join ho he hs hbase hline) fun σ H Q ⟨F, τ, vs, ds, s, k⟩ => by
  refine ⟨F, τ, vs, ds, s, post_imp (post_bind k) (fun d τ1 q v F1 H1 s1 => ?_) fun _ _ q => q⟩
  cases d with
  | str z =>
    refine ⟨⟨z, s1.topF rfl⟩, F1, τ1, _, _, s1, post_imp (post_bind q) (fun d τ2 q w F2 H2 s2 => ?_) fun c τ2 q F2 H2 s2 => q F2 H2 s2.pop⟩
    split at q
    · rename_i ys ey
      obtain ⟨es, e1, e2⟩ := bind_some ey
      obtain ⟨f, hw⟩ := s2.top
      obtain ⟨p, us, g, rfl, h1, h2⟩ := seq_of s2.same hw e1
      by_cases hz : (ys.map (·.length)).sum + ys.length * z.length ≤ 1000000
      · rw [if_pos hz] at q
        refine ⟨z, p, ys, s1.topF rfl, rfl, by rw [← repOs_strs h2 e2]; exact h1, by omega, q _ _ _ (s2.pop.pop.push (d := .str _) rfl)⟩
      · rw [if_neg hz] at q; exact False.elim q
    · exact False.elim q
  | _ => exact False.elim q

/-! ### the module's constants -/
structure Kc (K : PySem.W.Frag) (mg : Str → Option Value) (x : Str) (d : D) : Prop where
  ex : ∃ v u, mg x = some u ∧ RelV v u ∧ ∀ ca F, Rep K ca F d v
theorem z_k {x : Str} {d : D} {pos : Pos} (k : Kc X.K X.mg x d) (hg : Gl X x) (hd : (x == ("__debug__" : Str)) = false := by decide) : PE X (.Name x pos) (rdZ X.K B (zC d)) := by
  obtain ⟨v, u, h1, h2, h3⟩ := k.ex
  exact z_c (pe_glob hg h1 h2 hd) fun F => h3 _ F
theorem kc_str {K : PySem.W.Frag} {mg : Str → Option Value} {x s : Str} {t : Tok} (h : mg x = some (.str s t)) : Kc K mg x (.str s) := ⟨.str s, _, h, ⟨t, rfl⟩, fun _ _ => rfl⟩
theorem kc_int {K : PySem.W.Frag} {mg : Str → Option Value} {x : Str} {s : Int} {t : Tok} (h : mg x = some (.int s t)) : Kc K mg x (.int s) := ⟨.int s, _, h, ⟨t, rfl⟩, fun _ _ => rfl⟩
/-- a tuple of texts -/
theorem repL_strs {K : PySem.W.Frag} {ca : Str → Addr} {F : Hp} : ∀ ss : List Str, RepL K ca F (ss.map D.str) (ss.map V.str)
  | [] => rfl
  | s :: r => ⟨.str s, r.map V.str, rfl, rfl, repL_strs r⟩
theorem kc_tupS {K : PySem.W.Frag} {mg : Str → Option Value} {x : Str} {a : Addr} {ss : List Str} (h : mg x = some (.ref a)) (hs : ∀ H, SqT K H a (ss.map V.str)) : Kc K mg x (.tup (ss.map D.str)) := ⟨.ref a, _, h, rfl, fun ca F => ⟨a, _, rfl, hs F, repL_strs ss⟩⟩
end
end Bn

/-! try .. except X as e: a suite that asks isinstance of e. -/
namespace Bn
open PySem PySem.Spec PyProof.Rows L2
abbrev Bx.withE (B : Bx) (i : Nat) (a : Addr) : Bx := { B with io := (i, .ref a) :: B.io }
theorem ioE {B : Bx} {i j : Nat} {a : Addr} (h : i ≠ j) (k : ioFree B j := by intro p hp; cases hp) : ioFree (B.withE i a) j := fun p hp => by
  rcases List.mem_cons.mp hp with rfl | hp
  · exact h
  · exact k p hp
def endAs (i : Nat) (r : SR) : SR := match r with
  | .nx τ => .nx (τ.set i none)
  | .rt d τ => .rt d τ
  | .bk τ => .bk (τ.set i none)
  | .ct τ => .ct (τ.set i none)
  | _ => .bad
def tryAs (i : Nat) (o : Option Bool) (c : Str) (τ : Env) (su : Str → MS) : SR := match o with
  | some true => if i < τ.length then endAs i (su c (τ.set i none)) else .bad
  | some false => .ex c τ
  | none => .bad
def sTryAs (i : Nat) (sub : Str → Option Bool) (b : MS) (su : Str → MS) : MS := fun τ => match b τ with
  | .ex c τ' => tryAs i (sub c) c τ' su
  | .nx τ' => .nx τ'
  | .rt d τ' => .rt d τ'
  | .bk τ' => .bk τ'
  | .ct τ' => .ct τ'
  | .bad => .bad
section
variable {X : Cx} {B : Bx} {W : WX}
theorem StT.withE {K : PySem.W.Frag} {F H : Hp} {σ : L2.St} {τ : Env} {vs : List V} {ds : List D} {i : Nat} {a : Addr} (s : StT K B F H σ τ vs ds) (hi : i < τ.length) (hf : ioFree B i) : StT K (B.withE i a) F H (σ.set i (some (.ref a))) (τ.set i none) vs ds := by
  have s1 := s.forget (i := i)
  have io : IoOk B σ := by obtain ⟨_, _, _, _, _, io⟩ := s; exact io
  have hl : σ.length = τ.length := by obtain ⟨_, _, A, _⟩ := s; exact A.length
  have s2 : StT K B F H (σ.set i (some (.ref a))) (τ.set i none) vs ds := s1.reset (by simp) (fun j d h => by
    have : j ≠ i := fun e => by
      subst e
      rw [List.getElem?_set_self hi] at h; cases h
    rw [List.getElem?_set_ne this.symm]) fun p hp => by rw [List.getElem?_set_ne (fun e => hf p hp e.symm)]; exact io p hp
  obtain ⟨f1, f2, A, b, w, io2⟩ := s2
  refine ⟨f1, f2, A, b, ⟨w.nd, w.dF, w.dR, w.sF, w.sR, w.s0, w.fr⟩, fun p hp => ?_⟩
  rcases List.mem_cons.mp hp with rfl | hp
  · rw [List.getElem?_set_self (by omega)]
  · exact io2 p hp
theorem StT.outE {K : PySem.W.Frag} {F H : Hp} {σ : L2.St} {τ : Env} {vs : List V} {ds : List D} {i : Nat} {a : Addr} (s : StT K (B.withE i a) F H σ τ vs ds) : StT K B F H σ τ vs ds := by
  obtain ⟨f1, f2, A, b, w, io2⟩ := s
  exact ⟨f1, f2, A, b, ⟨w.nd, w.dF, w.dR, w.sF, w.sR, w.s0, w.fr⟩, fun p hp => io2 p (List.mem_cons_of_mem _ hp)⟩
theorem StT.clearE {K : PySem.W.Frag} {F H : Hp} {σ : L2.St} {τ : Env} {vs : List V} {ds : List D} {i : Nat} (s : StT K B F H σ τ vs ds) (hf : ioFree B i) : StT K B F H (σ.set i none) (τ.set i none) vs ds := by
  have s1 := s.forget (i := i)
  have io : IoOk B σ := by obtain ⟨_, _, _, _, _, io⟩ := s; exact io
  have hl : σ.length = τ.length := by obtain ⟨_, _, A, _⟩ := s; exact A.length
  exact s1.reset (by simp) (fun j d h => by
    have : j ≠ i := fun e => by
      subst e
      by_cases hj : j < τ.length
      · rw [List.getElem?_set_self hj] at h; cases h
      · rw [List.getElem?_eq_none (by simp; omega)] at h; cases h
    rw [List.getElem?_set_ne this.symm]) fun p hp => by rw [List.getElem?_set_ne (fun e => hf p hp e.symm)]; exact io p hp
theorem s_tryAs {i : Nat} {x n : Str} {cv : Value} {body suite : List Stmt} {b₀ : Stmt} {np pos pos' : Pos} {b : MS} {su : Str → MS} (c : XOk X W) (hN : X.N.Nodup) (hi : X.N[i]? = some n) (hln : X.env.kindOf n = some .local) (sub : Str → Option Bool) (hn : Names X x cv) (hsub : ∀ y t, sub y = some t → PySem.W.exmOne X.K (.ref (B.ca y)) cv = some t) (hs : X.stack = X.env :: X.outer) (hf : X.env.frame = some X.env.locals)
    (hb : ∀ (W' : WX) (pn : List (Addr × Obj)) (xe : Value → Shared → Prop), XOk (X.tr pn xe) W' → PSs (X.tr pn xe) body (rdS X.K B W' b))
    (hsu : ∀ (a : Addr) (oe : Obj) (y : Str) (pn : List (Addr × Obj)), Zc (.ref (B.ca y)) none oe → (∃ vs, oe.data = .fields vs) → PSs (X.suite a ((a, oe) :: pn)) (b₀ :: suite) (rdS X.K (B.withE i a) W0 (su y))) (hio : ioFree B i := by intro p hp; cases hp) :
    PS X (.Try body [.ExceptHandler (some (.Name x np)) (some n) (b₀ :: suite) pos'] [] [] pos) (rdS X.K B W (sTryAs i sub b su)) :=
  PS.imp (ps_try_as (tb := fun W' => rdS X.K B W' b) (ts := fun a cls d => fun D σ H => ∃ y, cls = .ref (B.ca y) ∧ d = none ∧ rdS X.K (B.withE i a) W0 (su y) D σ H) hs hf hN hi hln hn c.tk (fun W' pn xe tk hp => hb W' pn xe ⟨tk, hp, c.calm⟩)
    fun a oe cls d pn hz hv => ⟨fun pins s σ H D I h => by
      obtain ⟨y, rfl, rfl, h⟩ := h
      exact (hsu a oe y pn hz hv).run pins s σ H D I h⟩) fun D σ H ⟨F, τ, vs, ds, s, p⟩ => by
    refine ⟨F, τ, vs, ds, s, ?_⟩
    unfold sTryAs at p
    cases e : b τ with
    | ex y τ' =>
      rw [e] at p
      intro σ' F' H' s'
      cases es : sub y with
      | none => simp only [es, tryAs] at p; exact p.elim
      | some t =>
        simp only [es] at p
        refine ⟨t, hsub y t es, fun ht a ha => ?_, fun ht => ?_⟩
        · subst ht
          by_cases hl : i < τ'.length
          · simp only [tryAs, hl, if_true] at p
            refine ⟨y, rfl, rfl, F', _, vs, ds, s'.withE hl hio, ?_⟩
            cases e2 : su y (τ'.set i none) with
            | nx τ2 => rw [e2] at p; exact fun σ2 F2 H2 s2 => p _ F2 H2 (s2.outE.clearE hio)
            | rt d τ2 => rw [e2] at p; exact fun v σ2 F2 H2 s2 => p v σ2 F2 H2 s2.outE
            | bk τ2 => rw [e2] at p; exact fun σ2 F2 H2 s2 => p _ F2 H2 (s2.outE.clearE hio)
            | ct τ2 => rw [e2] at p; exact fun σ2 F2 H2 s2 => p _ F2 H2 (s2.outE.clearE hio)
            | ex c2 τ2 => rw [e2] at p; exact p.elim
            | bad => rw [e2] at p; exact p.elim
          · simp only [tryAs, hl, if_false] at p; exact p.elim
        · subst ht; exact p σ' F' H' s'
    | _ => rw [e] at p; exact p
def eIs (o : Option Bool) : ME := fun τ => match o with
  | some b => .ok (.bl b) τ
  | none => .bad
theorem e_isE {i : Nat} {a : Addr} {oe : Obj} {pn : List (Addr × Obj)} {y : Str} {n A : Str} {vA : V} {cvA : Value} {o : Option Bool} {p p1 p2 pos : Pos} (hz : Zc (.ref (B.ca y)) none oe) (hv : ∃ vs, oe.data = .fields vs)
    (he : PE (X.suite a ((a, oe) :: pn)) (.Name n p1) (tVar i)) (hA : PE (X.suite a ((a, oe) :: pn)) (.Name A p2) (tC vA)) (hcv : ∀ u, RelV vA u → u = cvA) (hC : ∀ t, o = some t → ExcC X.K (B.ca y) ∧ PySem.W.kitOne X.K (.ref (B.ca y)) cvA = some t)
    (hg : Gl (X.suite a ((a, oe) :: pn)) "isinstance") (hm : X.mg "isinstance" = none)
    (hs1 : starEach [.Name n p1, .Name A p2] (X.suite a ((a, oe) :: pn)).env = (false, eval (.Name n p1) (X.suite a ((a, oe) :: pn)).env) :: starEach [.Name A p2] (X.suite a ((a, oe) :: pn)).env := by rfl)
    (hs2 : starEach [.Name A p2] (X.suite a ((a, oe) :: pn)).env = (false, eval (.Name A p2) (X.suite a ((a, oe) :: pn)).env) :: starEach [] (X.suite a ((a, oe) :: pn)).env := by rfl)
    (hpl : (backTo pos (starEach [.Name A p2] (X.suite a ((a, oe) :: pn)).env)).any (·.1) = false := by rfl) :
    PE (X.suite a ((a, oe) :: pn)) (.Call (.Name "isinstance" p) [.Name n p1, .Name A p2] [] pos) (rdE X.K (B.withE i a) W0 (eIs o)) := by
  cases o with
  | none => exact ⟨fun _ _ _ _ _ _ ⟨F, τ, vs, ds, s, h⟩ => False.elim h⟩
  | some t =>
    obtain ⟨C, hk⟩ := hC t rfl
    refine PE.imp (pe_callB (call_isE C hz hv) hg hm (by decide +kernel) (pa_cons he (pa_cons hA pa_nil hs2) hs1) (by decide) (by decide) hs1 hpl) fun σ H Q ⟨F, τ, vs, ds, s, h⟩ => ?_
    have io : IoOk (B.withE i a) σ := by obtain ⟨_, _, _, _, _, io⟩ := s; exact io
    exact ⟨.ref a, io (i, .ref a) List.mem_cons_self, vA, cvA, t, rfl, hcv, hk, h (.bl t) F H (s.push (d := .bl t) rfl)⟩
end
theorem kit_same {K : PySem.W.Frag} {a : Addr} : PySem.W.kitOne K (.ref a) (.ref a) = some true := by
  unfold PySem.W.kitOne
  rw [if_pos (by simp)]
theorem kit_type {K : PySem.W.Frag} {a : Addr} {T : String} {b : Bool} (hm : PySem.W.kitMeta T = true) (h : PySem.W.subIn K (.ref a) (.type T) = some b) : PySem.W.kitOne K (.ref a) (.type T) = some b := by
  unfold PySem.W.kitOne
  rw [if_neg (by intro z; cases z)]
  unfold PySem.W.kitCls
  simp only [hm, if_true]
  exact h
theorem kit_ref {K : PySem.W.Frag} {a x : Addr} {b : Bool} (h1 : PySem.W.hasDictIn K x = true) (ht : PySem.W.typeIn K (.ref x) = some (.type "type")) (h4 : PySem.W.subIn K (.ref a) (.ref x) = some b) (hb : b = true ∨ (a == x) = false) : PySem.W.kitOne K (.ref a) (.ref x) = some b := by
  obtain ⟨cd, hc, _⟩ := PySem.W.any_some h1
  have e2 : ((PySem.W.clsIn K x).isSome && PySem.W.typeIn K (.ref x) == some (.type "type")) = true := by rw [hc, ht] <;> rfl
  unfold PySem.W.kitOne
  by_cases e : a = x
  · subst e
    rw [if_pos (by simp)]
    rcases hb with rfl | hb
    · rfl
    · simp at hb
  · rw [if_neg (by simp; exact e)]
    show (if ((PySem.W.clsIn K x).isSome && PySem.W.typeIn K (.ref x) == some (.type "type")) = true then PySem.W.subIn K (.ref a) (.ref x) else none) = some b
    rw [if_pos e2]
    exact h4
theorem exm_type {K : PySem.W.Frag} {a : Addr} {T : String} {b : Bool} (h1 : PySem.W.subIn K (.type T) (.type "BaseException") = some true) (hm : PySem.W.kitMeta T = true) (h : PySem.W.subIn K (.ref a) (.type T) = some b) : PySem.W.exmOne K (.ref a) (.type T) = some b := by
  unfold PySem.W.exmOne
  rw [if_pos (by rw [h1]; rfl)]
  unfold PySem.W.kitCls
  simp only [hm, if_true]
  exact h
end Bn
namespace Bn
open PySem PySem.Spec PyProof.Rows L2
/-- list(xs): a new list -/
def eLstOf (m : MA) : ME := fun τ => (m τ).bind fun ds τ1 => match freezeL ds with
  | [.lst _ es] => .ok (.lst true es) τ1
  | [.tup es] => .ok (.lst true es) τ1
  | _ => .bad
theorem e_lstOf {X : Cx} {B : Bx} {W : WX} {x : Str} {p pos : Pos} {e : Expr} {m : MA} (hg : Gl X x) (hm : X.mg x = none) (hv : bootBuiltins x = some (.type "list")) (ha : PA X [e] (rdA X.K B W m)) (hn : x ≠ "__name__" := by decide) (hdb : (x == ("__debug__" : Str)) = false := by decide)
    (he : starEach [e] X.env = (false, eval e X.env) :: starEach [] X.env := by rfl) (hpl : (backTo pos (starEach [] X.env)).any (·.1) = false := by rfl) : PE X (.Call (.Name x p) [e] [] pos) (rdE X.K B W (eLstOf m)) := PE.imp (pe_callTy call_list_of hg hm hv ha hn hdb he hpl) fun σ H Q ⟨F, τ, vs, ds, s, p⟩ => by
  refine ⟨F, τ, vs, ds, s, post_imp (post_bind p) (fun es τ1 q us F1 H1 hl s1 => ?_) fun _ _ q => q⟩
  obtain ⟨F2, sm, rl, s2⟩ := s1.freeze hl
  match h : freezeL es, q, rl with
  | [.lst b xs], q, rl =>
    obtain ⟨v, r, rfl, r1, r2⟩ := rl
    cases (show r = [] from r2)
    cases b with
    | true => exact r1.elim
    | false =>
      obtain ⟨a, ws, rfl, h1, h2⟩ := r1
      exact ⟨a, ws, rfl, .inl (sqOf (s2.same _ _ h1)), fun l hl => q _ _ _ ((s2.pushL h2).newLst h2.length hl)⟩
  | [.tup xs], q, rl =>
    obtain ⟨v, r, rfl, r1, r2⟩ := rl
    cases (show r = [] from r2)
    obtain ⟨a, ws, rfl, h1, h2⟩ := r1
    exact ⟨a, ws, rfl, .inr (sqT_same s2.same h1), fun l hl => q _ _ _ ((s2.pushL h2).newLst h2.length hl)⟩
end Bn

/-! Objects of own classes that never change once they are made; lists joined. -/
namespace Bn
open PySem PySem.Spec PyProof.Rows L2
theorem upd_upd {H : Hp} {a : Addr} {x y : HO} : upd (upd H a x) a y = upd H a y := by
  funext b
  by_cases h : b = a
  · subst h; rw [upd_same, upd_same]
  · rw [upd_ne h, upd_ne h, upd_ne h]
/-! ### __init__: one attribute after the other -/
def rdIn (K : PySem.W.Frag) (C : Addr) : List (Str × Nat) → TS
  | [] => fun D σ H => D.nx σ H
  | (f, i) :: r => fun D σ H => ∃ a dx fs y, σ[0]? = some (some (V.ref a)) ∧ σ[i]? = some (some y) ∧ H a = some (.ins C dx fs) ∧ NoAttr K C f ∧ fs.length < 1000 ∧ rdIn K C r D σ (upd H a (.ins C dx (putF f y fs)))
section
variable {X : Cx} {C : Addr}
theorem in_nil : PSs X [] (rdIn X.K C []) := PSs.imp pss_nil fun D σ H h => h
theorem in_cons {f : Str} {i : Nat} {o v : Expr} {pos pos' : Pos} {r : List Stmt} {as : List (Str × Nat)} (cl : Cls X.K C) (ho : PE X o (tVar 0)) (hv : PE X v (tVar i)) (hr : PSs X r (rdIn X.K C as)) (hs : swapsWith v (some (.Attribute o f pos')) pos.line X.env = pure false := by rfl) :
    PSs X (.Assign [.Attribute o f pos'] v pos :: r) (rdIn X.K C ((f, i) :: as)) := PSs.imp (pss_cons (ps_fld ho hv hs) hr) fun D σ H h => by
  obtain ⟨a, dx, fs, y, h1, h2, h3, h4, h5, h6⟩ := h
  exact ⟨y, h2, .ref a, h1, a, C, dx, fs, rfl, h3, cl, h4, h5, h6⟩
end
theorem putF_new (f : Str) (v : V) : ∀ fs : List (Str × V), f ∉ fs.map (·.1) → putF f v fs = fs ++ [(f, v)]
  | [], _ => rfl
  | (g, x) :: r, h => by
    have h1 : ¬ g = f := fun e => h (by rw [List.map_cons, e]; exact List.mem_cons_self)
    have h2 : f ∉ r.map (·.1) := fun e => h (by rw [List.map_cons]; exact List.mem_cons_of_mem _ e)
    show (if g = f then (g, v) :: r else (g, x) :: putF f v r) = _
    rw [if_neg h1, putF_new f v r h2]
    rfl
theorem in_run {K : PySem.W.Frag} {C : Addr} {D : Ends} {σ : L2.St} {a dx : Addr} (h0 : σ[0]? = some (some (V.ref a))) : ∀ (ns : List Str) (ws : List V) (k : Nat) (fs : List (Str × V)) (H : Hp), ws.length = ns.length → (∀ i w, ws[i]? = some w → σ[k + i]? = some (some w)) → (∀ n ∈ ns, NoAttr K C n) → (fs.map (·.1) ++ ns).Nodup →
    fs.length + ns.length < 1000 → H a = some (.ins C dx fs) → D.nx σ (upd H a (.ins C dx (fs ++ ns.zip ws))) → rdIn K C (ns.zip (List.range' k ns.length)) D σ H
  | [], ws, k, fs, H, hl, hv, hn, nd, sz, hH, q => by
    cases ws with
    | nil =>
      show D.nx σ H
      have e : upd H a (.ins C dx (fs ++ [])) = H := by
        funext b
        by_cases h : b = a
        · subst h; rw [upd_same, List.append_nil]; exact hH.symm
        · rw [upd_ne h]
      rw [← e]; exact q
    | cons _ _ => simp at hl
  | n :: ns, [], k, fs, H, hl, _, _, _, _, _, _ => by simp at hl
  | n :: ns, w :: ws, k, fs, H, hl, hv, hn, nd, sz, hH, q => by
    have nf : n ∉ fs.map (·.1) := fun h => by
      have := (List.nodup_append.mp nd).2.2 n h n List.mem_cons_self
      exact this rfl
    have e := putF_new n w fs nf
    refine ⟨a, dx, fs, w, h0, by simpa using hv 0 w rfl, hH, hn n List.mem_cons_self, by simp at sz; omega, ?_⟩
    rw [e]
    refine in_run h0 ns ws (k + 1) (fs ++ [(n, w)]) _ (by simpa using hl) (fun i y hy => ?_) (fun m hm => hn m (List.mem_cons_of_mem _ hm)) ?_ (by simp at sz ⊢; omega) upd_same ?_
    · have := hv (i + 1) y (by simpa using hy)
      rw [show k + 1 + i = k + (i + 1) by omega]; exact this
    · rw [List.map_append]
      simpa using nd
    · rw [upd_upd]
      simpa using q
def spI (ca : Str → Addr) (c : Str) (ns : List Str) : Sp := fun vs H Q _ => ∃ a dx ws, vs = .ref a :: ws ∧ ws.length = ns.length ∧ H a = some (.ins (ca c) dx []) ∧ Q .non (upd H a (.ins (ca c) dx (ns.zip ws)))
section
variable {P : Program} {w : World} {K : PySem.W.Frag} {mg : Str → Option Value} {base : Heap} {ca : Str → Addr}
theorem init_ok {x qual : Str} {st : Stmt} {f : Addr} {fd : FuncData} {ps : List Str} {c : Str} {ns : List Str} (F : Fun K x qual st f fd) (S : FnScope ps ps (defScope st)) (hps : ps.length = ns.length + 1) (nd : ns.Nodup) (hn : ∀ n ∈ ns, NoAttr K (ca c) n) (hl : ns.length < 1000)
    (hb : ∀ (cdv : Value) (A : Around) (outer : List PySem.Env) (s : Shared) (H : Hp) (E : XK), PSs (cxOf (L2.CX P w) P w K mg base ps qual (defScope st) f cdv A outer s H E) (defBody st) (rdIn K (ca c) (ns.zip (List.range' 1 ns.length)))) :
    FnOk P w K mg base (L2.CX P w) 1 f fd ps (spI ca c ns) := by
  refine F.okX S (fun vs H Q E h => ?_) (fun cdv A outer s H vs Q E hr h => ?_)
  · obtain ⟨a, dx, ws, rfl, h1, _⟩ := h
    rw [List.length_cons, h1, hps]
  · obtain ⟨a, dx, ws, rfl, h1, h2, q⟩ := h
    refine ⟨_, hb cdv A outer s H E, ?_⟩
    have hlen : ps.length - (V.ref a :: ws).length = 0 := by rw [List.length_cons, hps, h1]; omega
    have e0 : L2.start ps (V.ref a :: ws) = some (V.ref a) :: ws.map some := by
      unfold L2.start
      rw [hlen]; simp
    rw [e0]
    refine in_run (dx := dx) rfl ns ws 1 [] H h1 (fun i y hy => ?_) hn (by simpa using nd) (by simpa using hl) h2 ?_
    · rw [show 1 + i = i + 1 by omega, List.getElem?_cons_succ, List.getElem?_map, hy]; rfl
    · rw [List.nil_append]; exact q
/-- a class that can be made -/
structure MkO (P : Program) (w : World) (K : PySem.W.Frag) (mg : Str → Option Value) (base : Heap) (ca : Str → Addr) (x : Str) (ns : List Str) : Prop where
  ex : ∃ f fd ps, Mk K (ca x) f ∧ mg x = some (.ref (ca x)) ∧ Binds K fd ps [] ∧ FnOk P w K mg base (L2.CX P w) 1 f fd ps (spI ca x ns)
/-- a method -/
structure MFo (P : Program) (w : World) (K : PySem.W.Frag) (mg : Str → Option Value) (base : Heap) (ca : Str → Addr) (j : Nat) (c m : Str) (g : List D → CR) : Prop where
  ex : ∃ k f fd ps, k ≤ j ∧ Meth K (ca c) m f ∧ Binds K fd ps [] ∧ FnOk P w K mg base (L2.CX P w) k f fd ps (spP K ca g)
  cl : Cls K (ca c)
theorem MFo.mono {i j : Nat} {c m : Str} {g : List D → CR} (h : MFo P w K mg base ca i c m g) (k : i ≤ j) : MFo P w K mg base ca j c m g := by
  obtain ⟨⟨k', f, fd, ps, h1, h2⟩, cl⟩ := h
  exact ⟨⟨k', f, fd, ps, Nat.le_trans h1 k, h2⟩, cl⟩
def MAll (P : Program) (w : World) (K : PySem.W.Frag) (mg : Str → Option Value) (base : Heap) (ca : Str → Addr) (j : Nat) (m : Str) : List (Str × (List D → CR)) → Prop
  | [] => True
  | p :: r => MFo P w K mg base ca j p.1 m p.2 ∧ MAll P w K mg base ca j m r
theorem MAll.get {j : Nat} {m : Str} : ∀ {As : List (Str × (List D → CR))} {c : Str} {g : List D → CR}, MAll P w K mg base ca j m As → As.lookup c = some g → MFo P w K mg base ca j c m g
  | [], _, _, _, e => by cases e
  | (c', g') :: r, c, g, ⟨h1, h2⟩, e => by
    rw [List.lookup_cons] at e
    by_cases q : c = c'
    · subst q
      simp at e; subst e; exact h1
    · have q' : (c == c') = false := by simpa using q
      rw [q'] at e
      exact h2.get e
end
def eMake (c : Str) (ns : List Str) (m : MA) : ME := fun τ => (m τ).bind fun ds τ1 => if ds.length = ns.length then .ok (.obj false c ns (freezeL ds)) τ1 else .bad
section
variable {X : Cx} {B : Bx} {W : WX}
theorem e_make {x : Str} {p pos : Pos} {e : Expr} {es : List Expr} {m : MA} {ns : List Str} {j : Nat} (c : XOk X W) (G : MkO X.prog X.w X.K X.mg X.base B.ca x ns) (hr : Room j X.A) (hg : Gl X x) (ha : PA X (e :: es) (rdA X.K B W m)) (hk : 2 ≤ j := by decide) (hdb : (x == ("__debug__" : Str)) = false := by decide)
    (he : starEach (e :: es) X.env = (false, eval e X.env) :: starEach es X.env := by rfl) (hpl : (backTo pos (starEach es X.env)).any (·.1) = false := by rfl) : PE X (.Call (.Name x p) (e :: es) [] pos) (rdE X.K B W (eMake x ns m)) := by
  obtain ⟨f, fd, ps, M, hm, hb, F⟩ := G.ex
  refine PE.imp (pe_make M F (hr.mono hk) hg hm hb .nil passL ha hdb he hpl) fun σ H Q h => ?_
  obtain ⟨F, τ, vs, ds, s, p⟩ := h
  refine ⟨F, τ, vs, ds, s, post_imp (post_bind p) (fun as τ1 q us F1 H1 hl s1 => ?_) fun _ _ q => q⟩
  by_cases z : as.length = ns.length
  · rw [if_pos z] at q
    obtain ⟨F2, sm, rl, s2⟩ := s1.freeze hl
    intro y dx ny ndx ne
    refine ⟨y, dx, us, by rw [List.append_nil], hl.trans z, upd_same, rfl, ?_⟩
    rw [upd_upd]
    have s3 := s2.grown (same_upd (o := .own y) ndx)
    have hy : upd H1 dx (.own y) y = none := by rw [upd_ne (Ne.symm ne)]; exact ny
    obtain ⟨s4, sm2⟩ := s3.new (o := .ins (B.ca x) dx (ns.zip us)) hy
    exact q _ _ _ (s4.push ⟨y, dx, _, us, rfl, upd_same, rfl, (hl.trans z).symm, RepL.mono sm2 _ _ rl⟩)
  · rw [if_neg z] at q; exact q.elim
/-! ### attributes -/
def lookD (f : Str) : List Str → List D → Option D
  | n :: ns, x :: xs => if f = n then some x else lookD f ns xs
  | _, _ => none
def gFld (c f : Str) : D → Option D
  | .obj _ c' ns xs => if c' = c then lookD f ns xs else none
  | _ => none
theorem look_rep {K : PySem.W.Frag} {ca : Str → Addr} {F : Hp} {f : Str} {d : D} : ∀ {ns : List Str} {xs : List D} {vs : List V}, RepL K ca F xs vs → lookD f ns xs = some d → ∃ v, (ns.zip vs).lookup f = some v ∧ Rep K ca F d v
  | [], _, _, _, e => by cases e
  | _ :: _, [], _, _, e => by cases e
  | n :: ns, x :: xs, _, ⟨v, r, rfl, h1, h2⟩, e => by
    have e : (if f = n then some x else lookD f ns xs) = some d := e
    rw [List.zip_cons_cons, List.lookup_cons]
    by_cases q : f = n
    · rw [if_pos q] at e
      cases e
      have q' : (f == n) = true := by simpa using q
      rw [q']
      exact ⟨v, rfl, h1⟩
    · rw [if_neg q] at e
      have q' : (f == n) = false := by simpa using q
      rw [q']
      exact look_rep h2 e
theorem look_repO {K : PySem.W.Frag} {ca : Str → Addr} {F H : Hp} {f : Str} {d : D} : ∀ {ns : List Str} {xs : List D} {vs : List V} {g : Ct}, RepOs K ca F H xs vs g → lookD f ns xs = some d → ∃ v g', (ns.zip vs).lookup f = some v ∧ RepO K ca F H d v g'
  | [], _, _, _, _, e => by cases e
  | _ :: _, [], _, _, _, e => by cases e
  | n :: ns, x :: xs, _, _, ⟨v, r, f1, f2, rfl, h1, h2, _⟩, e => by
    have e : (if f = n then some x else lookD f ns xs) = some d := e
    rw [List.zip_cons_cons, List.lookup_cons]
    by_cases q : f = n
    · rw [if_pos q] at e
      cases e
      have q' : (f == n) = true := by simpa using q
      rw [q']
      exact ⟨v, f1, rfl, h1⟩
    · rw [if_neg q] at e
      have q' : (f == n) = false := by simpa using q
      rw [q']
      exact look_repO h2 e
theorem z_fld {e : Expr} {c f : Str} {pos : Pos} {m : MZ} (cl : Cls X.K (B.ca c)) (na : NoAttr X.K (B.ca c) f) (h : PE X e (rdZ X.K B m)) (hb : attributeBase e f X.env (eval e X.env) = eval e X.env := by rfl) : PE X (.Attribute e f pos) (rdZ X.K B (z1 (gFld c f) m)) := PE.imp (pe_fld h hb) fun σ H Q h => by
  obtain ⟨F, τ, vs, ds, s, d, e, k⟩ := h
  obtain ⟨a, ea, e3⟩ := bind_some e
  refine ⟨F, τ, vs, ds, s, a, ea, fun x f1 hx => ?_⟩
  cases a with
  | obj mm c' ns xs =>
    replace e3 : (if c' = c then lookD f ns xs else none) = some d := e3
    by_cases q : c' = c
    · rw [if_pos q] at e3
      subst q
      cases mm with
      | true =>
        obtain ⟨a, dx, fs, ws, g, rfl, h2, rfl, h4, h5, _⟩ := hx
        obtain ⟨v, g', l, r⟩ := look_repO h5 e3
        exact ⟨a, _, dx, _, v, rfl, h2, cl, na, l, k v _ r⟩
      | false =>
        obtain ⟨⟨a, dx, fs, ws, rfl, h2, rfl, h4, h5⟩, _⟩ := hx
        obtain ⟨v, l, r⟩ := look_rep h5 e3
        exact ⟨a, _, dx, _, v, rfl, s.same _ _ h2, cl, na, l, k v _ r.o⟩
    · rw [if_neg q] at e3; cases e3
  | _ => cases e3
/-! ### a method's call -/
def tMethX (C : Addr) (m : Str) (sp : Sp) (E : L2.St → XK) (ta : TE) (t : TA) : TE := fun σ H Q => ta σ H fun x H1 => ∃ a dx fs, x = .ref a ∧ H1 a = some (.ins C dx fs) ∧ fs.lookup m = none ∧ t σ H1 fun vs H2 => sp (x :: vs) H2 Q (E σ)
theorem pe_methX {CX : CXT} {k : Nat} {f C : Addr} {fd : FuncData} {ps : List Str} {sp : Sp} {E : L2.St → XK} {m : Str} {pos apos : Pos} {e o : Expr} {es : List Expr} {ta : TE} {t : TA} {pl : Sem Bool} (he : PE X o ta) (c : Cls X.K C) (hm : Meth X.K C m f) (F : FnOk X.prog X.w X.K X.mg X.base CX k f fd ps sp) (hr : Room k X.A) (hb : Binds X.K fd ps []) (hx : ∀ σ, PassesAt CX X σ (E σ)) (ha : PA X (e :: es) t)
    (hst : starEach (e :: es) X.env = (false, eval e X.env) :: starEach es X.env := by rfl) (hpl : (backTo pos (starEach es X.env)).any (·.1) = false := by rfl)
    (ht : eval (.Call (.Attribute o m apos) (e :: es) [] pos) X.env = (do
      let ov ← eval o X.env
      standAt apos.atName
      let (f, first) ← holding [ov] (getMethod ov m pl)
      callWith pos f first (backTo pos (starEach (e :: es) X.env)) (backToKw pos (keywordEach [] X.env))) := by rfl) :
    PE X (.Call (.Attribute o m apos) (e :: es) [] pos) (tMethX C m sp E ta t) := by
  refine ⟨fun pins s σ H Q I h => ?_⟩
  refine PySem.W.methodCall_KW (pl := pl) (thn (he.run pins s σ H _ I h) fun u s1 ⟨x, H1, I1, rx, a, dx, fs, ex, ea, l, q⟩ => ?_) ht
  subst ex
  obtain rfl : u = Value.ref a := rx
  refine getmeth_ok I1 ea c hm l ?_
  refine PySem.W.callWith_K (first := [.ref a]) (h₀ := X.base) I.ok.mod.kin hm.kp (thn (ha.run pos pins s1 σ H1 _ I1 q) fun us s2 ⟨vs, H2, I2, r, q2⟩ => ⟨I2.kIn, ?_⟩) hst hpl
  exact run_fnS (us := .ref a :: us) (vs := .ref a :: vs) F hr hb (hx σ) I2 (.cons rfl r) q2
/-- the classes that have it, each with its function -/
def eMeth (As : List (Str × (List D → CR))) (m : Str) (mo : ME) (ma : MA) : ME := fun τ => (mo τ).bind fun d τ1 => match d with
  | .obj false c ns xs => match As.lookup c with
    | some g => if ns.contains m = true then .bad else (ma τ1).bind fun ds τ2 => ofC (g (.obj false c ns xs :: freezeL ds)) τ2
    | none => .bad
  | _ => .bad
theorem lookup_zip_none {m : Str} : ∀ {ns : List Str} {vs : List V}, ns.contains m = false → (ns.zip vs).lookup m = none
  | [], _, _ => rfl
  | _ :: _, [], _ => rfl
  | n :: ns, v :: vs, h => by
    rw [List.contains_cons] at h
    obtain ⟨h1, h2⟩ := Bool.or_eq_false_iff.mp h
    rw [List.zip_cons_cons, List.lookup_cons, h1]
    exact lookup_zip_none h2
theorem e_meth {m : Str} {o e : Expr} {es : List Expr} {apos pos : Pos} {mo : ME} {ma : MA} {As : List (Str × (List D → CR))} {k : Nat} {pl : Sem Bool} (c : XOk X W) (hAs : MAll X.prog X.w X.K X.mg X.base B.ca k m As) (hr : Room k X.A) (ho : PE X o (rdE X.K B W mo)) (ha : PA X (e :: es) (rdA X.K B W ma)) (hne : As ≠ [] := by exact fun z => nomatch z)
    (hst : starEach (e :: es) X.env = (false, eval e X.env) :: starEach es X.env := by rfl) (hpl : (backTo pos (starEach es X.env)).any (·.1) = false := by rfl)
    (ht : eval (.Call (.Attribute o m apos) (e :: es) [] pos) X.env = (do
      let ov ← eval o X.env
      standAt apos.atName
      let (f, first) ← holding [ov] (getMethod ov m pl)
      callWith pos f first (backTo pos (starEach (e :: es) X.env)) (backToKw pos (keywordEach [] X.env))) := by rfl) :
    PE X (.Call (.Attribute o m apos) (e :: es) [] pos) (rdE X.K B W (eMeth As m mo ma)) := by
  refine ⟨fun pins s σ H Q I h => ?_⟩
  obtain ⟨F, τ, vs, ds, st, p⟩ := h
  unfold eMeth at p
  cases em : mo τ with
  | bad => rw [em] at p; exact p.elim
  | ex y τ1 =>
    cases As with
    | nil => exact absurd rfl hne
    | cons p0 r0 =>
      obtain ⟨⟨k', f, fd, ps, hk, hm, hb, G⟩, cl⟩ := hAs.1
      refine (pe_methX (pl := pl) ho cl hm G (hr.mono hk) hb (fun σ => passAt c.tk σ) ha hst hpl ht).run pins s σ H Q I ⟨F, τ, vs, ds, st, ?_⟩
      rw [em] at p ⊢
      exact p
  | ok d τ1 =>
    rw [em] at p
    cases d with
    | obj mm cc ns xs =>
      cases mm with
      | true => exact p.elim
      | false =>
        cases eg : As.lookup cc with
        | none => replace p : post _ _ (match As.lookup cc with | some g => if ns.contains m = true then R.bad else (ma τ1).bind fun ds τ2 => ofC (g (.obj false cc ns xs :: freezeL ds)) τ2 | none => R.bad) := p; rw [eg] at p; exact p.elim
        | some g =>
          replace p : post _ _ (match As.lookup cc with | some g => if ns.contains m = true then R.bad else (ma τ1).bind fun ds τ2 => ofC (g (.obj false cc ns xs :: freezeL ds)) τ2 | none => R.bad) := p
          rw [eg] at p
          by_cases nc : ns.contains m = true
          · replace p : post _ _ (if ns.contains m = true then R.bad else (ma τ1).bind fun ds τ2 => ofC (g (.obj false cc ns xs :: freezeL ds)) τ2) := p
            rw [if_pos nc] at p; exact p.elim
          · replace p : post _ _ (if ns.contains m = true then R.bad else (ma τ1).bind fun ds τ2 => ofC (g (.obj false cc ns xs :: freezeL ds)) τ2) := p
            rw [if_neg nc] at p
            obtain ⟨⟨k', f, fd, ps, hk, hm, hb, G⟩, cl⟩ := hAs.get eg
            refine (pe_methX (pl := pl) ho cl hm G (hr.mono hk) hb (fun σ => passAt c.tk σ) ha hst hpl ht).run pins s σ H Q I ⟨F, τ, vs, ds, st, ?_⟩
            rw [em]
            intro v F1 H1 s1
            obtain ⟨a, dx, fs, ws, rfl, h2, rfl, h4, h5⟩ := s1.topF rfl
            refine ⟨a, dx, _, rfl, s1.same _ _ h2, lookup_zip_none (by simpa using nc), F1, τ1, _, _, s1, post_imp (post_bind p) (fun as τ2 q us F2 H2 hl s2 => ?_) fun y τ2 q F2 H2 s2 => q F2 H2 s2.pop⟩
            obtain ⟨F3, sm, rl, s3⟩ := s2.freeze hl
            have rep := s3.topF rfl
            have s4 := s3.pop
            refine ⟨F3, .obj false cc ns xs :: freezeL as, s3.same, ⟨.ref a, us, rfl, rep, rl⟩, ?_⟩
            cases eq : g (.obj false cc ns xs :: freezeL as) with
            | ok d => rw [eq] at q; exact fun v F' H' f k1 k2 k3 k4 k5 k6 k7 => q v F' H' (s4.called k1 k2 k3 k4 k5 k6 k7)
            | ex y => rw [eq] at q; exact fun H' k1 => q F3 H' (s4.grown k1)
            | bad => rw [eq] at q; exact q
    | _ => exact p.elim
/-! ### isinstance of an own class -/
structure IsO (K : PySem.W.Frag) (C A : Addr) (b : Bool) : Prop where
  cl : Cls K C
  ha : PySem.W.findIn K (.ref C) "__class__" = some (some (.builtin "object.__class__"))
  hn : PySem.W.specialIn K (.builtin "object.__class__") "__get__" = some (some (.builtin "getset_descriptor.__get__"))
  htk : PySem.W.takesIn K (.builtin "object.__class__") = some true
  hm : PySem.W.mroIn K C (.type "object") = some true
  ko : PySem.W.kitOne K (.ref C) (.ref A) = some b
def zIsO (tbl : Str → Option Bool) (m : MZ) : MZ := fun τ => (m τ).bind fun d => match d with
  | .obj _ c _ _ => (tbl c).map D.bl
  | _ => none
theorem z_isO {A : Str} {aA : Addr} {e : Expr} {p p2 pos : Pos} {m : MZ} {tbl : Str → Option Bool} (hA : X.mg A = some (.ref aA)) (hI : ∀ c b, tbl c = some b → IsO X.K (B.ca c) aA b) (hg : Gl X "isinstance") (hgA : Gl X A) (hm : X.mg "isinstance" = none) (h : PE X e (rdZ X.K B m)) (hdb : (A == ("__debug__" : Str)) = false := by decide)
    (hs1 : starEach [e, .Name A p2] X.env = (false, eval e X.env) :: starEach [.Name A p2] X.env := by rfl) (hs2 : starEach [.Name A p2] X.env = (false, eval (.Name A p2) X.env) :: starEach [] X.env := by rfl) (hpl : (backTo pos (starEach [.Name A p2] X.env)).any (·.1) = false := by rfl) :
    PE X (.Call (.Name "isinstance" p) [e, .Name A p2] [] pos) (rdZ X.K B (zIsO tbl m)) := by
  have hAe : PE X (.Name A p2) (tC (.ref aA)) := pe_glob hgA hA rfl hdb
  refine PE.imp (pe_callB call_isi hg hm (by decide +kernel) (pa_cons h (pa_cons hAe pa_nil hs2) hs1) (by decide) (by decide) hs1 hpl) fun σ H Q h => ?_
  obtain ⟨F, τ, vs, ds, s, d, e, k⟩ := h
  obtain ⟨a, ea, e⟩ := bind_some e
  refine ⟨F, τ, vs, ds, s, a, ea, fun x f1 hx => ?_⟩
  cases a with
  | obj mm c' ns xs =>
    cases et : tbl c' with
    | none => simp only [et] at e; cases e
    | some b =>
      simp only [et] at e
      cases e
      have J := hI c' b et
      have hx' : ∃ a dx fs, x = .ref a ∧ H a = some (.ins (B.ca c') dx fs) := by
        cases mm with
        | true => obtain ⟨a, dx, fs, ws, g, h1, h2, _⟩ := hx; exact ⟨a, dx, fs, h1, h2⟩
        | false => obtain ⟨⟨a, dx, fs, ws, h1, h2, _⟩, _⟩ := hx; exact ⟨a, dx, fs, h1, s.same _ _ h2⟩
      obtain ⟨a, dx, fs, rfl, h2⟩ := hx'
      exact ⟨.ref a, .ref aA, .ref (B.ca c'), .ref aA, b, rfl, .own aA, .base (.ins h2 J.cl J.ha J.hn J.htk J.hm), J.ko, k (.bl b) _ (Rep.o (d := .bl b) rfl)⟩
  | _ => cases e
/-! ### lists joined -/
theorem RepL.append {K : PySem.W.Frag} {ca : Str → Addr} {F : Hp} : ∀ {xs ys : List D} {us vs : List V}, RepL K ca F xs us → RepL K ca F ys vs → RepL K ca F (xs ++ ys) (us ++ vs)
  | [], _, _, _, h, k => by cases (show _ = [] from h); exact k
  | x :: xs, ys, _, vs, ⟨v, r, e, h1, h2⟩, k => by subst e; exact ⟨v, r ++ vs, rfl, h1, h2.append k⟩
def catD : D → D → Option D
  | .lst false xs, .lst false ys => if xs.length + ys.length ≤ 1000000 then some (.lst true (xs ++ ys)) else none
  | _, _ => none
def slE' (o : Option D) (τ : Env) : R D := match o with
  | some x => .ok x τ | none => .bad
def eCat (a b : ME) : ME := fun τ => (a τ).bind fun x τ1 => (b τ1).bind fun y τ2 => slE' (catD (freeze x) (freeze y)) τ2
theorem e_cat {a b : Expr} {pos : Pos} {m n : ME} (ha : PE X a (rdE X.K B W m)) (hb : PE X b (rdE X.K B W n)) : PE X (.BinOp a .Add b pos) (rdE X.K B W (eCat m n)) := PE.imp (pe_op op_cat ha hb) fun σ H Q h => by
  obtain ⟨F, τ, vs, ds, s, p⟩ := h
  refine ⟨F, τ, vs, ds, s, post_imp (post_bind p) (fun x τ1 q v F1 H1 s1 => ⟨F1, τ1, _, _, s1, post_imp (post_bind q) (fun y τ2 q w F2 H2 s2 => ?_) fun c τ2 q F2 H2 s2 => q F2 H2 s2.pop⟩) fun _ _ q => q⟩
  obtain ⟨F3, sm, ⟨w', r', e1, r1, ⟨v', r'', e2, r2, _⟩⟩, s3⟩ := StT.freeze (us := [w, v]) (es := [y, x]) s2 rfl
  cases e1; cases e2
  cases ex : freeze x with
  | lst m1 xs =>
    cases ey : freeze y with
    | lst m2 ys =>
      rw [ex, ey] at q
      rw [ex] at r2; rw [ey] at r1
      cases m1 with
      | true => exact q.elim
      | false =>
        cases m2 with
        | true => exact q.elim
        | false =>
          replace q : post _ _ (slE' (if xs.length + ys.length ≤ 1000000 then some (.lst true (xs ++ ys)) else none) τ2) := q
          by_cases z : xs.length + ys.length ≤ 1000000
          · rw [if_pos z] at q
            obtain ⟨a1, us1, rfl, k1, k2⟩ := r2
            obtain ⟨a2, us2, rfl, l1, l2⟩ := r1
            refine ⟨a1, a2, us1, us2, rfl, rfl, s3.same _ _ k1, s3.same _ _ l1, ?_, fun p hp => ?_⟩
            · have h1 := k2.length
              have h2 := l2.length
              exact le_sizeLine (by omega)
            · have k3 := RepL.append k2 l2
              exact q _ _ _ ((s3.pushL k3).newLst k3.length hp)
          · rw [if_neg z] at q; exact q.elim
    | _ => rw [ex, ey] at q; cases xs <;> first | exact q.elim | (revert q; cases m1 <;> exact fun q => q.elim)
  | _ => rw [ex] at q; exact q.elim
end
end Bn

/-! A list lent to a call; an item set anew; `in` over lists of data. -/
namespace Bn
open PySem PySem.Spec PyProof.Rows L2
mutual
/-- holds nothing that could be a list or an object handed in -/
def clean : D → Bool
  | .non => true | .bl _ => true | .int _ => true | .str _ => true | .ty _ => true
  | .tup xs => cleanL xs
  | .lst m xs => m && cleanL xs
  | .cst _ => false
  | .obj m _ _ xs => m && cleanL xs
def cleanL : List D → Bool
  | [] => true
  | x :: xs => clean x && cleanL xs
end
section
variable {K : PySem.W.Frag} {ca : Str → Addr} {F F' H H' : Hp}
mutual
theorem Rep.back (k : ∀ a xs, SqT K F a xs → SqT K F' a xs) : ∀ (d : D) (v : V), clean d = true → Rep K ca F d v → Rep K ca F' d v
  | .non, _, _, h => h
  | .bl _, _, _, h => h
  | .int _, _, _, h => h
  | .str _, _, _, h => h
  | .ty _, _, _, h => h
  | .tup ds, v, c, h => by
    obtain ⟨a, vs, h1, h2, h3⟩ := h
    exact ⟨a, vs, h1, k a vs h2, RepL.back k ds vs c h3⟩
  | .lst true _, _, _, h => h.elim
  | .lst false xs, _, c, _ => by cases (show (false && cleanL xs) = true from c)
  | .cst _, _, c, _ => by cases (show false = true from c)
  | .obj true _ _ _, _, _, h => h.elim
  | .obj false _ _ xs, _, c, _ => by cases (show (false && cleanL xs) = true from c)
theorem RepL.back (k : ∀ a xs, SqT K F a xs → SqT K F' a xs) : ∀ (ds : List D) (vs : List V), cleanL ds = true → RepL K ca F ds vs → RepL K ca F' ds vs
  | [], _, _, h => h
  | d :: ds, _, c, ⟨v, r, e, h1, h2⟩ => by
    have c' : (clean d && cleanL ds) = true := c
    rw [Bool.and_eq_true] at c'
    exact ⟨v, r, e, Rep.back k d v c'.1 h1, RepL.back k ds r c'.2 h2⟩
end
mutual
theorem RepO.back (k : ∀ a xs, SqT K F a xs → SqT K F' a xs) : ∀ (d : D) (v : V) (f : Ct), clean d = true → RepO K ca F H d v f → RepO K ca F' H d v f
  | .lst true ds, v, f, c, h => by
    obtain ⟨a, vs, g, h1, h2, h3, h4⟩ := h
    exact ⟨a, vs, g, h1, h2, RepOs.back k ds vs g (by have c' : (true && cleanL ds) = true := c; simpa using c') h3, h4⟩
  | .obj true _ ns ds, v, f, c, h => by
    obtain ⟨a, dx, fs, vs, g, h1, h2, h2', h2'', h3, h4⟩ := h
    exact ⟨a, dx, fs, vs, g, h1, h2, h2', h2'', RepOs.back k ds vs g (by have c' : (true && cleanL ds) = true := c; simpa using c') h3, h4⟩
  | .lst false _, v, f, c, h => ⟨Rep.back k _ v c h.1, h.2⟩
  | .obj false _ _ _, v, f, c, h => ⟨Rep.back k _ v c h.1, h.2⟩
  | .non, v, f, c, h => ⟨Rep.back k _ v c h.1, h.2⟩
  | .bl _, v, f, c, h => ⟨Rep.back k _ v c h.1, h.2⟩
  | .int _, v, f, c, h => ⟨Rep.back k _ v c h.1, h.2⟩
  | .str _, v, f, c, h => ⟨Rep.back k _ v c h.1, h.2⟩
  | .ty _, v, f, c, h => ⟨Rep.back k _ v c h.1, h.2⟩
  | .tup _, v, f, c, h => ⟨Rep.back k _ v c h.1, h.2⟩
  | .cst _, v, f, c, h => ⟨Rep.back k _ v c h.1, h.2⟩
theorem RepOs.back (k : ∀ a xs, SqT K F a xs → SqT K F' a xs) : ∀ (ds : List D) (vs : List V) (f : Ct), cleanL ds = true → RepOs K ca F H ds vs f → RepOs K ca F' H ds vs f
  | [], _, _, _, h => h
  | d :: ds, _, f, c, ⟨v, r, f1, f2, e, h1, h2, h3⟩ => by
    have c' : (clean d && cleanL ds) = true := c
    rw [Bool.and_eq_true] at c'
    exact ⟨v, r, f1, f2, e, RepO.back k d v f1 c'.1 h1, RepOs.back k ds r f2 c'.2 h2, h3⟩
end
/-- what is owned is a list or an object -/
def LsIn (H : Hp) (a : Addr) : Prop := (∃ xs, H a = some (.lst xs)) ∨ ∃ c dx fs, H a = some (.ins c dx fs)
mutual
theorem RepO.kind : ∀ (d : D) (v : V) (f : Ct), RepO K ca F H d v f → ∀ a, 0 < f a → LsIn H a
  | .lst true ds, v, f, h, b, hb => by
    obtain ⟨a, vs, g, h1, h2, h3, h4⟩ := h
    by_cases e : b = a
    · subst e; exact .inl ⟨_, h2⟩
    · exact RepOs.kind ds vs g h3 b (by rw [h4, if_neg e] at hb; omega)
  | .obj true _ ns ds, v, f, h, b, hb => by
    obtain ⟨a, dx, fs, vs, g, h1, h2, h2', h2'', h3, h4⟩ := h
    by_cases e : b = a
    · subst e; exact .inr ⟨_, _, _, h2⟩
    · exact RepOs.kind ds vs g h3 b (by rw [h4, if_neg e] at hb; omega)
  | .lst false _, v, f, h, b, hb => by rw [h.2] at hb; omega
  | .obj false _ _ _, v, f, h, b, hb => by rw [h.2] at hb; omega
  | .non, v, f, h, b, hb => by rw [h.2] at hb; omega
  | .bl _, v, f, h, b, hb => by rw [h.2] at hb; omega
  | .int _, v, f, h, b, hb => by rw [h.2] at hb; omega
  | .str _, v, f, h, b, hb => by rw [h.2] at hb; omega
  | .ty _, v, f, h, b, hb => by rw [h.2] at hb; omega
  | .tup _, v, f, h, b, hb => by rw [h.2] at hb; omega
  | .cst _, v, f, h, b, hb => by rw [h.2] at hb; omega
theorem RepOs.kind : ∀ (ds : List D) (vs : List V) (f : Ct), RepOs K ca F H ds vs f → ∀ a, 0 < f a → LsIn H a
  | [], _, _, h, b, hb => by rw [h.2] at hb; omega
  | d :: ds, _, f, ⟨v, r, f1, f2, e, h1, h2, h3⟩, b, hb => by
    rw [h3] at hb
    by_cases q : 0 < f1 b
    · exact RepO.kind d v f1 h1 b q
    · exact RepOs.kind ds r f2 h2 b (by omega)
end
/-- the unchanging part while a call runs that is lent what f counts -/
def lend (F H : Hp) (f : Ct) : Hp := fun b => match F b with
  | some o => some o
  | none => if 0 < f b then H b else none
theorem lend_same (F H : Hp) (f : Ct) : Same F (lend F H f) := fun b x e => by
  unfold lend; rw [e]
theorem lend_sub (sm : Same F H) (f : Ct) : Same (lend F H f) H := fun b x e => by
  unfold lend at e
  cases q : F b with
  | some o => rw [q] at e; cases e; exact sm _ _ q
  | none =>
    rw [q] at e
    replace e : (if 0 < f b then H b else none) = some x := e
    by_cases z : 0 < f b
    · rw [if_pos z] at e; exact e
    · rw [if_neg z] at e; cases e
theorem lend_at (sm : Same F H) {f : Ct} {b : Addr} (h : 0 < f b) : lend F H f b = H b := by
  unfold lend
  cases q : F b with
  | some o => exact (sm _ _ q).symm
  | none => exact if_pos h
end
section
variable {K : PySem.W.Frag} {B : Bx} {F H : Hp} {σ : L2.St} {τ : Env} {vs us : List V} {ds es : List D} {v : V} {d : D} {f : Ct}
theorem lend_rep (s : StT K B F H σ τ vs ds) (r : RepOs K B.ca F H es us f) : RepL K B.ca (lend F H f) (freezeL es) us :=
  RepOs.fz (lend_same F H f) _ _ _ (fun _ h => lend_at s.same h) r
/-- behind a call that was lent something: all is as it was -/
theorem StT.lent {F' H' : Hp} {g : Ct} (s : StT K B F H σ τ vs ds) (r : RepOs K B.ca F H es us f) (h1 : Same (lend F H f) F') (h2 : Same F' H') (h3 : Same H H') (hv : RepO K B.ca F' H' d v g) (h4 : ∀ a, g a ≤ 1) (h5 : ∀ a, 0 < g a → F' a = none ∧ H a = none)
    (h6 : ∀ a, F' a ≠ none → lend F H f a ≠ none ∨ H a = none) (hc : clean d = true) : ∃ F2, StT K B F2 H' σ τ (v :: vs) (d :: ds) := by
  classical
  have sm := lend_same F H f
  refine ⟨fun b => if F b = none ∧ 0 < f b then none else F' b, s.called (g := g) (fun b x e => ?_) (fun b x e => ?_) h3 (hv.back (fun a xs q => ?_) _ _ _ hc) h4 (fun a q => ⟨?_, (h5 a q).2⟩) fun a q => ?_⟩
  · show (if F b = none ∧ 0 < f b then none else F' b) = some x
    rw [if_neg (fun z => by rw [z.1] at e; cases e)]
    exact h1 _ _ (sm _ _ e)
  · replace e : (if F b = none ∧ 0 < f b then none else F' b) = some x := e
    split at e
    · cases e
    · exact h2 _ _ e
  · rcases q with q | q
    · refine .inl ?_
      have key : ∀ o, F' a = some o → (∀ ys, o ≠ .lst ys) → (∀ c dx fs, o ≠ .ins c dx fs) → (fun b => if F b = none ∧ 0 < f b then none else F' b) a = some o := fun o ho n1 n2 => by
        show (if F a = none ∧ 0 < f a then none else F' a) = some o
        rw [if_neg (fun z => ?_)]
        · exact ho
        · have e := h1 a
          rw [lend_at s.same z.2] at e
          rcases RepOs.kind _ _ _ r a z.2 with ⟨ys, hk⟩ | ⟨c, dx, fs, hk⟩
          · have := e _ hk
            rw [ho] at this
            cases this
            exact n1 _ rfl
          · have := e _ hk
            rw [ho] at this
            cases this
            exact n2 _ _ _ rfl
      rcases q with q | ⟨o, q⟩
      · exact .inl (key _ q (fun _ z => by cases z) (fun _ _ _ z => by cases z))
      · exact .inr ⟨o, key _ q (fun _ z => by cases z) (fun _ _ _ z => by cases z)⟩
    · exact .inr q
  · show (if F a = none ∧ 0 < f a then none else F' a) = none
    split
    · rfl
    · exact (h5 a q).1
  · replace q : (if F a = none ∧ 0 < f a then none else F' a) ≠ none := q
    by_cases z : F a = none ∧ 0 < f a
    · rw [if_pos z] at q; exact absurd rfl q
    · rw [if_neg z] at q
      rcases h6 a q with k | k
      · refine .inl fun e => ?_
        unfold lend at k
        rw [e] at k
        replace k : (if 0 < f a then H a else none) ≠ none := k
        rw [if_neg (fun y => z ⟨e, y⟩)] at k
        exact k rfl
      · exact .inr k
end
def lendR (r : CR) (τ : Env) : R D := match r with
  | .ok d => if clean d = true then .ok d τ else .bad
  | .ex c => .ex c τ
  | .bad => .bad
def eCallZ (g : List D → CR) (m : Env → Option (List D)) : ME := fun τ => match m τ with
  | some ds => lendR (g (freezeL ds)) τ
  | none => .bad
section
variable {X : Cx} {B : Bx} {W : WX}
theorem lend_sp {g : List D → CR} {F H : Hp} {σ : L2.St} {τ : Env} {vs us : List V} {ds es : List D} {f : Ct} {Q : VK} (s : StT X.K B F H σ τ vs ds) (r : RepOs X.K B.ca F H es us f) {pre : List D} {prv : List V} (hp : RepL X.K B.ca F pre prv)
    (p : post (fun d τ' => ∀ v F' H', StT X.K B F' H' σ τ' (v :: vs) (d :: ds) → Q v H') (exW X.K B W σ vs ds) (lendR (g (pre ++ freezeL es)) τ)) : spP X.K B.ca g (prv ++ us) H Q (W · · σ ·) := by
  refine ⟨lend F H f, pre ++ freezeL es, lend_sub s.same f, (RepL.mono (lend_same F H f) _ _ hp).append (lend_rep s r), ?_⟩
  unfold lendR at p
  cases eg : g (pre ++ freezeL es) with
  | ok d =>
    rw [eg] at p
    replace p : post _ _ (if clean d = true then R.ok d τ else R.bad) := p
    by_cases z : clean d = true
    · rw [if_pos z] at p
      intro v F' H' f' k1 k2 k3 k4 k5 k6 k7
      obtain ⟨F2, s2⟩ := s.lent r k1 k2 k3 k4 k5 k6 k7 z
      exact p v F2 H' s2
    · rw [if_neg z] at p; exact p.elim
  | ex c => rw [eg] at p; exact fun H' k1 => p F H' (s.grown k1)
  | bad => rw [eg] at p; exact p
theorem e_callZ {x : Str} {p pos : Pos} {e : Expr} {es : List Expr} {m : Env → Option (List D)} {g : List D → CR} {k j : Nat} (c : XOk X W) (G : Fo X.prog X.w X.K X.mg X.base B.ca k x g) (hr : Room j X.A) (hg : Gl X x) (ha : PA X (e :: es) (rdZA X.K B m)) (hk : k ≤ j := by decide) (hdb : (x == ("__debug__" : Str)) = false := by decide)
    (he : starEach (e :: es) X.env = (false, eval e X.env) :: starEach es X.env := by rfl) (hpl : (backTo pos (starEach es X.env)).any (·.1) = false := by rfl) : PE X (.Call (.Name x p) (e :: es) [] pos) (rdE X.K B W (eCallZ g m)) := by
  obtain ⟨f, fd, ps, h1, h2, h3, h4⟩ := G.ex
  refine PE.imp (pe_callS h4 (hr.mono hk) hg h1 h2 h3 (fun σ => passAt c.tk σ) ha hdb he hpl) fun σ H Q h => ?_
  obtain ⟨F, τ, vs, ds, s, p⟩ := h
  unfold eCallZ at p
  cases em : m τ with
  | none => rw [em] at p; exact p.elim
  | some as =>
    rw [em] at p
    exact ⟨F, τ, vs, ds, s, as, em, fun us f r => lend_sp s r (pre := []) (prv := []) rfl p⟩
def eMethZ (As : List (Str × (List D → CR))) (m : Str) (mo : ME) (ma : Env → Option (List D)) : ME := fun τ => (mo τ).bind fun d τ1 => match d with
  | .obj false c ns xs => match As.lookup c with
    | some g => if ns.contains m = true then .bad else (match ma τ1 with
      | some ds => lendR (g (.obj false c ns xs :: freezeL ds)) τ1
      | none => .bad)
    | none => .bad
  | _ => .bad
theorem e_methZ {m : Str} {o e : Expr} {es : List Expr} {apos pos : Pos} {mo : ME} {ma : Env → Option (List D)} {As : List (Str × (List D → CR))} {k : Nat} {pl : Sem Bool} (c : XOk X W) (hAs : MAll X.prog X.w X.K X.mg X.base B.ca k m As) (hr : Room k X.A) (ho : PE X o (rdE X.K B W mo)) (ha : PA X (e :: es) (rdZA X.K B ma)) (hne : As ≠ [] := by exact fun z => nomatch z)
    (hst : starEach (e :: es) X.env = (false, eval e X.env) :: starEach es X.env := by rfl) (hpl : (backTo pos (starEach es X.env)).any (·.1) = false := by rfl)
    (ht : eval (.Call (.Attribute o m apos) (e :: es) [] pos) X.env = (do
      let ov ← eval o X.env
      standAt apos.atName
      let (f, first) ← holding [ov] (getMethod ov m pl)
      callWith pos f first (backTo pos (starEach (e :: es) X.env)) (backToKw pos (keywordEach [] X.env))) := by rfl) :
    PE X (.Call (.Attribute o m apos) (e :: es) [] pos) (rdE X.K B W (eMethZ As m mo ma)) := by
  refine ⟨fun pins s σ H Q I h => ?_⟩
  obtain ⟨F, τ, vs, ds, st, p⟩ := h
  unfold eMethZ at p
  cases em : mo τ with
  | bad => rw [em] at p; exact p.elim
  | ex y τ1 =>
    cases As with
    | nil => exact absurd rfl hne
    | cons p0 r0 =>
      obtain ⟨⟨k', f, fd, ps, hk, hm, hb, G⟩, cl⟩ := hAs.1
      refine (pe_methX (pl := pl) ho cl hm G (hr.mono hk) hb (fun σ => passAt c.tk σ) ha hst hpl ht).run pins s σ H Q I ⟨F, τ, vs, ds, st, ?_⟩
      rw [em] at p ⊢
      exact p
  | ok d τ1 =>
    rw [em] at p
    cases d with
    | obj mm cc ns xs =>
      cases mm with
      | true => exact p.elim
      | false =>
        replace p : post _ _ (match As.lookup cc with | some g => if ns.contains m = true then R.bad else (match ma τ1 with | some ds => lendR (g (.obj false cc ns xs :: freezeL ds)) τ1 | none => R.bad) | none => R.bad) := p
        cases eg : As.lookup cc with
        | none => rw [eg] at p; exact p.elim
        | some g =>
          rw [eg] at p
          by_cases nc : ns.contains m = true
          · replace p : post _ _ (if ns.contains m = true then R.bad else (match ma τ1 with | some ds => lendR (g (.obj false cc ns xs :: freezeL ds)) τ1 | none => R.bad)) := p
            rw [if_pos nc] at p; exact p.elim
          · replace p : post _ _ (if ns.contains m = true then R.bad else (match ma τ1 with | some ds => lendR (g (.obj false cc ns xs :: freezeL ds)) τ1 | none => R.bad)) := p
            rw [if_neg nc] at p
            cases ea : ma τ1 with
            | none => rw [ea] at p; exact p.elim
            | some as =>
              rw [ea] at p
              obtain ⟨⟨k', f, fd, ps, hk, hm, hb, G⟩, cl⟩ := hAs.get eg
              refine (pe_methX (pl := pl) ho cl hm G (hr.mono hk) hb (fun σ => passAt c.tk σ) ha hst hpl ht).run pins s σ H Q I ⟨F, τ, vs, ds, st, ?_⟩
              rw [em]
              intro v F1 H1 s1
              have rep := s1.topF rfl
              obtain ⟨a, dx, fs, ws, rfl, h2, rfl, h4, h5⟩ := rep
              have rep := s1.topF rfl
              refine ⟨a, dx, _, rfl, s1.same _ _ h2, lookup_zip_none (by simpa using nc), F1, τ1, _, _, s1, as, ea, fun us f r => ?_⟩
              exact lend_sp s1.pop r (pre := [.obj false cc ns xs]) (prv := [.ref a]) ⟨.ref a, [], rfl, rep, rfl⟩ p
    | _ => exact p.elim
/-! ### an item set anew -/
theorem RepOs.set {K : PySem.W.Frag} {ca : Str → Addr} {F H : Hp} {d : D} {v : V} {g2 : Ct} (hv : RepO K ca F H d v g2) : ∀ {ds : List D} {vs : List V} {f : Ct} (j : Nat), RepOs K ca F H ds vs f → ∃ g, RepOs K ca F H (ds.set j d) (vs.set j v) g ∧ ∀ b, g b ≤ f b + g2 b
  | [], vs, f, j, h => by
    cases (show vs = [] from h.1)
    exact ⟨f, h, fun b => by omega⟩
  | x :: ds, _, f, 0, ⟨w, r, f1, f2, e, h1, h2, h3⟩ => by
    subst e
    exact ⟨fun b => g2 b + f2 b, ⟨v, r, g2, f2, rfl, hv, h2, fun _ => rfl⟩, fun b => by show g2 b + f2 b ≤ f b + g2 b; rw [h3]; omega⟩
  | x :: ds, _, f, j + 1, ⟨w, r, f1, f2, e, h1, h2, h3⟩ => by
    subst e
    obtain ⟨g, k1, k2⟩ := RepOs.set hv j h2
    exact ⟨fun b => f1 b + g b, ⟨w, r.set j v, f1, g, rfl, h1, k1, fun _ => rfl⟩, fun b => by show f1 b + g b ≤ f b + g2 b; have := k2 b; rw [h3]; omega⟩
def setD (es : List D) (k : Int) (d : D) : Option (List D) := (ixN es.length k).map fun j => es.set j d
def sSetIx (i : Nat) (mi : MZ) (m : ME) : MS := fun τ => (m τ).s fun d τ1 => match τ1.getD i none with
  | some (.lst true es) => (match mi τ1 with
    | some (.int k) => (match setD es k d with
      | some es' => .nx (τ1.set i (some (.lst true es')))
      | none => .bad)
    | _ => .bad)
  | _ => .bad
theorem s_setIx {i : Nat} {o ix e : Expr} {pos pos' : Pos} {mi : MZ} {m : ME} (ho : PE X o (tVar i)) (hi : PE X ix (rdZ X.K B mi)) (he : PE X e (rdE X.K B W m)) (hs : swapsWithSole [.Subscript o ix pos'] e pos.line X.env = pure false := by rfl) (hw : swappedStores [.Subscript o ix pos'] e X.env = pure none := by rfl)
    (h1 : (assignEach [.Subscript o ix pos'] X.env).map (·.2) = [assign (.Subscript o ix pos') X.env] := by rfl)
    (ha : ∀ v, assign (.Subscript o ix pos') X.env v = (do
      let ov ← holding [v] (eval o X.env)
      let iv ← holding [v, ov] (eval ix X.env)
      standAt pos'
      holding [v, ov, iv] (setItem ov iv v)
      release [v, ov, iv] []) := by intro _; rfl) : PS X (.Assign [.Subscript o ix pos'] e pos) (rdS X.K B W (sSetIx i mi m)) :=
  PS.imp (ps_asg he (pg_sub ho hi set_list ha) hs hw h1) fun D σ H ⟨F, τ, vs, ds, s, p⟩ => by
    refine ⟨F, τ, vs, ds, s, post_imp (post_s (σ := σ) p) (fun d τ1 q y F1 H1 s1 => ?_) fun _ _ q => q⟩
    cases e1 : τ1.getD i none with
    | none => rw [e1] at q; exact q.elim
    | some dl =>
      rw [e1] at q
      cases dl with
      | lst mm es =>
        cases mm with
        | false => exact q.elim
        | true =>
          replace q : postS X.K B W vs ds D (match mi τ1 with | some (.int k) => (match setD es k d with | some es' => SR.nx (τ1.set i (some (.lst true es'))) | none => SR.bad) | _ => SR.bad) := q
          cases e2 : mi τ1 with
          | none => rw [e2] at q; exact q.elim
          | some dk =>
            rw [e2] at q
            cases dk with
            | int k =>
              replace q : postS X.K B W vs ds D (match setD es k d with | some es' => SR.nx (τ1.set i (some (.lst true es'))) | none => SR.bad) := q
              cases e3 : ixN es.length k with
              | none => unfold setD at q; rw [e3] at q; exact q.elim
              | some j =>
                unfold setD at q; rw [e3] at q
                replace q : postS X.K B W vs ds D (SR.nx (τ1.set i (some (.lst true (es.set j d))))) := q
                have e1' := getD_some e1
                obtain ⟨v, f, h1, a, us, g, rfl, h2, h3, _⟩ := s1.get e1'
                refine ⟨.ref a, h1, F1, τ1, _, _, s1, .int k, e2, fun w fw hw => ?_⟩
                obtain rfl : w = V.int k := hw.1
                refine ⟨a, us, k, j, rfl, rfl, h2, by rw [h3.length]; exact e3, ?_⟩
                obtain ⟨v, k1, s2⟩ := s1.take e1'
                rw [h1] at k1
                cases k1
                have s3 := s2.change (us := [y]) (ds := [d]) (ys := us.set j y) (es2 := es.set j d) rfl h2 fun g1 g2 r1 r2 => by
                  obtain ⟨_, r, f1, f2, ey, q1, q2, q3⟩ := r2
                  cases ey
                  obtain ⟨g, k1, k2⟩ := RepOs.set q1 j r1
                  exact ⟨g, k1, fun b => by have := k2 b; have := q3 b; have := q2.2 b; omega⟩
                have s4 := s3.putBack (i := i) (by rw [List.length_set]; exact (List.getElem?_eq_some_iff.mp e1').1) h1
                rw [List.set_set] at s4
                exact q σ F1 _ s4
            | _ => exact q.elim
      | _ => exact q.elim
/-! ### in, over lists of data -/
def gInD (neg : Bool) (a b : D) : Option D := match b with
  | .lst m xs => if okP a = true ∧ okP (.lst m xs) = true then some (.bl (if neg = true then !(toPs xs).any fun z => PyData.eqv z (toP a) else (toPs xs).any fun z => PyData.eqv z (toP a))) else none
  | _ => none
theorem sInD {K : PySem.W.Frag} : OpS K (rInD K) (gInD false) := by
  intro ca F H x y a b d f1 f2 Q sm hx hy e q
  cases b with
  | lst m xs =>
    replace e : (if okP a = true ∧ okP (.lst m xs) = true then some (D.bl ((toPs xs).any fun z => PyData.eqv z (toP a))) else none) = some d := e
    by_cases c : okP a = true ∧ okP (.lst m xs) = true
    · rw [if_pos c] at e
      cases e
      have c1 := c.1
      have c2 := c.2
      unfold okP at c1 c2
      rw [Bool.and_eq_true] at c1 c2
      exact ⟨_, _, RepO.dp sm a x f1 c1.1 hx, RepO.dp sm _ y f2 c2.1 hy, c1.2, c2.2, q (.bl _) _ (Rep.o (d := .bl _) rfl)⟩
    · rw [if_neg c] at e; cases e
  | _ => cases e
theorem sNotInD {K : PySem.W.Frag} : OpS K (rNotInD K) (gInD true) := by
  intro ca F H x y a b d f1 f2 Q sm hx hy e q
  cases b with
  | lst m xs =>
    replace e : (if okP a = true ∧ okP (.lst m xs) = true then some (D.bl (!(toPs xs).any fun z => PyData.eqv z (toP a))) else none) = some d := e
    by_cases c : okP a = true ∧ okP (.lst m xs) = true
    · rw [if_pos c] at e
      cases e
      have c1 := c.1
      have c2 := c.2
      unfold okP at c1 c2
      rw [Bool.and_eq_true] at c1 c2
      exact ⟨_, _, RepO.dp sm a x f1 c1.1 hx, RepO.dp sm _ y f2 c2.1 hy, c1.2, c2.2, q (.bl _) _ (Rep.o (d := .bl _) rfl)⟩
    · rw [if_neg c] at e; cases e
  | _ => cases e
/-- a comprehension bound to a name that inner blocks read -/
theorem sw_false {elt : Expr} {gs : List Comprehension} {scope : Scope} {pos py : Pos} {y : Str} {l : Nat} {env : PySem.Env} (hy : env.scope.names.lookup y = some .cell) : swapsWith (.ListComp elt gs scope pos) (some (.Name y py)) l env = pure false := by
  have h : (env.kindOf y == some .local) = false := by
    show (env.scope.names.lookup y == some .local) = false
    rw [hy]; rfl
  show pure (env.blockKind == .function && env.kindOf y == some .local && py.line == pos.line && !(scope.names.any fun (n, k) => n == y && (k == .local || k == .cell))) = _
  rw [h, Bool.and_false]
  rfl
theorem units65 {k : Nat} {A : Around} (r : Room k A) : A.units + 65 < cLine := by have := r.un; omega
/-! ### a comprehension over a list that its name keeps -/
theorem RepOs.getI {K : PySem.W.Frag} {ca : Str → Addr} {F H : Hp} : ∀ {es : List D} {us : List V} {g : Ct} {i : Nat} {d : D}, RepOs K ca F H es us g → es[i]? = some d → ∃ v f, us[i]? = some v ∧ RepO K ca F H d v f
  | [], _, _, _, _, _, e => by simp at e
  | x :: es, _, _, 0, d, ⟨v, r, f1, f2, e, h1, _⟩, hd => by
    subst e
    simp at hd; subst hd
    exact ⟨v, f1, rfl, h1⟩
  | x :: es, _, _, i + 1, d, ⟨v, r, f1, f2, e, _, h2, _⟩, hd => by
    subst e
    obtain ⟨w, f, k1, k2⟩ := RepOs.getI (i := i) h2 (by simpa using hd)
    exact ⟨w, f, by simpa using k1, k2⟩
theorem itOk_own {K : PySem.W.Frag} {a : Addr} {es : List D} {vs : List V} {ds : List D} (hz : es.all isFz = true) : ItOk K B (Itl K a) es (.ref a :: vs) (.lst true es :: ds) := by
  have look : ∀ {F H σ τ}, StT K B F H σ τ (.ref a :: vs) (.lst true es :: ds) → ∃ us g, SqL K H a us ∧ RepOs K B.ca F H es us g := fun {F H σ τ} s => by
    obtain ⟨f, a', us, g, e, h1, h2, _⟩ := s.top
    cases e
    exact ⟨us, g, sqOf h1, h2⟩
  refine ⟨fun i F H σ τ s hi => ?_, fun F H σ τ s => ?_, fun i d F H σ τ x H' us' es' hl hd s y => ?_⟩
  · obtain ⟨us, g, h1, h2⟩ := look s
    exact ⟨us, us[i]'(by rw [h2.length]; exact hi), h1, by simp [h2.length, hi]⟩
  · obtain ⟨us, g, h1, h2⟩ := look s
    exact ⟨us, h1, by rw [h2.length]; exact Nat.le_refl _⟩
  · obtain ⟨rfl, y⟩ := y
    obtain ⟨us, g, h1, h2⟩ := look (s.pops hl)
    obtain ⟨v, f, e, r⟩ := h2.getI hd
    rw [y us h1] at e; cases e
    exact ⟨F, s.push ((repO_fz (List.all_eq_true.mp hz _ (List.mem_of_getElem? hd))).mp r).1⟩
def eLcB (own : List Nat) (i : Nat) (g : D → Env → Option Env) (t : MT) (m : ME) : ME := fun τ => match τ.getD i none with
  | some (.lst true es) => if es.all isFz = true then (match lcL own g t m es [] (wipeE (τ.set i none) own) with
    | .ok acc τ2 => .ok (.lst true acc) (τ2.set i (some (.lst true es)))
    | _ => .bad) else .bad
  | _ => .bad
theorem StT.len {K : PySem.W.Frag} {F H : Hp} {σ : L2.St} {τ : Env} {vs : List V} {ds : List D} (s : StT K B F H σ τ vs ds) : σ.length = τ.length := by
  obtain ⟨_, _, a, _⟩ := s
  exact a.length
theorem impLcB {own : List Nat} {i : Nat} {g : D → Env → Option Env} {sl : List Nat} {t : MT} {m : ME} (hsl : ∀ j ∈ sl, j ∈ own) (hio : ioFreeL B own) (σ : L2.St) (H : Hp) (Q : VK) (h : rdE X.K B W (eLcB own i g t m) σ H Q) : tLc (iList X.K (tVar i)) (rdG X.K B sl g) (rdT X.K B W0 t) (rdE X.K B W0 m) own σ H Q := by
  obtain ⟨F, τ, vs, ds, s, p⟩ := h
  unfold eLcB at p
  cases e0 : τ.getD i none with
  | none => rw [e0] at p; exact p.elim
  | some d0 =>
    rw [e0] at p
    cases d0 with
    | lst mm es =>
      cases mm with
      | false => exact p.elim
      | true =>
        replace p : post _ _ (if es.all isFz = true then (match lcL own g t m es [] (Bn.wipeE (τ.set i none) own) with | .ok acc τ2 => R.ok (D.lst true acc) (τ2.set i (some (.lst true es))) | _ => R.bad) else R.bad) := p
        by_cases z : es.all isFz = true
        · rw [if_pos z] at p
          obtain ⟨v, h1, s1⟩ := s.take (getD_some e0)
          obtain ⟨f, a, us, g', rfl, h2, _⟩ := s1.top
          refine ⟨.ref a, h1, a, rfl, ⟨us, sqOf h2⟩, ?_⟩
          cases e : lcL own g t m es [] (Bn.wipeE (τ.set i none) own) with
          | ok acc τ2 =>
            rw [e] at p
            refine lc_core' (itOk_own z) hsl hio s1 e fun v F2 H2 s2 => p v F2 H2 ?_
            have s3 := StT.swap (us := [v]) (es := [.lst true acc]) s2 rfl
            exact s3.putBack (by rw [← s3.len]; exact (List.getElem?_eq_some_iff.mp h1).1) h1
          | _ => rw [e] at p; exact p.elim
        · rw [if_neg z] at p; exact p.elim
    | _ => exact p.elim
theorem e_lcB {elt tg iter : Expr} {ifs : List Expr} {scope : Scope} {own : List (Str × Nat)} {pos : Pos} {i : Nat} {g : D → Env → Option Env} {sl : List Nat} {t : MT} {m : ME} (c : XOk X W) (hN : X.N.Nodup) (hi : PE X iter (tVar i)) (ok : BlkOk X.N X.env.scope scope own)
    (hg : ∀ (s : Shared) (H : Hp) (C : Addr) (cl : List (Str × Addr)) (fp : List Addr), PG (X.blk s H scope (compEnvC scope cl C X.env) fp) tg (rdG X.K B sl g)) (ht : ∀ (s : Shared) (H : Hp) (C : Addr) (cl : List (Str × Addr)) (fp : List Addr), PTs (X.blk s H scope (compEnvC scope cl C X.env) fp) ifs (rdT X.K B W0 t))
    (he : ∀ (s : Shared) (H : Hp) (C : Addr) (cl : List (Str × Addr)) (fp : List Addr), XOk (X.blk s H scope (compEnvC scope cl C X.env) fp) W0 → PE (X.blk s H scope (compEnvC scope cl C X.env) fp) elt (rdE X.K B W0 m))
    (hsl : ∀ j ∈ sl, j ∈ own.map (·.2) := by decide) (hio : ioFreeL B (own.map (·.2)) := by intro p hp; cases hp) (hs : ∀ x, foldedSetIterable iter X.env x = pure x := by intro _; rfl) :
    PE X (.ListComp elt [⟨tg, iter, ifs, 0⟩] scope pos) (rdE X.K B W (eLcB (own.map (·.2)) i g t m)) :=
  PE.imp (pe_lc c.calm hN (pi_list hi) ok hg ht (fun s H C cl fp => he s H C cl fp ⟨takes0, PassesOwn.never, c.calm⟩) hs) (impLcB hsl hio)
theorem s_setLcB {i : Nat} {y : Str} {py : Pos} {elt tg iter : Expr} {ifs : List Expr} {scope : Scope} {own : List (Str × Nat)} {pos spos : Pos} {l : Nat} {g : D → Env → Option Env} {sl : List Nat} {t : MT} {m : ME} (c : XOk X W) (hN : X.N.Nodup) (hy : X.N[i]? = some y) (hyl : X.env.scope.names.lookup y = some .local)
    (hsw : swapsWith (.ListComp elt [⟨tg, iter, ifs, 0⟩] scope pos) (some (.Name y py)) spos.line X.env = pure true) (hi : PE X iter (tVar l)) (ok : BlkOk X.N X.env.scope scope own)
    (hg : ∀ (s : Shared) (H : Hp) (C : Addr) (cl : List (Str × Addr)) (fp : List Addr), PG (X.blk s H scope (compEnvC scope cl C X.env) fp) tg (rdG X.K B sl g)) (ht : ∀ (s : Shared) (H : Hp) (C : Addr) (cl : List (Str × Addr)) (fp : List Addr), PTs (X.blk s H scope (compEnvC scope cl C X.env) fp) ifs (rdT X.K B W0 t))
    (he : ∀ (s : Shared) (H : Hp) (C : Addr) (cl : List (Str × Addr)) (fp : List Addr), XOk (X.blk s H scope (compEnvC scope cl C X.env) fp) W0 → PE (X.blk s H scope (compEnvC scope cl C X.env) fp) elt (rdE X.K B W0 m))
    (hsl : ∀ j ∈ sl, j ∈ own.map (·.2) := by decide) (hio : ioFreeL B (own.map (·.2)) := by intro p hp; cases hp) (hio2 : ioFree B i := by intro p hp; cases hp) (hs : ∀ x, foldedSetIterable iter X.env x = pure x := by intro _; rfl) :
    PS X (.Assign [.Name y py] (.ListComp elt [⟨tg, iter, ifs, 0⟩] scope pos) spos) (rdS X.K B W (sAsg (eLcB (own.map (·.2)) l g t m) (gN i))) :=
  PS.imp (ps_setLc c.calm hN hy hyl hsw (pi_list hi) ok hg ht (fun s H C cl fp => he s H C cl fp ⟨takes0, PassesOwn.never, c.calm⟩) hs) fun D σ H ⟨F, τ, vs, ds, s, p⟩ =>
    impLcB hsl hio σ H _ ⟨F, τ, vs, ds, s, post_imp (post_s (σ := σ) p) (fun d τ1 q v F1 H1 s1 => q _ F1 H1 (s1.put' hio2)) fun _ _ q => q⟩
end
end Bn

/-! Plain facts of the functions of trees. -/
namespace Bn
open PySem L2
theorem vAdd (i j : Int) : gAdd (.int i) (.int j) = some (.int (i + j)) := rfl
theorem vSub (i j : Int) : gSub (.int i) (.int j) = some (.int (i - j)) := rfl
theorem vMul {i j : Int} (h : CMulW i j) : gMul (.int i) (.int j) = some (.int (i * j)) := if_pos h
theorem vDiv {i j : Int} (h0 : 0 < j) (h : j.natAbs.log2 < 9000) : gDiv (.int i) (.int j) = some (.int (i / j)) := if_pos ⟨h0, h⟩
theorem vMod {i j : Int} (h : 0 < j) : gMod (.int i) (.int j) = some (.int (i % j)) := if_pos h
theorem vPow {i j : Int} (h : CPow i j) : gPow (.int i) (.int j) = some (.int (i ^ j.toNat)) := if_pos h
theorem vLt (i j : Int) : gLt (.int i) (.int j) = some (.bl (decide (i < j))) := rfl
theorem vLe (i j : Int) : gLe (.int i) (.int j) = some (.bl (decide (i ≤ j))) := rfl
theorem vGt (i j : Int) : gGt (.int i) (.int j) = some (.bl (decide (j < i))) := rfl
theorem vGe (i j : Int) : gGe (.int i) (.int j) = some (.bl (decide (j ≤ i))) := rfl
theorem vNeg (i : Int) : gNeg (.int i) = some (.int (-i)) := rfl
theorem vEq (i j : Int) : gEq (.int i) (.int j) = some (.bl (i == j)) := rfl
theorem vNe (i j : Int) : gNe (.int i) (.int j) = some (.bl (!(i == j))) := rfl
theorem vEq2 (a b c d : Int) : gEq (.tup [.int a, .int b]) (.tup [.int c, .int d]) = some (.bl ((a == c) && ((b == d) && true))) := rfl
theorem vNe2 (a b c d : Int) : gNe (.tup [.int a, .int b]) (.tup [.int c, .int d]) = some (.bl (!((a == c) && ((b == d) && true)))) := rfl
theorem vIx0 (xs : List D) (d : D) : gIx (.tup (d :: xs)) (.int 0) = some d := by
  show atI (d :: xs) 0 = some d
  unfold atI ixN
  rw [if_pos (by decide), if_pos (by simp)]
  rfl
theorem atI_of {α : Type} {xs : List α} {k : Nat} {i : Int} (e : i = (k : Int)) : atI xs i = xs[k]? := by
  subst e
  unfold atI ixN
  rw [if_pos (by omega)]
  by_cases h : (k : Int) < xs.length
  · rw [if_pos h]; simp
  · rw [if_neg h]
    rw [List.getElem?_eq_none (by omega)]; rfl
theorem vIxL (m : Bool) (xs : List D) (k : Nat) : gIx (.lst m xs) (.int k) = xs[k]? := atI_of rfl
theorem vIxC (xs : List D) (k : Nat) : gIx (.cst xs) (.int k) = xs[k]? := atI_of rfl
theorem vIxT (xs : List D) (k : Nat) : gIx (.tup xs) (.int k) = xs[k]? := atI_of rfl
theorem vLenL (m : Bool) (xs : List D) : gLen [.lst m xs] = some (.int xs.length) := rfl
theorem vLenC (xs : List D) : gLen [.cst xs] = some (.int xs.length) := rfl
theorem vLenT (xs : List D) : gLen [.tup xs] = some (.int xs.length) := rfl
/-- sizes: from bounds -/
theorem log2_le {n m : Nat} (h : n < 2 ^ m) : n.log2 ≤ m := by
  by_cases z : n = 0
  · subst z; simp
  · have := (Nat.log2_lt z).mpr h
    omega
theorem mulW {i j : Int} (a b : Nat) (h1 : i.natAbs < 2 ^ a) (h2 : j.natAbs < 2 ^ b) (h : a + b < 1000000) : CMulW i j := by
  have := log2_le h1
  have := log2_le h2
  unfold CMulW
  omega
theorem divW {i j : Int} (b : Nat) (h0 : 0 < j) (h2 : j.natAbs < 2 ^ b) (h : b < 9000) : CDivW i j := by
  have := log2_le h2
  exact ⟨h0, by omega⟩
theorem vIx1 (xs : List D) (d e : D) : gIx (.tup (d :: e :: xs)) (.int 1) = some e := vIxT (d :: e :: xs) 1
section
variable {α β : Type} {τ τ' : Env} {d : D} {ds : List D} {c : Str} {x : Bool} {i : Nat}
def seqR (r : SR) (b : MS) : SR := match r with
  | .nx τ' => b τ' | .rt d τ' => .rt d τ' | .bk τ' => .bk τ' | .ct τ' => .ct τ' | .ex c τ' => .ex c τ' | .bad => .bad
theorem x_seq {a b : MS} : sSeq a b τ = seqR (a τ) b := rfl
theorem x_seq1 {b : MS} : seqR (.nx τ) b = b τ := rfl
theorem x_seq2 {b : MS} : seqR (.rt d τ) b = .rt d τ := rfl
theorem x_seq3 {b : MS} : seqR (.bk τ) b = .bk τ := rfl
theorem x_seq4 {b : MS} : seqR (.ct τ) b = .ct τ := rfl
theorem x_seq5 {b : MS} : seqR (.ex c τ) b = .ex c τ := rfl
theorem x_seq6 {b : MS} : seqR .bad b = .bad := rfl
theorem x_nil : sNil τ = .nx τ := rfl
def ifS (r : R Bool) (a b : MS) : SR := r.s fun x τ1 => if x = true then a τ1 else b τ1
theorem x_if {t : MT} {a b : MS} : sIf t a b τ = ifS (t τ) a b := rfl
theorem x_if1 {a b : MS} : ifS (.ok x τ) a b = if x = true then a τ else b τ := rfl
theorem x_if2 {a b : MS} : ifS (.ex c τ) a b = .ex c τ := rfl
theorem x_if3 {a b : MS} : ifS .bad a b = .bad := rfl
def retS (r : R D) : SR := r.s fun d τ1 => .rt d τ1
theorem x_ret {m : ME} : sRet m τ = retS (m τ) := rfl
theorem x_ret1 : retS (.ok d τ) = .rt d τ := rfl
theorem x_ret2 : retS (.ex c τ) = .ex c τ := rfl
theorem x_ret3 : retS .bad = .bad := rfl
theorem x_retN : sRetN τ = .rt .non τ := rfl
def asgG (o : Option Env) : SR := match o with
  | some τ2 => .nx τ2 | none => .bad
def asgS (r : R D) (g : D → Env → Option Env) : SR := r.s fun d τ1 => asgG (g d τ1)
theorem x_asg {m : ME} {g : D → Env → Option Env} : sAsg m g τ = asgS (m τ) g := rfl
theorem x_asg1 {g : D → Env → Option Env} : asgS (.ok d τ) g = asgG (g d τ) := rfl
theorem x_asg2 {g : D → Env → Option Env} : asgS (.ex c τ) g = .ex c τ := rfl
theorem x_asg3 {g : D → Env → Option Env} : asgS .bad g = .bad := rfl
theorem x_asg4 : asgG (some τ) = .nx τ := rfl
theorem x_asg5 : asgG none = .bad := rfl
theorem x_gN : gN i d τ = some (τ.set i (some d)) := rfl
def dropS (r : R D) : SR := r.s fun _ τ1 => .nx τ1
theorem x_drop {m : ME} : sDrop m τ = dropS (m τ) := rfl
theorem x_drop1 : dropS (.ok d τ) = .nx τ := rfl
theorem x_drop2 : dropS (.ex c τ) = .ex c τ := rfl
theorem x_bk : sBk τ = .bk τ := rfl
theorem x_ct : sCt τ = .ct τ := rfl
theorem x_raise : sRaise c τ = .ex c τ := rfl
def tZ' (o : Option D) (τ : Env) : R Bool := match o with
  | some (.bl b) => .ok b τ | _ => .bad
theorem x_tZ {m : MZ} : tZ m τ = tZ' (m τ) τ := rfl
theorem x_tZ1 : tZ' (some (.bl x)) τ = .ok x τ := rfl
theorem x_tZ2 : tZ' none τ = .bad := rfl
def tE' (r : R D) : R Bool := r.bind fun d τ1 => match d with
  | .bl b => .ok b τ1 | _ => .bad
theorem x_tE {m : ME} : tE m τ = tE' (m τ) := rfl
theorem x_tE1 : tE' (.ok (.bl x) τ) = .ok x τ := rfl
theorem x_tE2 : tE' (.ex c τ) = .ex c τ := rfl
theorem x_tE3 : tE' .bad = .bad := rfl
def andT (r : R Bool) (b : MT) : R Bool := r.bind fun x τ1 => if x = true then b τ1 else .ok false τ1
def orT (r : R Bool) (b : MT) : R Bool := r.bind fun x τ1 => if x = true then .ok true τ1 else b τ1
def notT (r : R Bool) : R Bool := r.bind fun x τ1 => .ok (!x) τ1
theorem x_tAnd {a b : MT} : tAnd a b τ = andT (a τ) b := rfl
theorem x_tAnd1 {b : MT} : andT (.ok x τ) b = if x = true then b τ else .ok false τ := rfl
theorem x_tAnd2 {b : MT} : andT (.ex c τ) b = .ex c τ := rfl
theorem x_tAnd3 {b : MT} : andT .bad b = .bad := rfl
theorem x_tOr {a b : MT} : tOr a b τ = orT (a τ) b := rfl
theorem x_tOr1 {b : MT} : orT (.ok x τ) b = if x = true then .ok true τ else b τ := rfl
theorem x_tOr2 {b : MT} : orT (.ex c τ) b = .ex c τ := rfl
theorem x_tOr3 {b : MT} : orT .bad b = .bad := rfl
theorem x_tNot {a : MT} : tNot a τ = notT (a τ) := rfl
theorem x_tNot1 : notT (.ok x τ) = .ok (!x) τ := rfl
theorem x_tNot2 : notT (.ex c τ) = .ex c τ := rfl
theorem x_tNot3 : notT .bad = .bad := rfl
theorem x_tTrue : tTrue τ = .ok true τ := rfl
def z2' (g : D → D → Option D) (a b : Option D) : Option D := a.bind fun a => b.bind fun b => g a b
theorem x_z2 {g : D → D → Option D} {m n : MZ} : z2 g m n τ = z2' g (m τ) (n τ) := rfl
theorem x_z21 {g : D → D → Option D} {a b : D} : z2' g (some a) (some b) = g a b := rfl
def z1' (g : D → Option D) (a : Option D) : Option D := a.bind g
theorem x_z1 {g : D → Option D} {m : MZ} : z1 g m τ = z1' g (m τ) := rfl
theorem x_z11 {g : D → Option D} {a : D} : z1' g (some a) = g a := rfl
def zCb (g : List D → Option D) (a : Option (List D)) : Option D := a.bind g
theorem x_zC {g : List D → Option D} {m : Env → Option (List D)} : zC' g m τ = zCb g (m τ) := rfl
theorem x_zC1 {g : List D → Option D} : zCb g (some ds) = g ds := rfl
def zaC (a : Option D) (b : Option (List D)) : Option (List D) := a.bind fun a => b.bind fun b => some (a :: b)
theorem x_za {m : MZ} {n : Env → Option (List D)} : zaCons m n τ = zaC (m τ) (n τ) := rfl
theorem x_za1 : zaC (some d) (some ds) = some (d :: ds) := rfl
theorem x_za0 : zaNil τ = some [] := rfl
theorem x_zV : zVar i τ = τ.getD i none := rfl
theorem x_zK : zC d τ = some d := rfl
def zCh (g g' : D → D → Option D) (a b : Option D) (c : MZ) (τ : Env) : Option D := a.bind fun x => b.bind fun y => (g x y).bind fun z => match z with
  | .bl true => (c τ).bind fun w => g' y w
  | .bl false => some (.bl false)
  | _ => none
def zCh2 (z : Option D) (g' : D → D → Option D) (y : D) (w : Option D) : Option D := z.bind fun z => match z with
  | .bl true => w.bind fun w => g' y w
  | .bl false => some (.bl false)
  | _ => none
theorem x_ch {g g' : D → D → Option D} {a b e : MZ} : zChain g g' a b e τ = zCh g g' (a τ) (b τ) e τ := rfl
theorem x_ch1 {g g' : D → D → Option D} {a b : D} {e : MZ} : zCh g g' (some a) (some b) e τ = zCh2 (g a b) g' b (e τ) := rfl
theorem x_ch2 {g' : D → D → Option D} {a b : D} : zCh2 (some (.bl x)) g' a (some b) = if x = true then g' a b else some (.bl false) := by cases x <;> rfl
def eZ' (o : Option D) (τ : Env) : R D := match o with
  | some d => if isFz d = true then .ok d τ else .bad
  | none => .bad
theorem x_eZ {m : MZ} : eZ m τ = eZ' (m τ) τ := rfl
theorem x_eZ1 : eZ' (some d) τ = if isFz d = true then .ok d τ else .bad := rfl
theorem x_eZ2 : eZ' none τ = .bad := rfl
def eV' (o : Option D) (i : Nat) (τ : Env) : R D := match o with
  | some d => if isFz d = true then .ok d τ else .ok (freeze d) (τ.set i (some (freeze d)))
  | none => .bad
theorem x_eV : eVar i τ = eV' (τ.getD i none) i τ := rfl
theorem x_eV1 : eV' (some d) i τ = if isFz d = true then .ok d τ else .ok (freeze d) (τ.set i (some (freeze d))) := rfl
def eM' (o : Option D) (i : Nat) (τ : Env) : R D := match o with
  | some d => .ok d (τ.set i none)
  | none => .bad
theorem x_eM : eMv i τ = eM' (τ.getD i none) i τ := rfl
theorem x_eM1 : eM' (some d) i τ = .ok d (τ.set i none) := rfl
theorem x_b1 {a : α} {k : α → Env → R β} : R.bind (.ok a τ) k = k a τ := rfl
theorem x_b2 {k : α → Env → R β} : R.bind (.ex c τ) k = .ex c τ := rfl
theorem x_b3 {k : α → Env → R β} : R.bind .bad k = .bad := rfl
theorem x_s1 {a : α} {k : α → Env → SR} : R.s (.ok a τ) k = k a τ := rfl
theorem x_s2 {k : α → Env → SR} : R.s (.ex c τ) k = .ex c τ := rfl
theorem x_s3 {k : α → Env → SR} : R.s .bad k = .bad := rfl
theorem x_oO : ofO (some d) τ = if isFz d = true then .ok d τ else .bad := rfl
theorem x_oO2 : ofO none τ = .bad := rfl
theorem x_e2 {g : D → D → Option D} {m n : ME} : e2 g m n τ = (m τ).bind fun a τ1 => (n τ1).bind fun b τ2 => ofO (g a b) τ2 := rfl
theorem x_e1 {g : D → Option D} {m : ME} : e1 g m τ = (m τ).bind fun a τ1 => ofO (g a) τ1 := rfl
theorem x_eC {g : List D → Option D} {m : MA} : eC g m τ = (m τ).bind fun a τ1 => ofO (g a) τ1 := rfl
theorem x_aN : aNil τ = .ok [] τ := rfl
theorem x_aC {m : ME} {n : MA} : aCons m n τ = (m τ).bind fun d τ1 => (n τ1).bind fun ds τ2 => .ok (d :: ds) τ2 := rfl
theorem x_tup {m : MA} : eTup m τ = (m τ).bind fun ds τ1 => if ds.length ≤ 1000000 then .ok (.tup (freezeL ds)) τ1 else .bad := rfl
theorem x_lst {m : MA} : eLst m τ = (m τ).bind fun ds τ1 => if ds.length ≤ 1000000 then .ok (.lst true ds) τ1 else .bad := rfl
theorem x_call {g : List D → CR} {m : MA} : eCall g m τ = (m τ).bind fun ds τ1 => ofC (g (freezeL ds)) τ1 := rfl
theorem x_oC1 : ofC (.ok d) τ = .ok d τ := rfl
theorem x_oC2 : ofC (.ex c) τ = .ex c τ := rfl
def c0 (r : CR) (τ : Env) : R D := match r with
  | .ok d => .ok d τ
  | _ => .bad
theorem x_call0 {g : List D → CR} : eCall0 g τ = c0 (g []) τ := rfl
theorem x_call01 : c0 (.ok d) τ = .ok d τ := rfl
def andE (r : R D) (b : ME) : R D := r.bind fun x τ1 => match x with
  | .bl true => b τ1 | .bl false => .ok (.bl false) τ1 | _ => .bad
def orE (r : R D) (b : ME) : R D := r.bind fun x τ1 => match x with
  | .bl false => b τ1 | .bl true => .ok (.bl true) τ1 | _ => .bad
def notE (r : R D) : R D := r.bind fun x τ1 => match x with
  | .bl b => .ok (.bl (!b)) τ1 | _ => .bad
def ifE (r : R Bool) (a b : ME) : R D := r.bind fun x τ1 => if x = true then a τ1 else b τ1
theorem x_eAnd {a b : ME} : eAnd a b τ = andE (a τ) b := rfl
theorem x_eAnd1 {b : ME} : andE (.ok (.bl x) τ) b = if x = true then b τ else .ok (.bl false) τ := by cases x <;> rfl
theorem x_eOr {a b : ME} : eOr a b τ = orE (a τ) b := rfl
theorem x_eOr1 {b : ME} : orE (.ok (.bl x) τ) b = if x = true then .ok (.bl true) τ else b τ := by cases x <;> rfl
theorem x_eNot {a : ME} : eNot a τ = notE (a τ) := rfl
theorem x_eNot1 : notE (.ok (.bl x) τ) = .ok (.bl (!x)) τ := rfl
theorem x_eIf {t : MT} {a b : ME} : eIf t a b τ = ifE (t τ) a b := rfl
theorem x_eIf1 {a b : ME} : ifE (.ok x τ) a b = if x = true then a τ else b τ := rfl
theorem x_fz_int (i : Int) : isFz (.int i) = true := rfl
theorem x_fr_int (i : Int) : freeze (.int i) = .int i := rfl
theorem x_fz_bl (i : Bool) : isFz (.bl i) = true := rfl
theorem x_fr_bl (i : Bool) : freeze (.bl i) = .bl i := rfl
theorem x_fz_str (i : Str) : isFz (.str i) = true := rfl
theorem x_fr_str (i : Str) : freeze (.str i) = .str i := rfl
theorem x_fz_ty (i : String) : isFz (.ty i) = true := rfl
theorem x_fr_ty (i : String) : freeze (.ty i) = .ty i := rfl
theorem x_fz_tup (i : List D) : isFz (.tup i) = true := rfl
theorem x_fr_tup (i : List D) : freeze (.tup i) = .tup i := rfl
theorem x_fz_cst (i : List D) : isFz (.cst i) = true := rfl
theorem x_fr_cst (i : List D) : freeze (.cst i) = .cst i := rfl
theorem x_fz_lst_false (i : List D) : isFz (.lst false i) = true := rfl
theorem x_fr_lst_false (i : List D) : freeze (.lst false i) = .lst false i := rfl
theorem x_fz_non : isFz .non = true := rfl
theorem x_fr_non : freeze .non = .non := rfl
theorem x_fz_lt : isFz (.lst true ds) = false := rfl
theorem x_fr_lt : freeze (.lst true ds) = .lst false (freezeL ds) := rfl
theorem x_fL0 : freezeL [] = [] := rfl
theorem x_fL1 : freezeL (d :: ds) = freeze d :: freezeL ds := rfl
def callR (r : SR) : CR := match r with
  | .nx _ => .ok .non | .rt d _ => .ok d | .ex c _ => .ex c | _ => .bad
theorem x_cF {n N : Nat} {b : MS} : callF n N b ds = if ds.length = n then callR (b (ds.map some ++ List.replicate (N - n) none)) else .bad := rfl
theorem x_cR1 : callR (.nx τ) = .ok .non := rfl
theorem x_cR2 : callR (.rt d τ) = .ok d := rfl
theorem x_cR3 : callR (.ex c τ) = .ex c := rfl
def iL' (d : D) (τ : Env) : R (List D) := match d with
  | .lst _ es => .ok es τ | _ => .bad
def iT' (d : D) (τ : Env) : R (List D) := match d with
  | .tup es => .ok es τ | _ => .bad
def iS' (d : D) (τ : Env) : R (List D) := match d with
  | .str z => .ok (strD z) τ | _ => .bad
def iR1' (d : List D) (τ : Env) : R (List D) := match d with
  | [.int j] => if -(2 ^ 62) ≤ j ∧ j < 2 ^ 62 then .ok (rangeD 0 j.toNat) τ else .bad
  | _ => .bad
def iR2' (d : List D) (τ : Env) : R (List D) := match d with
  | [.int i, .int j] => if -(2 ^ 62) ≤ i ∧ i < 2 ^ 62 ∧ -(2 ^ 62) ≤ j ∧ j < 2 ^ 62 then .ok (rangeD i (j - i).toNat) τ else .bad
  | _ => .bad
def iE' (d : List D) (τ : Env) : R (List D) := match d with
  | [.lst _ es] => .ok (enumD 0 es) τ | _ => .bad
def iV' (d : List D) (τ : Env) : R (List D) := match d with
  | [.lst _ es] => .ok es.reverse τ | _ => .bad
def iZ' (d : List D) (τ : Env) : R (List D) := match d with
  | [.lst _ es, .lst _ fs] => .ok (zipD es fs) τ | _ => .bad
theorem x_iL {m : ME} : iL m τ = (m τ).bind fun d τ1 => iL' (freeze d) τ1 := rfl
theorem x_iL1 {b : Bool} : iL' (.lst b ds) τ = .ok ds τ := rfl
theorem x_iT {m : ME} : iT m τ = (m τ).bind fun d τ1 => iT' d τ1 := rfl
theorem x_iT1 : iT' (.tup ds) τ = .ok ds τ := rfl
theorem x_iS {m : ME} : iS m τ = (m τ).bind fun d τ1 => iS' d τ1 := rfl
theorem x_iS1 {z : Str} : iS' (.str z) τ = .ok (strD z) τ := rfl
theorem x_iR1 {m : MA} : iR1 m τ = (m τ).bind fun d τ1 => iR1' d τ1 := rfl
theorem x_iR11 {j : Int} (h1 : -4611686018427387904 ≤ j) (h2 : j < 4611686018427387904) : iR1' [.int j] τ = .ok (rangeD 0 j.toNat) τ := if_pos ⟨h1, h2⟩
theorem x_iR2 {m : MA} : iR2 m τ = (m τ).bind fun d τ1 => iR2' d τ1 := rfl
theorem x_iR21 {i j : Int} (h1 : -4611686018427387904 ≤ i) (h2 : i < 4611686018427387904) (h3 : -4611686018427387904 ≤ j) (h4 : j < 4611686018427387904) : iR2' [.int i, .int j] τ = .ok (rangeD i (j - i).toNat) τ := if_pos ⟨h1, h2, h3, h4⟩
theorem x_iE {m : MA} : iE m τ = (m τ).bind fun d τ1 => iE' (freezeL d) τ1 := rfl
theorem x_iE1 {b : Bool} : iE' [.lst b ds] τ = .ok (enumD 0 ds) τ := rfl
theorem x_iV {m : MA} : iV m τ = (m τ).bind fun d τ1 => iV' (freezeL d) τ1 := rfl
theorem x_iV1 {b : Bool} : iV' [.lst b ds] τ = .ok ds.reverse τ := rfl
theorem x_iZ {m : MA} : iZ m τ = (m τ).bind fun d τ1 => iZ' (freezeL d) τ1 := rfl
theorem x_iZ1 {b b' : Bool} {es : List D} : iZ' [.lst b ds, .lst b' es] τ = .ok (zipD ds es) τ := rfl
def forB (r : SR) (k : Env → SR) : SR := match r with
  | .nx τ2 => k τ2 | .ct τ2 => k τ2 | .bk τ2 => .nx τ2 | .rt d τ2 => .rt d τ2 | .ex c τ2 => .ex c τ2 | .bad => .bad
def forG (o : Option Env) (b : MS) (k : Env → SR) : SR := match o with
  | none => .bad | some τ1 => forB (b τ1) k
theorem x_for {m : MA} {g : D → Env → Option Env} {b : MS} : sFor m g b τ = (m τ).s fun items τ1 => forL g b items τ1 := rfl
theorem x_fo0 {g : D → Env → Option Env} {b : MS} : forL g b [] τ = .nx τ := rfl
theorem x_fo1 {g : D → Env → Option Env} {b : MS} : forL g b (d :: ds) τ = forG (g d τ) b (forL g b ds) := rfl
theorem x_fo2 {b : MS} {k : Env → SR} : forG (some τ) b k = forB (b τ) k := rfl
theorem x_fo3 {k : Env → SR} : forB (.nx τ) k = k τ := rfl
theorem x_fo4 {k : Env → SR} : forB (.ct τ) k = k τ := rfl
theorem x_fo5 {k : Env → SR} : forB (.bk τ) k = .nx τ := rfl
theorem x_fo6 {k : Env → SR} : forB (.rt d τ) k = .rt d τ := rfl
theorem x_fo7 {k : Env → SR} : forB (.ex c τ) k = .ex c τ := rfl
def gT' (n : Nat) (g : List D → Env → Option Env) (es : List D) (τ : Env) : Option Env := if es.length = n then g es τ else none
theorem x_gT {n : Nat} {g : List D → Env → Option Env} : gT n g (.tup ds) τ = if ds.length = n then g ds τ else none := rfl
theorem x_gC {g : D → Env → Option Env} {h : List D → Env → Option Env} : gCons' g h (d :: ds) τ = (g d τ).bind (h ds) := rfl
theorem x_gC0 : gNil' [] τ = some τ := rfl
def tryB (sub : Str → Option Bool) (r : SR) (su : MS) : SR := match r with
  | .ex c τ' => (match sub c with | some true => noEx (su τ') | some false => .ex c τ' | none => .bad)
  | .nx τ' => .nx τ' | .rt d τ' => .rt d τ' | .bk τ' => .bk τ' | .ct τ' => .ct τ' | .bad => .bad
def tryC (o : Option Bool) (c : Str) (τ' : Env) (su : MS) : SR := match o with
  | some true => noEx (su τ') | some false => .ex c τ' | none => .bad
theorem x_try {sub : Str → Option Bool} {b su : MS} : sTry sub b su τ = tryB sub (b τ) su := rfl
theorem x_try1 {sub : Str → Option Bool} {su : MS} : tryB sub (.nx τ) su = .nx τ := rfl
theorem x_try2 {sub : Str → Option Bool} {su : MS} : tryB sub (.rt d τ) su = .rt d τ := rfl
theorem x_try3 {sub : Str → Option Bool} {su : MS} : tryB sub (.ex c τ) su = tryC (sub c) c τ su := rfl
theorem x_try4 {su : MS} : tryC (some true) c τ su = noEx (su τ) := rfl
theorem x_try5 {su : MS} : tryC (some false) c τ su = .ex c τ := rfl
theorem x_nx1 : noEx (.nx τ) = .nx τ := rfl
theorem x_nx2 : noEx (.rt d τ) = .rt d τ := rfl
theorem x_try6 {sub : Str → Option Bool} {su : MS} : tryB sub (.bk τ) su = .bk τ := rfl
theorem x_try7 {sub : Str → Option Bool} {su : MS} : tryB sub (.ct τ) su = .ct τ := rfl
theorem x_nx3 : noEx (.bk τ) = .bk τ := rfl
theorem x_nx4 : noEx (.ct τ) = .ct τ := rfl
def appS (o : Option D) (i : Nat) (d : D) (τ : Env) : SR := match o with
  | some (.lst true es) => if es.length < 1000000 then .nx (τ.set i (some (.lst true (es ++ [d])))) else .bad
  | _ => .bad
def appT (o : Option D) (i : Nat) (r : R D) : SR := match o with
  | some (.lst true _) => r.s fun d τ1 => appS (τ1.getD i none) i d τ1
  | _ => .bad
theorem x_app {m : ME} : sApp i m τ = appT (τ.getD i none) i (m τ) := rfl
theorem x_app1 {r : R D} : appT (some (.lst true ds)) i r = r.s fun d τ1 => appS (τ1.getD i none) i d τ1 := rfl
theorem x_app2 : appS (some (.lst true ds)) i d τ = if ds.length < 1000000 then .nx (τ.set i (some (.lst true (ds ++ [d])))) else .bad := rfl
def lcE (r : R (List D)) : R D := match r with
  | .ok acc τ2 => .ok (.lst true acc) τ2
  | _ => .bad
def lcG (o : Option Env) (own : List Nat) (g : D → Env → Option Env) (t : MT) (m : ME) (r acc : List D) : R (List D) := match o with
  | none => .bad
  | some τ1 => (t τ1).bind fun b τ2 => if b = true then (m τ2).bind fun e τ3 => if acc.length < 1000000 then lcL own g t m r (acc ++ [e]) (wipeE τ3 own) else .bad else lcL own g t m r acc (wipeE τ2 own)
theorem x_lc {own : List Nat} {it : MA} {g : D → Env → Option Env} {t : MT} {m : ME} : eLc own it g t m τ = (it τ).bind fun items τ1 => lcE (lcL own g t m items [] (wipeE τ1 own)) := rfl
theorem x_lcE : lcE (.ok ds τ) = .ok (.lst true ds) τ := rfl
theorem x_lc0 {own : List Nat} {g : D → Env → Option Env} {t : MT} {m : ME} : lcL own g t m [] ds τ = .ok ds τ := rfl
theorem x_lc1 {own : List Nat} {g : D → Env → Option Env} {t : MT} {m : ME} {r : List D} : lcL own g t m (d :: r) ds τ = lcG (g d τ) own g t m r ds := rfl
theorem x_lcG {own : List Nat} {g : D → Env → Option Env} {t : MT} {m : ME} {r : List D} : lcG (some τ) own g t m r ds = (t τ).bind fun b τ2 => if b = true then (m τ2).bind fun e τ3 => if ds.length < 1000000 then lcL own g t m r (ds ++ [e]) (wipeE τ3 own) else .bad else lcL own g t m r ds (wipeE τ2 own) := rfl
theorem x_w0 : wipeE τ [] = τ := rfl
theorem x_w1 {own : List Nat} : wipeE τ (i :: own) = (wipeE τ own).set i none := rfl
theorem vMinL4 (m : Bool) (a b c d : Int) : gMinL [.lst m [.int a, .int b, .int c, .int d]] = some (.int (minI a [b, c, d])) := rfl
theorem vMaxL4 (m : Bool) (a b c d : Int) : gMaxL [.lst m [.int a, .int b, .int c, .int d]] = some (.int (maxI a [b, c, d])) := rfl
theorem vAll {m : Bool} {ds : List D} {bs : List Bool} (h : boolsOf ds = some bs) : gAll [.lst m ds] = some (.bl (bs.all id)) := by
  show (match boolsOf ds with | some ns => some (D.bl (ns.all id)) | _ => none) = _
  rw [h]
theorem vAny {m : Bool} {ds : List D} {bs : List Bool} (h : boolsOf ds = some bs) : gAny [.lst m ds] = some (.bl (bs.any id)) := by
  show (match boolsOf ds with | some ns => some (D.bl (ns.any id)) | _ => none) = _
  rw [h]
theorem vAll3 (m : Bool) (a b c : Bool) : gAll [.lst m [.bl a, .bl b, .bl c]] = some (.bl ([a, b, c].all id)) := rfl
theorem vAny3 (m : Bool) (a b c : Bool) : gAny [.lst m [.bl a, .bl b, .bl c]] = some (.bl ([a, b, c].any id)) := rfl
theorem vAll4 (m : Bool) (a b c d : Bool) : gAll [.lst m [.bl a, .bl b, .bl c, .bl d]] = some (.bl ([a, b, c, d].all id)) := rfl
theorem vAny4 (m : Bool) (a b c d : Bool) : gAny [.lst m [.bl a, .bl b, .bl c, .bl d]] = some (.bl ([a, b, c, d].any id)) := rfl
def whC (r : R Bool) (b : MS) (k : Env → SR) : SR := match r with
  | .ok true τ1 => forB (b τ1) k | .ok false τ1 => .nx τ1 | .ex e τ1 => .ex e τ1 | .bad => .bad
theorem x_wh {t : MT} {b : MS} {n : Nat} : whileM t b (n + 1) τ = whC (t τ) b (whileM t b n) := by
  show (match t τ with | .ok true τ1 => _ | .ok false τ1 => _ | .ex e τ1 => _ | .bad => _) = _
  unfold whC forB
  cases t τ with
  | ok x τ1 => cases x with
    | true => cases b τ1 <;> rfl
    | false => rfl
  | ex e τ1 => rfl
  | bad => rfl
theorem x_wh1 {b : MS} {k : Env → SR} : whC (.ok true τ) b k = forB (b τ) k := rfl
theorem x_wh2 {b : MS} {k : Env → SR} : whC (.ok false τ) b k = .nx τ := rfl
theorem x_wh0 {f : Env → Nat} {t : MT} {b : MS} : sWhile f t b τ = whileM t b (f τ) τ := rfl
theorem x_abs {i : Int} : gAbs [.int i] = some (.int (if i < 0 then -i else i)) := rfl
theorem vI_ii {i : Int} : gIsi [.int i, .ty "int"] = some (.bl true) := rfl
theorem vI_ib {i : Int} : gIsi [.int i, .ty "bool"] = some (.bl false) := rfl
theorem vI_it {i : Int} : gIsi [.int i, .ty "tuple"] = some (.bl false) := rfl
theorem vI_il {i : Int} : gIsi [.int i, .ty "list"] = some (.bl false) := rfl
theorem vI_is {i : Int} : gIsi [.int i, .ty "str"] = some (.bl false) := rfl
theorem vI_bb {i : Bool} : gIsi [.bl x, .ty "bool"] = some (.bl true) := rfl
theorem vI_bi {i : Bool} : gIsi [.bl x, .ty "int"] = some (.bl true) := rfl
theorem vI_tt {i : Bool} : gIsi [.tup ds, .ty "tuple"] = some (.bl true) := rfl
theorem vI_tl {i : Bool} : gIsi [.tup ds, .ty "list"] = some (.bl false) := rfl
theorem vI_ti {i : Bool} : gIsi [.tup ds, .ty "int"] = some (.bl false) := rfl
theorem vI_ll {i : Bool} : gIsi [.lst i ds, .ty "list"] = some (.bl true) := rfl
theorem vI_lt {i : Bool} : gIsi [.lst i ds, .ty "tuple"] = some (.bl false) := rfl
theorem vI_ss {i : Str} : gIsi [.str i, .ty "str"] = some (.bl true) := rfl
theorem vEqB {i j : Bool} : gEq (.bl i) (.bl j) = some (.bl (i == j)) := rfl
theorem vNeB {i j : Bool} : gNe (.bl i) (.bl j) = some (.bl (!(i == j))) := rfl
def asB (i : Nat) (sub : Str → Option Bool) (r : SR) (su : Str → MS) : SR := match r with
  | .ex c τ' => tryAs i (sub c) c τ' su
  | .nx τ' => .nx τ' | .rt d τ' => .rt d τ' | .bk τ' => .bk τ' | .ct τ' => .ct τ' | .bad => .bad
theorem x_ta {sub : Str → Option Bool} {b : MS} {su : Str → MS} : sTryAs i sub b su τ = asB i sub (b τ) su := rfl
theorem x_ta1 {sub : Str → Option Bool} {su : Str → MS} : asB i sub (.ex c τ) su = tryAs i (sub c) c τ su := rfl
theorem x_ta2 {sub : Str → Option Bool} {su : Str → MS} : asB i sub (.nx τ) su = .nx τ := rfl
theorem x_ta3 {su : Str → MS} : tryAs i (some true) c τ su = if i < τ.length then endAs i (su c (τ.set i none)) else .bad := rfl
theorem x_ta4 : endAs i (.nx τ) = .nx (τ.set i none) := rfl
theorem x_ta5 : endAs i (.rt d τ) = .rt d τ := rfl
theorem x_is : eIs (some x) τ = .ok (.bl x) τ := rfl
theorem nc_0 : ((0 : Nat) : Int) = 0 := rfl
theorem nc_1 : ((1 : Nat) : Int) = 1 := rfl
theorem nc_2 : ((2 : Nat) : Int) = 2 := rfl
theorem nc_3 : ((3 : Nat) : Int) = 3 := rfl
theorem nc_4 : ((4 : Nat) : Int) = 4 := rfl
theorem nc_5 : ((5 : Nat) : Int) = 5 := rfl
theorem nc_6 : ((6 : Nat) : Int) = 6 := rfl
theorem nc_7 : ((7 : Nat) : Int) = 7 := rfl
theorem nc_8 : ((8 : Nat) : Int) = 8 := rfl
theorem nc_9 : ((9 : Nat) : Int) = 9 := rfl
theorem nc_10 : ((10 : Nat) : Int) = 10 := rfl
theorem nc_11 : ((11 : Nat) : Int) = 11 := rfl
def mxI (i j : Int) : Int := if j > i then j else i
def mnI (i j : Int) : Int := if j < i then j else i
theorem mxI_le (i j : Int) : i ≤ mxI i j ∧ j ≤ mxI i j ∧ (mxI i j = i ∨ mxI i j = j) := by unfold mxI; split <;> omega
theorem mnI_le (i j : Int) : mnI i j ≤ i ∧ mnI i j ≤ j ∧ (mnI i j = i ∨ mnI i j = j) := by unfold mnI; split <;> omega
theorem vMax2 {i j : Int} : gMax2 [.int i, .int j] = some (.int (mxI i j)) := rfl
theorem vMin2 {i j : Int} : gMin2 [.int i, .int j] = some (.int (mnI i j)) := rfl
theorem vIsN0 : gIsN .non .non = some (.bl true) := rfl
theorem vIsN1 {i : List D} : gIsN (.tup i) .non = some (.bl false) := rfl
theorem vNotN0 : gNotN .non .non = some (.bl false) := rfl
theorem vNotN1 {i : List D} : gNotN (.tup i) .non = some (.bl true) := rfl
theorem vIsN2 {i : Int} : gIsN (.int i) .non = some (.bl false) := rfl
theorem vNotN2 {i : Int} : gNotN (.int i) .non = some (.bl true) := rfl
def loD (ds : List D) (τ : Env) : R D := match ds with
  | [.lst _ es] => .ok (.lst true es) τ
  | [.tup es] => .ok (.lst true es) τ
  | _ => .bad
theorem x_lo {m : MA} : eLstOf m τ = (m τ).bind fun ds τ1 => loD (freezeL ds) τ1 := rfl
theorem x_lo1 {b : Bool} : loD [.lst b ds] τ = .ok (.lst true ds) τ := rfl
theorem x_lo2 : loD [.tup ds] τ = .ok (.lst true ds) τ := rfl
theorem vAll2 (m : Bool) (a b : Bool) : gAll [.lst m [.bl a, .bl b]] = some (.bl ([a, b].all id)) := rfl
theorem vAny2 (m : Bool) (a b : Bool) : gAny [.lst m [.bl a, .bl b]] = some (.bl ([a, b].any id)) := rfl
def slE (o : Option D) (τ : Env) : R D := match o with
  | some x => .ok x τ | none => .bad
theorem x_sl {f : D → Option Int → Option Int → Option D} {m : ME} {p r : Env → R (Option Int)} : eSlice f m p r τ = (m τ).bind fun d τ1 => slR (freeze d) p r f τ1 := rfl
theorem x_sl1 {f : D → Option Int → Option Int → Option D} {p r : Env → R (Option Int)} : slR d p r f τ = (p τ).bind fun lo τ1 => (r τ1).bind fun hi τ2 => slE (f d lo hi) τ2 := rfl
theorem x_sl2 : slE (some d) τ = .ok d τ := rfl
theorem x_pn : pNone τ = .ok none τ := rfl
def psI (d : D) (τ : Env) : R (Option Int) := match d with
  | .int i => .ok (some i) τ | _ => .bad
theorem x_ps {m : ME} : pSome m τ = (m τ).bind fun d τ1 => psI d τ1 := rfl
theorem x_ps1 {i : Int} : psI (.int i) τ = .ok (some i) τ := rfl
theorem x_cutL {b : Bool} {l h : Option Int} : cutLd (.lst b ds) l h = some (.lst true (cutL ds l h)) := rfl
theorem x_cutC {l h : Option Int} : cutLd (.cst ds) l h = some (.lst true (cutL ds l h)) := rfl
theorem okP_str {i : Str} (h : PySem.PyData.strOk i = true) : okP (.str i) = true := by
  show (true && (PySem.PyData.canLay0 (.str i) && decide (PySem.PyData.depth (.str i) ≤ 64))) = true
  rw [show PySem.PyData.canLay0 (.str i) = true from h]
  rfl
theorem vEqS {i j : Str} (h1 : PySem.PyData.strOk i = true) (h2 : PySem.PyData.strOk j = true) : gEq (.str i) (.str j) = some (.bl (i == j)) := if_pos ⟨okP_str h1, okP_str h2⟩
theorem vNeS {i j : Str} (h1 : PySem.PyData.strOk i = true) (h2 : PySem.PyData.strOk j = true) : gNe (.str i) (.str j) = some (.bl (!(i == j))) := if_pos ⟨okP_str h1, okP_str h2⟩
theorem x_fz_obj {ns : List Str} : isFz (.obj false c ns ds) = true := rfl
theorem x_fr_obj {ns : List Str} : freeze (.obj false c ns ds) = .obj false c ns ds := rfl
theorem x_make {m : MA} {ns : List Str} : eMake c ns m τ = (m τ).bind fun ds τ1 => if ds.length = ns.length then .ok (.obj false c ns (freezeL ds)) τ1 else .bad := rfl
theorem x_fld {b : Bool} {f c' : Str} {ns : List Str} : gFld c f (.obj b c' ns ds) = if c' = c then lookD f ns ds else none := rfl
theorem x_look {f n : Str} {ns : List Str} : lookD f (n :: ns) (d :: ds) = if f = n then some d else lookD f ns ds := rfl
def methC (o : Option (List D → CR)) (b : Bool) (d : D) (ma : MA) (τ1 : Env) : R D := match o with
  | some g => if b = true then .bad else (ma τ1).bind fun ds τ2 => ofC (g (d :: freezeL ds)) τ2
  | none => .bad
def methA (As : List (Str × (List D → CR))) (m : Str) (d : D) (ma : MA) (τ1 : Env) : R D := match d with
  | .obj false c ns xs => methC (As.lookup c) (ns.contains m) (.obj false c ns xs) ma τ1
  | _ => .bad
theorem x_meth {As : List (Str × (List D → CR))} {m : Str} {mo : ME} {ma : MA} : eMeth As m mo ma τ = (mo τ).bind fun d τ1 => methA As m d ma τ1 := by
  show (mo τ).bind _ = _
  congr 1
theorem x_meth2 {As : List (Str × (List D → CR))} {m : Str} {ns : List Str} {ma : MA} : methA As m (.obj false c ns ds) ma τ = methC (As.lookup c) (ns.contains m) (.obj false c ns ds) ma τ := rfl
theorem x_meth3 {g : List D → CR} {ma : MA} : methC (some g) false d ma τ = (ma τ).bind fun ds τ2 => ofC (g (d :: freezeL ds)) τ2 := rfl
def isOD (tbl : Str → Option Bool) (o : Option D) : Option D := o.bind fun d => match d with
  | .obj _ c _ _ => (tbl c).map D.bl
  | _ => none
theorem x_isO {tbl : Str → Option Bool} {m : MZ} : zIsO tbl m τ = isOD tbl (m τ) := rfl
theorem x_isO1 {tbl : Str → Option Bool} {b : Bool} {ns : List Str} : isOD tbl (some (.obj b c ns ds)) = (tbl c).map D.bl := rfl
theorem x_cat {a b : ME} : eCat a b τ = (a τ).bind fun x τ1 => (b τ1).bind fun y τ2 => slE' (catD (freeze x) (freeze y)) τ2 := rfl
theorem x_cat1 : slE' (some d) τ = .ok d τ := rfl
theorem vCat {xs ys : List D} (h : xs.length + ys.length ≤ 1000000) : catD (.lst false xs) (.lst false ys) = some (.lst true (xs ++ ys)) := if_pos h
def callZ (g : List D → CR) (o : Option (List D)) (τ : Env) : R D := match o with
  | some ds => lendR (g (freezeL ds)) τ
  | none => .bad
def methZC (o : Option (List D → CR)) (b : Bool) (d : D) (a : Option (List D)) (τ1 : Env) : R D := match o with
  | some g => if b = true then .bad else (match a with
    | some ds => lendR (g (d :: freezeL ds)) τ1
    | none => .bad)
  | none => .bad
def methZA (As : List (Str × (List D → CR))) (m : Str) (d : D) (a : Option (List D)) (τ1 : Env) : R D := match d with
  | .obj false c ns xs => methZC (As.lookup c) (ns.contains m) (.obj false c ns xs) a τ1
  | _ => .bad
theorem x_methZ {As : List (Str × (List D → CR))} {m : Str} {mo : ME} {ma : Env → Option (List D)} : eMethZ As m mo ma τ = (mo τ).bind fun d τ1 => methZA As m d (ma τ1) τ1 := by
  show (mo τ).bind _ = _
  congr 1
  all_goals (
    funext d τ1
    cases d with
    | obj b c ns xs =>
      cases b with
      | true => rfl
      | false =>
        unfold methZA methZC
        cases As.lookup c <;> rfl
    | _ => rfl)
def setIx1 (o : Option D) (k : Option D) (i : Nat) (d : D) (τ1 : Env) : SR := match o with
  | some (.lst true es) => (match k with
    | some (.int k) => (match setD es k d with
      | some es' => .nx (τ1.set i (some (.lst true es')))
      | none => .bad)
    | _ => .bad)
  | _ => .bad
def setIx2 (o : Option (List D)) (i : Nat) (τ1 : Env) : SR := match o with
  | some es' => .nx (τ1.set i (some (.lst true es')))
  | none => .bad
theorem x_methZ2 {As : List (Str × (List D → CR))} {m : Str} {ns : List Str} {a : Option (List D)} : methZA As m (.obj false c ns ds) a τ = methZC (As.lookup c) (ns.contains m) (.obj false c ns ds) a τ := rfl
theorem x_methZ3 {g : List D → CR} : methZC (some g) false d (some ds) τ = lendR (g (d :: freezeL ds)) τ := rfl
theorem x_callZ {g : List D → CR} {m : Env → Option (List D)} : eCallZ g m τ = callZ g (m τ) τ := rfl
theorem x_callZ1 {g : List D → CR} : callZ g (some ds) τ = lendR (g (freezeL ds)) τ := rfl
theorem x_lend1 : lendR (.ok d) τ = if clean d = true then .ok d τ else .bad := rfl
theorem x_lend2 : lendR (.ex c) τ = .ex c τ := rfl
theorem x_cl_int {i : Int} : clean (.int i) = true := rfl
theorem x_cl_bl {i : Bool} : clean (.bl i) = true := rfl
theorem x_cl_str {i : Str} : clean (.str i) = true := rfl
theorem x_cl_non : clean .non = true := rfl
theorem x_cl_tup : clean (.tup ds) = cleanL ds := rfl
theorem x_cl0 : cleanL [] = true := rfl
theorem x_cl1 : cleanL (d :: ds) = (clean d && cleanL ds) := rfl
theorem x_cl_lst : clean (.lst true ds) = cleanL ds := Bool.true_and _
theorem x_setIx {mi : MZ} {m : ME} : sSetIx i mi m τ = (m τ).s fun d τ1 => setIx1 (τ1.getD i none) (mi τ1) i d τ1 := rfl
theorem x_setIx1 {k : Int} : setIx1 (some (.lst true ds)) (some (.int k)) i d τ = setIx2 (setD ds k d) i τ := rfl
def lcB (o : Option D) (own : List Nat) (i : Nat) (g : D → Env → Option Env) (t : MT) (m : ME) (τ : Env) : R D := match o with
  | some (.lst true es) => if es.all isFz = true then (match lcL own g t m es [] (wipeE (τ.set i none) own) with
    | .ok acc τ2 => .ok (.lst true acc) (τ2.set i (some (.lst true es)))
    | _ => .bad) else .bad
  | _ => .bad
theorem lcB_ok {own : List Nat} {g : D → Env → Option Env} {t : MT} {m : ME} {es acc : List D} (h : τ.getD i none = some (.lst true es)) (hz : es.all isFz = true) (e : lcL own g t m es [] (wipeE (τ.set i none) own) = .ok acc τ') : eLcB own i g t m τ = .ok (.lst true acc) (τ'.set i (some (.lst true es))) := by
  show lcB (τ.getD i none) own i g t m τ = _
  rw [h]
  show (if es.all isFz = true then (match lcL own g t m es [] (wipeE (τ.set i none) own) with | .ok acc τ2 => R.ok (D.lst true acc) (τ2.set i (some (.lst true es))) | _ => R.bad) else R.bad) = _
  rw [if_pos hz, e]
theorem x_setIx2 : setIx2 (some ds) i τ = .nx (τ.set i (some (.lst true ds))) := rfl
theorem vSetD {es : List D} {j : Nat} {k : Int} (e : k = (j : Nat)) (h : j < es.length) : setD es k d = some (es.set j d) := by
  subst e
  unfold setD ixN
  rw [if_pos (by omega), if_pos (by omega)]
  rfl
theorem vInD {a : D} {m : Bool} {xs : List D} (h1 : okP a = true) (h2 : okP (.lst m xs) = true) : gInD false a (.lst m xs) = some (.bl ((toPs xs).any fun z => PyData.eqv z (toP a))) := if_pos ⟨h1, h2⟩
theorem vNotInD {a : D} {m : Bool} {xs : List D} (h1 : okP a = true) (h2 : okP (.lst m xs) = true) : gInD true a (.lst m xs) = some (.bl (!(toPs xs).any fun z => PyData.eqv z (toP a))) := if_pos ⟨h1, h2⟩
end
end Bn

/-! Plain helpers: data equal to itself, loops, comprehensions, ranges. -/
namespace Bn
open PySem L2
/-- data, nested at most n deep -/
structure Ok (n : Nat) (d : D) : Prop where
  h : hasP d = true
  l : (toP d).canLay0 = true
  d : (toP d).depth ≤ n
theorem ok_int {n : Nat} (i : Int) : Ok n (.int i) := ⟨rfl, by simp [toP, PyData.canLay0], by simp [toP, PyData.depth]⟩
theorem ok_bl {n : Nat} (i : Bool) : Ok n (.bl i) := ⟨rfl, by simp [toP, PyData.canLay0], by simp [toP, PyData.depth]⟩
theorem ok_non {n : Nat} : Ok n .non := ⟨rfl, by simp [toP, PyData.canLay0], by simp [toP, PyData.depth]⟩
theorem ok_str {n : Nat} {i : Str} (h : PyData.strOk i = true) : Ok n (.str i) := ⟨rfl, by simpa [toP, PyData.canLay0] using h, by simp [toP, PyData.depth]⟩
theorem ok_all {n : Nat} : ∀ {ds : List D}, (∀ d ∈ ds, Ok n d) → hasPs ds = true ∧ PyData.canLayAll0 (toPs ds) = true ∧ PyData.depthAll (toPs ds) ≤ n
  | [], _ => ⟨rfl, rfl, Nat.zero_le _⟩
  | d :: ds, h => by
    obtain ⟨h1, h2, h3⟩ := h d List.mem_cons_self
    obtain ⟨k1, k2, k3⟩ := ok_all fun e he => h e (List.mem_cons_of_mem _ he)
    refine ⟨?_, ?_, ?_⟩
    · show (hasP d && hasPs ds) = true
      rw [h1, k1]; rfl
    · show PyData.canLayAll0 (toP d :: toPs ds) = true
      simp [PyData.canLayAll0, h2, k2]
    · show PyData.depthAll (toP d :: toPs ds) ≤ n
      simp only [PyData.depthAll]
      omega
theorem ok_tup {n : Nat} {ds : List D} (h : ∀ d ∈ ds, Ok n d) : Ok (n + 1) (.tup ds) := by
  obtain ⟨h1, h2, h3⟩ := ok_all h
  exact ⟨h1, by simpa [toP, PyData.canLay0] using h2, by simp only [toP, PyData.depth]; omega⟩
theorem ok_lst {n : Nat} {b : Bool} {ds : List D} (h : ∀ d ∈ ds, Ok n d) : Ok (n + 1) (.lst b ds) := by
  obtain ⟨h1, h2, h3⟩ := ok_all h
  exact ⟨h1, by simpa [toP, PyData.canLay0] using h2, by simp only [toP, PyData.depth]; omega⟩
theorem Ok.p {n : Nat} {d : D} (h : Ok n d) (hn : n ≤ 64 := by decide) : okP d = true := by
  unfold okP SeqAt.shaped
  rw [h.h, h.l, decide_eq_true (Nat.le_trans h.d hn)]; rfl
theorem eqP_self {n : Nat} {a b : D} (h : Ok n a) (e : toP b = toP a) : eqP a b = true := by
  unfold eqP
  rw [e]
  exact SeqAt.eqv_refl _ h.l
theorem vEqX {n : Nat} {a b : D} (h : Ok n a) (k : Ok n b) (e : toP b = toP a) (hn : n ≤ 64 := by decide) : gEq a b = some (.bl true) := by
  unfold gEq
  rw [if_pos ⟨h.p hn, k.p hn⟩, eqP_self h e]
theorem vNeX {n : Nat} {a b : D} (h : Ok n a) (k : Ok n b) (e : toP b = toP a) (hn : n ≤ 64 := by decide) : gNe a b = some (.bl false) := by
  unfold gNe
  rw [if_pos ⟨h.p hn, k.p hn⟩, eqP_self h e]; rfl
theorem toP_lst (b b' : Bool) (ds : List D) : toP (.lst b ds) = toP (.lst b' ds) := by simp only [toP]
/-! ### walks over lists -/
section
variable {g : D → Env → Option Env} {b : MS} {own : List Nat} {t : MT} {m : ME}
/-- a loop with an invariant of the turn's number -/
theorem for_idx (I : Nat → Env → Prop) : ∀ (items : List D) (k0 : Nat) (τ : Env), (∀ k d τ, items[k]? = some d → I (k0 + k) τ → ∃ τ1 τ2, g d τ = some τ1 ∧ (b τ1 = .nx τ2 ∨ b τ1 = .ct τ2) ∧ I (k0 + k + 1) τ2) → I k0 τ → ∃ τ', forL g b items τ = .nx τ' ∧ I (k0 + items.length) τ'
  | [], k0, τ, _, h => ⟨τ, rfl, h⟩
  | d :: ds, k0, τ, hs, h => by
    obtain ⟨τ1, τ2, e1, e2, h2⟩ := hs 0 d τ rfl h
    obtain ⟨τ', e3, h3⟩ := for_idx I ds (k0 + 1) τ2 (fun k d τ hk hI => by
      have := hs (k + 1) d τ (by rw [List.getElem?_cons_succ]; exact hk) (by rw [show k0 + (k + 1) = k0 + 1 + k by omega]; exact hI)
      rw [show k0 + (k + 1) + 1 = k0 + 1 + k + 1 by omega] at this
      exact this) h2
    refine ⟨τ', ?_, ?_⟩
    · rw [x_fo1, e1]
      show forB (b τ1) _ = _
      rcases e2 with e2 | e2 <;> rw [e2]
      · exact e3
      · exact e3
    · rw [List.length_cons, show k0 + (ds.length + 1) = k0 + 1 + ds.length by omega]; exact h3
theorem for_inv (I : Env → Prop) (items : List D) (τ : Env) (hs : ∀ d ∈ items, ∀ τ, I τ → ∃ τ1 τ2, g d τ = some τ1 ∧ (b τ1 = .nx τ2 ∨ b τ1 = .ct τ2) ∧ I τ2) (h : I τ) : ∃ τ', forL g b items τ = .nx τ' ∧ I τ' :=
  for_idx (fun _ => I) items 0 τ (fun k d τ hk hI => hs d (List.mem_of_getElem? hk) τ hI) h
/-- two lists, item by item -/
def All2 (P : D → D → Prop) : List D → List D → Prop
  | [], [] => True
  | x :: xs, y :: ys => P x y ∧ All2 P xs ys
  | _, _ => False
theorem All2.length {P : D → D → Prop} : ∀ {xs ys : List D}, All2 P xs ys → xs.length = ys.length
  | [], [], _ => rfl
  | _ :: _, [], h => h.elim
  | [], _ :: _, h => h.elim
  | _ :: _, _ :: _, h => by rw [List.length_cons, List.length_cons, h.2.length]
/-- a comprehension without a test, whose every turn leaves the names as they were -/
theorem lc_all (P : D → D → Prop) (τ : Env) : ∀ (items acc : List D), acc.length + items.length ≤ 1000000 → (∀ d ∈ items, ∃ e τ1 τ2, g d τ = some τ1 ∧ m τ1 = .ok e τ2 ∧ wipeE τ2 own = τ ∧ P d e) → ∃ es, All2 P items es ∧ lcL own g tTrue m items acc τ = .ok (acc ++ es) τ
  | [], acc, _, _ => ⟨[], trivial, by rw [List.append_nil]; rfl⟩
  | d :: ds, acc, hl, h => by
    obtain ⟨e, τ1, τ2, e1, e2, e3, p⟩ := h d List.mem_cons_self
    rw [List.length_cons] at hl
    obtain ⟨es, q, e4⟩ := lc_all P τ ds (acc ++ [e]) (by rw [List.length_append]; simp only [List.length_cons, List.length_nil]; omega) fun d' hd => h d' (List.mem_cons_of_mem _ hd)
    refine ⟨e :: es, ⟨p, q⟩, ?_⟩
    rw [x_lc1, e1, x_lcG, x_tTrue, x_b1, if_pos rfl, e2, x_b1, if_pos (by omega), e3, e4, List.append_assoc]
    rfl
theorem lc_map {α : Type} (f : α → D) (P : D → D → Prop) (hP : ∀ d e, P d e → ∃ x, e = f x) : ∀ {items es : List D}, All2 P items es → ∃ xs : List α, es = List.map f xs
  | [], [], _ => ⟨[], rfl⟩
  | _ :: _, [], h => h.elim
  | [], _ :: _, h => h.elim
  | d :: _, e :: es, ⟨h1, h2⟩ => by
    obtain ⟨x, rfl⟩ := hP d e h1
    obtain ⟨xs, rfl⟩ := lc_map f P hP h2
    exact ⟨x :: xs, rfl⟩
theorem All2.right {P : D → D → Prop} {Q : D → Prop} (hP : ∀ d e, P d e → Q e) : ∀ {items es : List D}, All2 P items es → ∀ e ∈ es, Q e
  | [], [], _ => by simp
  | _ :: _, [], h => h.elim
  | [], _ :: _, h => h.elim
  | d :: _, e :: es, ⟨h1, h2⟩ => by
    intro x hx
    rcases List.mem_cons.mp hx with rfl | hx
    · exact hP _ _ h1
    · exact All2.right hP h2 x hx
end
theorem fz_map {α : Type} {f : α → D} (h : ∀ p, freeze (f p) = f p) : ∀ xs : List α, freezeL (xs.map f) = xs.map f
  | [] => rfl
  | x :: xs => by rw [List.map_cons, x_fL1, h, fz_map h xs]
/-! ### ranges -/
theorem length_rangeD (lo : Int) (n : Nat) : (rangeD lo n).length = n := by simp [rangeD]
theorem rangeD_get {lo : Int} {n k : Nat} {d : D} (h : (rangeD lo n)[k]? = some d) : k < n ∧ d = .int (lo + (k : Nat)) := by
  unfold rangeD at h
  rw [List.getElem?_map] at h
  by_cases z : k < n
  · rw [List.getElem?_range z] at h
    exact ⟨z, by simpa using h.symm⟩
  · rw [List.getElem?_eq_none (by simp; omega)] at h
    cases h
theorem mem_rangeD {lo : Int} {n : Nat} {d : D} (h : d ∈ rangeD lo n) : ∃ k : Nat, k < n ∧ d = .int (lo + (k : Nat)) := by
  obtain ⟨k, hk⟩ := List.mem_iff_getElem?.mp h
  exact ⟨k, rangeD_get hk⟩
section
variable {ma : MA} {g : D → Env → Option Env} {b : MS} {own : List Nat} {t : MT} {m : ME} {τ τ1 τ2 : Env}
theorem x_range {N : Int} {n : Nat} (h : ma τ = .ok [.int N] τ1) (h1 : 0 ≤ N) (h2 : N < 1000000) (e : N.toNat = n) : iR1 ma τ = .ok (rangeD 0 n) τ1 := by
  rw [x_iR1, h, x_b1, x_iR11 (by omega) (by omega), e]
theorem x_for_range {N : Int} {n : Nat} (h : ma τ = .ok [.int N] τ1) (h1 : 0 ≤ N) (h2 : N < 1000000) (e : N.toNat = n) : sFor (iR1 ma) g b τ = forL g b (rangeD 0 n) τ1 := by
  rw [x_for, x_range h h1 h2 e, x_s1]
theorem x_lc_range {N : Int} {n : Nat} (h : ma τ = .ok [.int N] τ1) (h1 : 0 ≤ N) (h2 : N < 1000000) (e : N.toNat = n) : eLc own (iR1 ma) g t m τ = lcE (lcL own g t m (rangeD 0 n) [] (wipeE τ1 own)) := by
  rw [x_lc, x_range h h1 h2 e, x_b1]
theorem x_cat_ok {ea eb : ME} {x y d : D} (h1 : ea τ = .ok x τ1) (h2 : eb τ1 = .ok y τ2) (h3 : catD (freeze x) (freeze y) = some d) : eCat ea eb τ = .ok d τ2 := by
  rw [x_cat, h1, x_b1, h2, x_b1, h3, x_cat1]
theorem x_asg_ok {gg : D → Env → Option Env} {d : D} (h : m τ = .ok d τ1) (k : gg d τ1 = some τ2) : sAsg m gg τ = .nx τ2 := by
  rw [x_asg, h, x_asg1, k, x_asg4]
theorem x_seq_ok {a c : MS} {r : SR} (h : a τ = .nx τ1) (k : c τ1 = r) : sSeq a c τ = r := by
  rw [x_seq, h, x_seq1, k]
theorem cut_map {α β : Type} (f : α → β) (xs : List α) (lo hi : Option Int) : cutL (xs.map f) lo hi = (cutL xs lo hi).map f := by
  unfold cutL
  rw [List.length_map, List.map_take, List.map_drop]
theorem cut_length_le {α : Type} (xs : List α) (lo hi : Option Int) : (cutL xs lo hi).length ≤ xs.length := by
  unfold cutL
  rw [List.length_take, List.length_drop]
  omega
end
theorem vIxL_of {b : Bool} {xs : List D} {i : Int} {d : D} {k : Nat} (e : i = (k : Nat)) (h : xs[k]? = some d) : gIx (.lst b xs) (.int i) = some d := by
  subst e; rw [vIxL, h]
theorem ix_map {α : Type} (f : α → D) (xs : List α) {i : Int} (h0 : 0 ≤ i) (h1 : i < xs.length) : ∃ x ∈ xs, ∀ b, gIx (.lst b (xs.map f)) (.int i) = some (f x) := by
  obtain ⟨k, rfl⟩ : ∃ k : Nat, i = k := ⟨i.toNat, by omega⟩
  have hk : k < xs.length := by omega
  refine ⟨xs[k], List.getElem_mem hk, fun b => ?_⟩
  rw [vIxL, List.getElem?_map, List.getElem?_eq_getElem hk]; rfl
end Bn

namespace Lw
open PySem PySem.Spec PyProof.Rows L2 Bn
/-! ### the text -/
def topS (i : Nat) : Stmt := PySem.Challenge.pw_boxnarrow_k31_back_of_sums.main.body.getD i (.Pass ⟨0, 0, 0, 0⟩)
abbrev s__law_grid : Stmt := topS 32
theorem sc__law_grid : FnScope ["_law_cell_here", "_law_c"] ["_law_cell_here"] (defScope s__law_grid) := ⟨rfl, rfl, rfl, by decide +kernel, rfl, by decide +kernel, by decide +kernel⟩
abbrev s__law_cell : Stmt := topS 27
theorem sc__law_cell : FnScope ["_law_script", "_law_k"] ["_law_script", "_law_k"] (defScope s__law_cell) := ⟨rfl, rfl, rfl, by decide +kernel, rfl, by decide +kernel, by decide +kernel⟩
abbrev s__law_span : Stmt := topS 33
theorem sc__law_span : FnScope ["_law_cell_here", "_law_c", "_law_way", "_law_low", "_law_wide"] ["_law_cell_here"] (defScope s__law_span) := ⟨rfl, rfl, rfl, by decide +kernel, rfl, by decide +kernel, by decide +kernel⟩
abbrev s__law_divisor : Stmt := topS 30
theorem sc__law_divisor : FnScope ["_law_a", "_law_b", "_law_rest"] ["_law_a", "_law_b"] (defScope s__law_divisor) := ⟨rfl, rfl, rfl, by decide +kernel, rfl, by decide +kernel, by decide +kernel⟩
abbrev s__law_fraction : Stmt := topS 31
theorem sc__law_fraction : FnScope ["_law_top", "_law_bottom", "_law_shared"] ["_law_top", "_law_bottom"] (defScope s__law_fraction) := ⟨rfl, rfl, rfl, by decide +kernel, rfl, by decide +kernel, by decide +kernel⟩
abbrev s__law_number : Stmt := topS 35
theorem sc__law_number : FnScope ["_law_cell_here", "_law_c", "_law_made_here"] ["_law_cell_here"] (defScope s__law_number) := ⟨rfl, rfl, rfl, by decide +kernel, rfl, by decide +kernel, by decide +kernel⟩
abbrev s__law_node : Stmt := topS 36
theorem sc__law_node : FnScope ["_law_cell_here", "_law_size", "_law_many", "_law_c", "_law_kind", "_law_one"] ["_law_cell_here", "_law_size", "_law_many"] (defScope s__law_node) := ⟨rfl, rfl, rfl, by decide +kernel, rfl, by decide +kernel, by decide +kernel⟩
abbrev s__law_power : Stmt := topS 34
theorem sc__law_power : FnScope ["_law_a", "_law_many", "_law_found", "_law_turn"] ["_law_a", "_law_many"] (defScope s__law_power) := ⟨rfl, rfl, rfl, by decide +kernel, rfl, by decide +kernel, by decide +kernel⟩
abbrev s__law_forth : Stmt := topS 37
theorem sc__law_forth : FnScope ["_law_node_here", "_law_spans", "_law_box", "_law_grid_here", "_law_a", "_law_share", "_law_ends", "_law_low", "_law_b"] ["_law_node_here", "_law_spans", "_law_box", "_law_grid_here"] (defScope s__law_forth) := ⟨rfl, rfl, rfl, by decide +kernel, rfl, by decide +kernel, by decide +kernel⟩
abbrev s__law_here : Stmt := topS 41
theorem sc__law_here : FnScope ["_law_node_here", "_law_spans", "_law_box", "_law_grid_here", "_law_cell_here", "_law_c", "_law_some", "_law_x", "_law_u", "_law_y", "_law_v", "_law_near"] ["_law_node_here", "_law_spans", "_law_box", "_law_grid_here", "_law_cell_here"] (defScope s__law_here) := ⟨rfl, rfl, rfl, by decide +kernel, rfl, by decide +kernel, by decide +kernel⟩
abbrev s_kind_of : Stmt := topS 25
theorem sc_kind_of : FnScope ["node"] ["node"] (defScope s_kind_of) := ⟨rfl, rfl, rfl, by decide +kernel, rfl, by decide +kernel, by decide +kernel⟩
abbrev s__law_made : Stmt := topS 38
theorem sc__law_made : FnScope ["_law_node_here", "_law_straight"] ["_law_node_here", "_law_straight"] (defScope s__law_made) := ⟨rfl, rfl, rfl, by decide +kernel, rfl, by decide +kernel, by decide +kernel⟩
abbrev s__law_meet : Stmt := topS 39
theorem sc__law_meet : FnScope ["_law_a", "_law_b"] ["_law_a", "_law_b"] (defScope s__law_meet) := ⟨rfl, rfl, rfl, by decide +kernel, rfl, by decide +kernel, by decide +kernel⟩
abbrev s__law_back_sum : Stmt := topS 40
theorem sc__law_back_sum : FnScope ["_law_node_here", "_law_spans", "_law_z", "_law_x", "_law_y"] ["_law_node_here", "_law_spans", "_law_z"] (defScope s__law_back_sum) := ⟨rfl, rfl, rfl, by decide +kernel, rfl, by decide +kernel, by decide +kernel⟩
abbrev s__law_whole : Stmt := topS 28
theorem sc__law_whole : FnScope ["_law_found"] ["_law_found"] (defScope s__law_whole) := ⟨rfl, rfl, rfl, by decide +kernel, rfl, by decide +kernel, by decide +kernel⟩
abbrev s__law_span_is : Stmt := topS 29
theorem sc__law_span_is : FnScope ["_law_found"] ["_law_found"] (defScope s__law_span_is) := ⟨rfl, rfl, rfl, by decide +kernel, rfl, by decide +kernel, by decide +kernel⟩
abbrev s__law_parts_are : Stmt := topS 42
theorem sc__law_parts_are : FnScope ["_law_found", "_law_due", "_law_k", "_law_part"] ["_law_found", "_law_due"] (defScope s__law_parts_are) := ⟨rfl, rfl, rfl, by decide +kernel, rfl, by decide +kernel, by decide +kernel⟩
abbrev s_Node_back : Stmt := inClass (topS 18) 2
theorem sc_Node_back : FnScope ["self", "spans", "here", "grid"] ["self", "spans", "here", "grid"] (defScope s_Node_back) := ⟨rfl, rfl, rfl, by decide +kernel, rfl, by decide +kernel, by decide +kernel⟩
abbrev s_common : Stmt := topS 5
theorem sc_common : FnScope ["a", "b", "low", "high"] ["a", "b"] (defScope s_common) := ⟨rfl, rfl, rfl, by decide +kernel, rfl, by decide +kernel, by decide +kernel⟩
abbrev s_take_spans : Stmt := topS 3
theorem sc_take_spans : FnScope ["a", "b"] ["a", "b"] (defScope s_take_spans) := ⟨rfl, rfl, rfl, by decide +kernel, rfl, by decide +kernel, by decide +kernel⟩
abbrev s_Plus_first_back : Stmt := inClass (topS 21) 4
theorem sc_Plus_first_back : FnScope ["self", "here", "x", "y", "grid"] ["self", "here", "x", "y", "grid"] (defScope s_Plus_first_back) := ⟨rfl, rfl, rfl, by decide +kernel, rfl, by decide +kernel, by decide +kernel⟩
abbrev s_add_spans : Stmt := topS 2
theorem sc_add_spans : FnScope ["a", "b"] ["a", "b"] (defScope s_add_spans) := ⟨rfl, rfl, rfl, by decide +kernel, rfl, by decide +kernel, by decide +kernel⟩
abbrev s_Minus_first_back : Stmt := inClass (topS 22) 4
theorem sc_Minus_first_back : FnScope ["self", "here", "x", "y", "grid"] ["self", "here", "x", "y", "grid"] (defScope s_Minus_first_back) := ⟨rfl, rfl, rfl, by decide +kernel, rfl, by decide +kernel, by decide +kernel⟩
abbrev s_Plus_second_back : Stmt := inClass (topS 21) 5
theorem sc_Plus_second_back : FnScope ["self", "here", "x", "y", "grid"] ["self", "here", "x", "y", "grid"] (defScope s_Plus_second_back) := ⟨rfl, rfl, rfl, by decide +kernel, rfl, by decide +kernel, by decide +kernel⟩
abbrev s_Minus_second_back : Stmt := inClass (topS 22) 5
theorem sc_Minus_second_back : FnScope ["self", "here", "x", "y", "grid"] ["self", "here", "x", "y", "grid"] (defScope s_Minus_second_back) := ⟨rfl, rfl, rfl, by decide +kernel, rfl, by decide +kernel, by decide +kernel⟩
abbrev s_Node_pair_back : Stmt := inClass (topS 18) 5
theorem sc_Node_pair_back : FnScope ["self", "spans", "here", "grid", "one", "other", "x", "y"] ["self", "spans", "here", "grid", "one", "other"] (defScope s_Node_pair_back) := ⟨rfl, rfl, rfl, by decide +kernel, rfl, by decide +kernel, by decide +kernel⟩
abbrev s_Plus_back : Stmt := inClass (topS 21) 3
theorem sc_Plus_back : FnScope ["self", "spans", "here", "grid"] ["self", "spans", "here", "grid"] (defScope s_Plus_back) := ⟨rfl, rfl, rfl, by decide +kernel, rfl, by decide +kernel, by decide +kernel⟩
abbrev s_Minus_back : Stmt := inClass (topS 22) 3
theorem sc_Minus_back : FnScope ["self", "spans", "here", "grid"] ["self", "spans", "here", "grid"] (defScope s_Minus_back) := ⟨rfl, rfl, rfl, by decide +kernel, rfl, by decide +kernel, by decide +kernel⟩
abbrev s_law : Stmt := topS 43
theorem sc_law : FnScope ["_law_script", "_law_cells", "_law_grid_here", "_law_many", "_law_box", "_law_k", "_law_spans", "_law_cell_here", "_law_node_here", "_law_z", "_law_due", "_law_made_here", "_law_handed"] ["_law_script"] (defScope s_law) := ⟨rfl, rfl, rfl, by decide +kernel, rfl, by decide +kernel, by decide +kernel⟩
abbrev s_Power___init__ : Stmt := inClass (topS 24) 0
theorem sc_Power___init__ : FnScope ["self", "one", "many"] ["self", "one", "many"] (defScope s_Power___init__) := ⟨rfl, rfl, rfl, by decide +kernel, rfl, by decide +kernel, by decide +kernel⟩
abbrev s_Number___init__ : Stmt := inClass (topS 19) 0
theorem sc_Number___init__ : FnScope ["self", "top", "bottom"] ["self", "top", "bottom"] (defScope s_Number___init__) := ⟨rfl, rfl, rfl, by decide +kernel, rfl, by decide +kernel, by decide +kernel⟩
abbrev s_Unknown___init__ : Stmt := inClass (topS 20) 0
theorem sc_Unknown___init__ : FnScope ["self", "place"] ["self", "place"] (defScope s_Unknown___init__) := ⟨rfl, rfl, rfl, by decide +kernel, rfl, by decide +kernel, by decide +kernel⟩
abbrev s_Plus___init__ : Stmt := inClass (topS 21) 0
theorem sc_Plus___init__ : FnScope ["self", "one", "other"] ["self", "one", "other"] (defScope s_Plus___init__) := ⟨rfl, rfl, rfl, by decide +kernel, rfl, by decide +kernel, by decide +kernel⟩
abbrev s_Minus___init__ : Stmt := inClass (topS 22) 0
theorem sc_Minus___init__ : FnScope ["self", "one", "other"] ["self", "one", "other"] (defScope s_Minus___init__) := ⟨rfl, rfl, rfl, by decide +kernel, rfl, by decide +kernel, by decide +kernel⟩
abbrev s_Times___init__ : Stmt := inClass (topS 23) 0
theorem sc_Times___init__ : FnScope ["self", "one", "other"] ["self", "one", "other"] (defScope s_Times___init__) := ⟨rfl, rfl, rfl, by decide +kernel, rfl, by decide +kernel, by decide +kernel⟩
/-! ### the functions -/
theorem fl_Minus_one {b : Bool} {x0 x1 : D} : gFld "Minus" "one" (.obj b "Minus" ["one", "other"] [x0, x1]) = some x0 := rfl
theorem fl_Minus_other {b : Bool} {x0 x1 : D} : gFld "Minus" "other" (.obj b "Minus" ["one", "other"] [x0, x1]) = some x1 := rfl
theorem fl_Plus_one {b : Bool} {x0 x1 : D} : gFld "Plus" "one" (.obj b "Plus" ["one", "other"] [x0, x1]) = some x0 := rfl
theorem fl_Plus_other {b : Bool} {x0 x1 : D} : gFld "Plus" "other" (.obj b "Plus" ["one", "other"] [x0, x1]) = some x1 := rfl
def caF (a_Node a_Number a_Unknown a_Plus a_Minus a_Times a_Power : Addr) : Str → Addr := fun y => if y = "Node" then a_Node else if y = "Number" then a_Number else if y = "Unknown" then a_Unknown else if y = "Plus" then a_Plus else if y = "Minus" then a_Minus else if y = "Times" then a_Times else if y = "Power" then a_Power else 0
def m__law_grid : MS := (sSeq (sAsg (eZ (z2 gMod (zVar 0) (z2 gPow (zC (.int 10)) (zC (.int 20))))) (gN 1))
    (sRet (e2 gAdd (eZ (zC (.int 1))) (e2 gMod (eZ (z2 gMod (z2 gMul (z2 gDiv (zVar 1) (zC (.int 4))) (zC (.int 48271))) (zC (.int 2147483647)))) (e2 gIx (eLst (aCons (eZ (zC (.int 1))) (aCons (eZ (zC (.int 12))) (aCons (eZ (zC (.int 1000))) (aCons (eZ (zC (.int 1000000))) aNil))))) (eZ (z2 gMod (zVar 1) (zC (.int 4)))))))))
def f__law_grid : List D → CR := callF 1 2 m__law_grid
def m__law_cell : MS := (sSeq (sIf (tZ (z2 gLt (zVar 1) (zC' gLen (zaCons (zVar 0) zaNil)))) (sRet (eZ (z2 gIx (zVar 0) (zVar 1)))) sNil)
    (sRet (eZ (zC (.int 0)))))
def f__law_cell : List D → CR := callF 2 2 m__law_cell
def m__law_span : MS := (sSeq (sAsg (eZ (z2 gMod (zVar 0) (z2 gPow (zC (.int 10)) (zC (.int 40))))) (gN 1))
    (sSeq (sAsg (eZ (z2 gMod (zVar 1) (zC (.int 5)))) (gN 2))
    (sSeq (sAsg (eZ (z2 gDiv (zVar 1) (zC (.int 5)))) (gN 1))
    (sSeq (sIf (tZ (z2 gEq (zVar 2) (zC (.int 4)))) (sSeq (sAsg (eZ (z2 gSub (z2 gMod (zVar 1) (zC (.int 1999999999999999))) (zC (.int 999999999999999)))) (gN 3))
    (sRet (eTup (aCons (eVar 3) (aCons (eZ (zC' gMin2 (zaCons (zC (.int 999999999999999)) (zaCons (z2 gAdd (zVar 3) (z2 gMod (z2 gMul (zVar 1) (zC (.int 48271))) (z2 gPow (zC (.int 10)) (zC (.int 16))))) zaNil)))) aNil))))) sNil)
    (sSeq (sAsg (eZ (z2 gSub (z2 gMod (zVar 1) (zC (.int 201))) (zC (.int 100)))) (gN 3))
    (sSeq (sAsg (eZ (z2 gMod (z2 gMod (z2 gMul (zVar 1) (zC (.int 48271))) (zC (.int 2147483647))) (zC (.int 120)))) (gN 4))
    (sSeq (sIf (tZ (z2 gEq (zVar 2) (zC (.int 0)))) (sAsg (eZ (z2 gMod (zVar 4) (zC (.int 2)))) (gN 4)) sNil)
    (sSeq (sIf (tZ (z2 gEq (zVar 2) (zC (.int 1)))) (sRet (eTup (aCons (eZ (z2 gMul (zVar 3) (zC (.int 37)))) (aCons (eZ (z2 gAdd (z2 gMul (zVar 3) (zC (.int 37))) (z2 gMul (zVar 4) (zC (.int 41))))) aNil)))) sNil)
    (sRet (eTup (aCons (eVar 3) (aCons (eZ (z2 gAdd (zVar 3) (zVar 4))) aNil))))))))))))
def f__law_span : List D → CR := callF 1 5 m__law_span
def fuel__law_divisor1 : Bn.Env → Nat := fun τ => match τ.getD 1 none with | some (.int x) => x.natAbs + 1 | _ => 0
def m__law_divisor : MS := (sSeq (sWhile fuel__law_divisor1 (tZ (z2 gGt (zVar 1) (zC (.int 0)))) (sSeq (sAsg (eZ (z2 gMod (zVar 0) (zVar 1))) (gN 2))
    (sSeq (sAsg (eVar 1) (gN 0))
    (sAsg (eVar 2) (gN 1)))))
    (sRet (eMv 0)))
def f__law_divisor : List D → CR := callF 2 3 m__law_divisor
def m__law_fraction : MS := (sSeq (sAsg (eCall f__law_divisor (aCons (eZ (zC' gAbs (zaCons (zVar 0) zaNil))) (aCons (eVar 1) aNil))) (gN 2))
    (sRet (eTup (aCons (eZ (z2 gDiv (zVar 0) (zVar 2))) (aCons (eZ (z2 gDiv (zVar 1) (zVar 2))) aNil)))))
def f__law_fraction : List D → CR := callF 2 3 m__law_fraction
def m__law_number : MS := (sSeq (sAsg (eZ (z2 gMod (zVar 0) (z2 gPow (zC (.int 10)) (zC (.int 40))))) (gN 1))
    (sSeq (sIf (tZ (z2 gEq (z2 gMod (zVar 1) (zC (.int 4))) (zC (.int 0)))) (sAsg (eCall f__law_fraction (aCons (eZ (z2 gSub (z2 gMod (z2 gDiv (zVar 1) (zC (.int 4))) (zC (.int 1999999999))) (zC (.int 999999999)))) (aCons (eZ (z2 gAdd (zC (.int 1)) (z2 gMod (z2 gMul (zVar 1) (zC (.int 48271))) (zC (.int 999999999))))) aNil))) (gN 2)) (sAsg (eCall f__law_fraction (aCons (eZ (z2 gSub (z2 gMod (z2 gDiv (zVar 1) (zC (.int 4))) (zC (.int 41))) (zC (.int 20)))) (aCons (eZ (z2 gAdd (zC (.int 1)) (z2 gMod (z2 gMod (z2 gMul (zVar 1) (zC (.int 48271))) (zC (.int 2147483647))) (zC (.int 6))))) aNil))) (gN 2)))
    (sRet (eTup (aCons (eZ (zC (.str "number"))) (aCons (eZ (z2 gIx (zVar 2) (zC (.int 0)))) (aCons (eZ (z2 gIx (zVar 2) (zC (.int 1)))) aNil)))))))
def f__law_number : List D → CR := callF 1 3 m__law_number
def u__law_node_8 : MS := (sRet (eTup (aCons (e2 gIx (eLst (aCons (eZ (zC (.str "plus"))) (aCons (eZ (zC (.str "minus"))) (aCons (eZ (zC (.str "times"))) aNil)))) (eZ (z2 gMod (zVar 4) (zC (.int 3))))) (aCons (eVar 5) (aCons (eZ (z2 gMod (z2 gMod (z2 gMul (zVar 3) (zC (.int 48271))) (zC (.int 2147483647))) (zVar 1))) aNil)))))
def u__law_node_7 : MS := (sSeq (sIf (tZ (z2 gEq (zVar 4) (zC (.int 7)))) (sRet (eTup (aCons (eZ (zC (.str "power"))) (aCons (eVar 5) (aCons (eZ (z2 gAdd (zC (.int 2)) (z2 gMod (z2 gMod (z2 gMul (zVar 3) (zC (.int 69621))) (zC (.int 2147483629))) (zC (.int 5))))) aNil))))) sNil) u__law_node_8)
def u__law_node_6 : MS := (sSeq (sIf (tZ (z2 gEq (z2 gMod (zVar 3) (zC (.int 3))) (zC (.int 0)))) (sAsg (eZ (z2 gSub (zVar 1) (zC (.int 1)))) (gN 5)) sNil) u__law_node_7)
def u__law_node_5 : MS := (sSeq (sAsg (eZ (z2 gMod (zVar 3) (zVar 1))) (gN 5)) u__law_node_6)
def u__law_node_4 : MS := (sSeq (sIf (tOr (tZ (z2 gEq (zVar 4) (zC (.int 1)))) (tZ (z2 gEq (zVar 1) (zC (.int 0))))) (sRet (eTup (aCons (eZ (zC (.str "unknown"))) (aCons (eZ (z2 gMod (zVar 3) (zVar 2))) aNil)))) sNil) u__law_node_5)
def u__law_node_3 : MS := (sSeq (sIf (tZ (z2 gEq (zVar 4) (zC (.int 0)))) (sRet (eCall f__law_number (aCons (eVar 3) aNil))) sNil) u__law_node_4)
def u__law_node_2 : MS := (sSeq (sAsg (eZ (z2 gDiv (zVar 3) (zC (.int 8)))) (gN 3)) u__law_node_3)
def u__law_node_1 : MS := (sSeq (sAsg (eZ (z2 gMod (zVar 3) (zC (.int 8)))) (gN 4)) u__law_node_2)
def m__law_node : MS := (sSeq (sAsg (eZ (z2 gMod (zVar 0) (z2 gPow (zC (.int 10)) (zC (.int 40))))) (gN 3)) u__law_node_1)
def f__law_node : List D → CR := callF 3 6 m__law_node
def m__law_power : MS := (sSeq (sAsg (eZ (zC (.int 1))) (gN 2))
    (sSeq (sFor (iR1 (aCons (eVar 1) aNil)) (gN 3) (sAsg (eZ (z2 gMul (zVar 2) (zVar 0))) (gN 2)))
    (sRet (eMv 2))))
def f__law_power : List D → CR := callF 2 4 m__law_power
def u__law_forth_8 : MS := (sRet (eTup (aCons (eZ (z2 gDiv (zC' gMinL (zaCons (zVar 6) zaNil)) (zVar 3))) (aCons (eZ (z1 gNeg (z2 gDiv (z1 gNeg (zC' gMaxL (zaCons (zVar 6) zaNil))) (zVar 3)))) aNil))))
def u__law_forth_7 : MS := (sSeq (sAsg (eLst (aCons (eZ (z2 gMul (z2 gIx (zVar 4) (zC (.int 0))) (z2 gIx (zVar 8) (zC (.int 0))))) (aCons (eZ (z2 gMul (z2 gIx (zVar 4) (zC (.int 0))) (z2 gIx (zVar 8) (zC (.int 1))))) (aCons (eZ (z2 gMul (z2 gIx (zVar 4) (zC (.int 1))) (z2 gIx (zVar 8) (zC (.int 0))))) (aCons (eZ (z2 gMul (z2 gIx (zVar 4) (zC (.int 1))) (z2 gIx (zVar 8) (zC (.int 1))))) aNil))))) (gN 6)) u__law_forth_8)
def u__law_forth_6 : MS := (sSeq (sIf (tZ (z2 gEq (z2 gIx (zVar 0) (zC (.int 0))) (zC (.str "minus")))) (sRet (eTup (aCons (eZ (z2 gSub (z2 gIx (zVar 4) (zC (.int 0))) (z2 gIx (zVar 8) (zC (.int 1))))) (aCons (eZ (z2 gSub (z2 gIx (zVar 4) (zC (.int 1))) (z2 gIx (zVar 8) (zC (.int 0))))) aNil)))) sNil) u__law_forth_7)
def u__law_forth_5 : MS := (sSeq (sIf (tZ (z2 gEq (z2 gIx (zVar 0) (zC (.int 0))) (zC (.str "plus")))) (sRet (eTup (aCons (eZ (z2 gAdd (z2 gIx (zVar 4) (zC (.int 0))) (z2 gIx (zVar 8) (zC (.int 0))))) (aCons (eZ (z2 gAdd (z2 gIx (zVar 4) (zC (.int 1))) (z2 gIx (zVar 8) (zC (.int 1))))) aNil)))) sNil) u__law_forth_6)
def u__law_forth_4 : MS := (sSeq (sAsg (eZ (z2 gIx (zVar 1) (z2 gIx (zVar 0) (zC (.int 2))))) (gN 8)) u__law_forth_5)
def u__law_forth_3 : MS := (sSeq (sIf (tZ (z2 gEq (z2 gIx (zVar 0) (zC (.int 0))) (zC (.str "power")))) (sSeq (sAsg (eCall f__law_power (aCons (eVar 3) (aCons (eZ (z2 gSub (z2 gIx (zVar 0) (zC (.int 2))) (zC (.int 1)))) aNil))) (gN 5))
    (sSeq (sAsg (eLst (aCons (eCall f__law_power (aCons (eZ (z2 gIx (zVar 4) (zC (.int 0)))) (aCons (eZ (z2 gIx (zVar 0) (zC (.int 2)))) aNil))) (aCons (eCall f__law_power (aCons (eZ (z2 gIx (zVar 4) (zC (.int 1)))) (aCons (eZ (z2 gIx (zVar 0) (zC (.int 2)))) aNil))) aNil))) (gN 6))
    (sSeq (sAsg (eZ (zC' gMinL (zaCons (zVar 6) zaNil))) (gN 7))
    (sSeq (sIf (tAnd (tZ (z2 gEq (z2 gMod (z2 gIx (zVar 0) (zC (.int 2))) (zC (.int 2))) (zC (.int 0)))) (tZ (zChain gLe gLe (z2 gIx (zVar 4) (zC (.int 0))) (zC (.int 0)) (z2 gIx (zVar 4) (zC (.int 1)))))) (sAsg (eZ (zC (.int 0))) (gN 7)) sNil)
    (sRet (eTup (aCons (eZ (z2 gDiv (zVar 7) (zVar 5))) (aCons (eZ (z1 gNeg (z2 gDiv (z1 gNeg (zC' gMaxL (zaCons (zVar 6) zaNil))) (zVar 5)))) aNil)))))))) sNil) u__law_forth_4)
def u__law_forth_2 : MS := (sSeq (sAsg (eZ (z2 gIx (zVar 1) (z2 gIx (zVar 0) (zC (.int 1))))) (gN 4)) u__law_forth_3)
def u__law_forth_1 : MS := (sSeq (sIf (tZ (z2 gEq (z2 gIx (zVar 0) (zC (.int 0))) (zC (.str "unknown")))) (sRet (eZ (z2 gIx (zVar 2) (z2 gIx (zVar 0) (zC (.int 1)))))) sNil) u__law_forth_2)
def m__law_forth : MS := (sSeq (sIf (tZ (z2 gEq (z2 gIx (zVar 0) (zC (.int 0))) (zC (.str "number")))) (sRet (eTup (aCons (eZ (z2 gDiv (z2 gMul (z2 gIx (zVar 0) (zC (.int 1))) (zVar 3)) (z2 gIx (zVar 0) (zC (.int 2))))) (aCons (eZ (z1 gNeg (z2 gDiv (z2 gMul (z1 gNeg (z2 gIx (zVar 0) (zC (.int 1)))) (zVar 3)) (z2 gIx (zVar 0) (zC (.int 2)))))) aNil)))) sNil) u__law_forth_1)
def f__law_forth : List D → CR := callF 4 9 m__law_forth
def u__law_here_9 : MS := (sRet (eTup (aCons (eZ (z2 gSub (z2 gIx (zVar 11) (zC (.int 0))) (z2 gDiv (z2 gMod (zVar 5) (zC (.int 12))) (zC (.int 3))))) (aCons (eZ (z2 gAdd (z2 gIx (zVar 11) (zC (.int 1))) (z2 gDiv (z2 gMod (z2 gDiv (zVar 5) (zC (.int 12))) (zC (.int 12))) (zC (.int 3))))) aNil))))
def u__law_here_8 : MS := (sSeq (sAsg (eZ (z2 gMod (z2 gMul (zVar 5) (zC (.int 48271))) (zC (.int 2147483647)))) (gN 5)) u__law_here_9)
def u__law_here_7 : MS := (sSeq (sAsg (eCall f__law_forth (aCons (eVar 0) (aCons (eVar 6) (aCons (eVar 2) (aCons (eVar 3) aNil))))) (gN 11)) u__law_here_8)
def u__law_here_6 : MS := (sSeq (sIf (tAnd (tZ (z2 gNe (z2 gIx (zVar 0) (zC (.int 0))) (zC (.str "power")))) (tZ (z2 gNe (z2 gIx (zVar 0) (zC (.int 2))) (z2 gIx (zVar 0) (zC (.int 1)))))) (sSeq (sAsg (eZ (z2 gIx (zVar 1) (z2 gIx (zVar 0) (zC (.int 2))))) (gN 9))
    (sSeq (sAsg (eZ (z2 gAdd (z2 gIx (zVar 9) (zC (.int 0))) (z2 gDiv (z2 gMul (z2 gSub (z2 gIx (zVar 9) (zC (.int 1))) (z2 gIx (zVar 9) (zC (.int 0)))) (z2 gMod (z2 gDiv (zVar 5) (zC (.int 36))) (zC (.int 9)))) (zC (.int 8))))) (gN 10))
    (sSetIx 6 (z2 gIx (zVar 0) (zC (.int 2))) (eTup (aCons (eVar 10) (aCons (eVar 10) aNil)))))) sNil) u__law_here_7)
def u__law_here_5 : MS := (sSeq (sSetIx 6 (z2 gIx (zVar 0) (zC (.int 1))) (eTup (aCons (eVar 8) (aCons (eVar 8) aNil)))) u__law_here_6)
def u__law_here_4 : MS := (sSeq (sAsg (eZ (z2 gAdd (z2 gIx (zVar 7) (zC (.int 0))) (z2 gDiv (z2 gMul (z2 gSub (z2 gIx (zVar 7) (zC (.int 1))) (z2 gIx (zVar 7) (zC (.int 0)))) (z2 gMod (z2 gDiv (zVar 5) (zC (.int 4))) (zC (.int 9)))) (zC (.int 8))))) (gN 8)) u__law_here_5)
def u__law_here_3 : MS := (sSeq (sAsg (eZ (z2 gIx (zVar 1) (z2 gIx (zVar 0) (zC (.int 1))))) (gN 7)) u__law_here_4)
def u__law_here_2 : MS := (sSeq (sAsg (eLstOf (aCons (eVar 1) aNil)) (gN 6)) u__law_here_3)
def u__law_here_1 : MS := (sSeq (sIf (tOr (tZ (z2 gEq (z2 gMod (zVar 5) (zC (.int 4))) (zC (.int 0)))) (tOr (tZ (z2 gEq (z2 gIx (zVar 0) (zC (.int 0))) (zC (.str "number")))) (tZ (z2 gEq (z2 gIx (zVar 0) (zC (.int 0))) (zC (.str "unknown")))))) (sRet (eCall f__law_span (aCons (eZ (z2 gDiv (zVar 5) (zC (.int 4)))) aNil))) sNil) u__law_here_2)
def m__law_here : MS := (sSeq (sAsg (eZ (z2 gMod (zVar 4) (z2 gPow (zC (.int 10)) (zC (.int 40))))) (gN 5)) u__law_here_1)
def f__law_here : List D → CR := callF 5 12 m__law_here
def m_kind_of : MS := (sSeq (sIf (tZ (z2 gEq (z2 gIx (zVar 0) (zC (.int 0))) (zC (.str "number")))) (sRet (eMake "Number" ["top", "bottom"] (aCons (eZ (z2 gIx (zVar 0) (zC (.int 1)))) (aCons (eZ (z2 gIx (zVar 0) (zC (.int 2)))) aNil)))) sNil)
    (sSeq (sIf (tZ (z2 gEq (z2 gIx (zVar 0) (zC (.int 0))) (zC (.str "unknown")))) (sRet (eMake "Unknown" ["place"] (aCons (eZ (z2 gIx (zVar 0) (zC (.int 1)))) aNil))) sNil)
    (sSeq (sIf (tZ (z2 gEq (z2 gIx (zVar 0) (zC (.int 0))) (zC (.str "plus")))) (sRet (eMake "Plus" ["one", "other"] (aCons (eZ (z2 gIx (zVar 0) (zC (.int 1)))) (aCons (eZ (z2 gIx (zVar 0) (zC (.int 2)))) aNil)))) sNil)
    (sSeq (sIf (tZ (z2 gEq (z2 gIx (zVar 0) (zC (.int 0))) (zC (.str "minus")))) (sRet (eMake "Minus" ["one", "other"] (aCons (eZ (z2 gIx (zVar 0) (zC (.int 1)))) (aCons (eZ (z2 gIx (zVar 0) (zC (.int 2)))) aNil)))) sNil)
    (sSeq (sIf (tZ (z2 gEq (z2 gIx (zVar 0) (zC (.int 0))) (zC (.str "times")))) (sRet (eMake "Times" ["one", "other"] (aCons (eZ (z2 gIx (zVar 0) (zC (.int 1)))) (aCons (eZ (z2 gIx (zVar 0) (zC (.int 2)))) aNil)))) sNil)
    (sRet (eMake "Power" ["one", "many"] (aCons (eZ (z2 gIx (zVar 0) (zC (.int 1)))) (aCons (eZ (z2 gIx (zVar 0) (zC (.int 2)))) aNil)))))))))
def f_kind_of : List D → CR := callF 1 1 m_kind_of
def u__law_made_6 : MS := (sRet (eMake "Times" ["one", "other"] (aCons (eZ (z2 gIx (zVar 0) (zC (.int 1)))) (aCons (eZ (z2 gIx (zVar 0) (zC (.int 2)))) aNil))))
def u__law_made_5 : MS := (sSeq (sIf (tZ (z2 gEq (z2 gIx (zVar 0) (zC (.int 0))) (zC (.str "minus")))) (sRet (eMake "Minus" ["one", "other"] (aCons (eZ (z2 gIx (zVar 0) (zC (.int 1)))) (aCons (eZ (z2 gIx (zVar 0) (zC (.int 2)))) aNil)))) sNil) u__law_made_6)
def u__law_made_4 : MS := (sSeq (sIf (tZ (z2 gEq (z2 gIx (zVar 0) (zC (.int 0))) (zC (.str "plus")))) (sRet (eMake "Plus" ["one", "other"] (aCons (eZ (z2 gIx (zVar 0) (zC (.int 1)))) (aCons (eZ (z2 gIx (zVar 0) (zC (.int 2)))) aNil)))) sNil) u__law_made_5)
def u__law_made_3 : MS := (sSeq (sIf (tZ (z2 gEq (z2 gIx (zVar 0) (zC (.int 0))) (zC (.str "power")))) (sRet (eMake "Power" ["one", "many"] (aCons (eZ (z2 gIx (zVar 0) (zC (.int 1)))) (aCons (eZ (z2 gIx (zVar 0) (zC (.int 2)))) aNil)))) sNil) u__law_made_4)
def u__law_made_2 : MS := (sSeq (sIf (tZ (z2 gEq (z2 gIx (zVar 0) (zC (.int 0))) (zC (.str "unknown")))) (sRet (eMake "Unknown" ["place"] (aCons (eZ (z2 gIx (zVar 0) (zC (.int 1)))) aNil))) sNil) u__law_made_3)
def u__law_made_1 : MS := (sSeq (sIf (tZ (z2 gEq (z2 gIx (zVar 0) (zC (.int 0))) (zC (.str "number")))) (sRet (eMake "Number" ["top", "bottom"] (aCons (eZ (z2 gIx (zVar 0) (zC (.int 1)))) (aCons (eZ (z2 gIx (zVar 0) (zC (.int 2)))) aNil)))) sNil) u__law_made_2)
def m__law_made : MS := (sSeq (sIf (tNot (tZ (zVar 1))) (sRet (eCall f_kind_of (aCons (eVar 0) aNil))) sNil) u__law_made_1)
def f__law_made : List D → CR := callF 2 2 m__law_made
def m__law_meet : MS := (sSeq (sIf (tZ (z2 gGt (zC' gMax2 (zaCons (z2 gIx (zVar 0) (zC (.int 0))) (zaCons (z2 gIx (zVar 1) (zC (.int 0))) zaNil))) (zC' gMin2 (zaCons (z2 gIx (zVar 0) (zC (.int 1))) (zaCons (z2 gIx (zVar 1) (zC (.int 1))) zaNil))))) (sRet (eZ (zC .non))) sNil)
    (sRet (eTup (aCons (eZ (zC' gMax2 (zaCons (z2 gIx (zVar 0) (zC (.int 0))) (zaCons (z2 gIx (zVar 1) (zC (.int 0))) zaNil)))) (aCons (eZ (zC' gMin2 (zaCons (z2 gIx (zVar 0) (zC (.int 1))) (zaCons (z2 gIx (zVar 1) (zC (.int 1))) zaNil)))) aNil)))))
def f__law_meet : List D → CR := callF 2 2 m__law_meet
def u__law_back_sum_7 : MS := (sRet (eLst (aCons (eTup (aCons (eZ (z2 gIx (zVar 0) (zC (.int 1)))) (aCons (eVar 3) aNil))) (aCons (eTup (aCons (eZ (z2 gIx (zVar 0) (zC (.int 2)))) (aCons (eVar 4) aNil))) aNil))))
def u__law_back_sum_6 : MS := (sSeq (sIf (tZ (z2 gIsN (zVar 4) (zC .non))) (sRet (eZ (zC .non))) sNil) u__law_back_sum_7)
def u__law_back_sum_5 : MS := (sSeq (sIf (tZ (z2 gEq (z2 gIx (zVar 0) (zC (.int 0))) (zC (.str "plus")))) (sAsg (eCall f__law_meet (aCons (eVar 4) (aCons (eTup (aCons (eZ (z2 gSub (z2 gIx (zVar 2) (zC (.int 0))) (z2 gIx (zVar 3) (zC (.int 1))))) (aCons (eZ (z2 gSub (z2 gIx (zVar 2) (zC (.int 1))) (z2 gIx (zVar 3) (zC (.int 0))))) aNil))) aNil))) (gN 4)) (sAsg (eCall f__law_meet (aCons (eVar 4) (aCons (eTup (aCons (eZ (z2 gSub (z2 gIx (zVar 3) (zC (.int 0))) (z2 gIx (zVar 2) (zC (.int 1))))) (aCons (eZ (z2 gSub (z2 gIx (zVar 3) (zC (.int 1))) (z2 gIx (zVar 2) (zC (.int 0))))) aNil))) aNil))) (gN 4))) u__law_back_sum_6)
def u__law_back_sum_4 : MS := (sSeq (sIf (tZ (z2 gEq (z2 gIx (zVar 0) (zC (.int 1))) (z2 gIx (zVar 0) (zC (.int 2))))) (sAsg (eVar 3) (gN 4)) sNil) u__law_back_sum_5)
def u__law_back_sum_3 : MS := (sSeq (sIf (tZ (z2 gIsN (zVar 3) (zC .non))) (sRet (eZ (zC .non))) sNil) u__law_back_sum_4)
def u__law_back_sum_2 : MS := (sSeq (sIf (tZ (z2 gEq (z2 gIx (zVar 0) (zC (.int 0))) (zC (.str "plus")))) (sAsg (eCall f__law_meet (aCons (eVar 3) (aCons (eTup (aCons (eZ (z2 gSub (z2 gIx (zVar 2) (zC (.int 0))) (z2 gIx (zVar 4) (zC (.int 1))))) (aCons (eZ (z2 gSub (z2 gIx (zVar 2) (zC (.int 1))) (z2 gIx (zVar 4) (zC (.int 0))))) aNil))) aNil))) (gN 3)) (sAsg (eCall f__law_meet (aCons (eVar 3) (aCons (eTup (aCons (eZ (z2 gAdd (z2 gIx (zVar 2) (zC (.int 0))) (z2 gIx (zVar 4) (zC (.int 0))))) (aCons (eZ (z2 gAdd (z2 gIx (zVar 2) (zC (.int 1))) (z2 gIx (zVar 4) (zC (.int 1))))) aNil))) aNil))) (gN 3))) u__law_back_sum_3)
def u__law_back_sum_1 : MS := (sSeq (sAsg (eZ (z2 gIx (zVar 1) (z2 gIx (zVar 0) (zC (.int 2))))) (gN 4)) u__law_back_sum_2)
def m__law_back_sum : MS := (sSeq (sAsg (eZ (z2 gIx (zVar 1) (z2 gIx (zVar 0) (zC (.int 1))))) (gN 3)) u__law_back_sum_1)
def f__law_back_sum : List D → CR := callF 3 5 m__law_back_sum
def m__law_whole : MS := (sRet (eAnd (eZ (zC' gIsi (zaCons (zVar 0) (zaCons (zC (.ty "int")) zaNil)))) (eNot (eZ (zC' gIsi (zaCons (zVar 0) (zaCons (zC (.ty "bool")) zaNil)))))))
def f__law_whole : List D → CR := callF 1 1 m__law_whole
def m__law_span_is : MS := (sSeq (sIf (tOr (tNot (tZ (zC' gIsi (zaCons (zVar 0) (zaCons (zC (.ty "tuple")) zaNil))))) (tZ (z2 gNe (zC' gLen (zaCons (zVar 0) zaNil)) (zC (.int 2))))) (sRet (eZ (zC (.bl false)))) sNil)
    (sRet (eAnd (eCall f__law_whole (aCons (eZ (z2 gIx (zVar 0) (zC (.int 0)))) aNil)) (eAnd (eCall f__law_whole (aCons (eZ (z2 gIx (zVar 0) (zC (.int 1)))) aNil)) (eZ (z2 gLe (z2 gIx (zVar 0) (zC (.int 0))) (z2 gIx (zVar 0) (zC (.int 1)))))))))
def f__law_span_is : List D → CR := callF 1 1 m__law_span_is
def l__law_parts_are_1 : MS := (sSeq (sAsg (eZ (z2 gIx (zVar 0) (zVar 2))) (gN 3))
    (sSeq (sIf (tOr (tNot (tZ (zC' gIsi (zaCons (zVar 3) (zaCons (zC (.ty "tuple")) zaNil))))) (tZ (z2 gNe (zC' gLen (zaCons (zVar 3) zaNil)) (zC (.int 2))))) (sRet (eZ (zC (.bl false)))) sNil)
    (sIf (tOr (tNot (tE (eCall f__law_whole (aCons (eZ (z2 gIx (zVar 3) (zC (.int 0)))) aNil)))) (tOr (tNot (tE (eCall f__law_span_is (aCons (eZ (z2 gIx (zVar 3) (zC (.int 1)))) aNil)))) (tZ (z2 gNe (zVar 3) (z2 gIx (zVar 1) (zVar 2)))))) (sRet (eZ (zC (.bl false)))) sNil)))
def u__law_parts_are_3 : MS := (sRet (eZ (zC (.bl true))))
def u__law_parts_are_2 : MS := (sSeq (sFor (iR1 (aCons (eZ (zC' gLen (zaCons (zVar 1) zaNil))) aNil)) (gN 2) l__law_parts_are_1) u__law_parts_are_3)
def u__law_parts_are_1 : MS := (sSeq (sIf (tOr (tNot (tZ (zC' gIsi (zaCons (zVar 0) (zaCons (zC (.ty "list")) zaNil))))) (tZ (z2 gNe (zC' gLen (zaCons (zVar 0) zaNil)) (zC' gLen (zaCons (zVar 1) zaNil))))) (sRet (eZ (zC (.bl false)))) sNil) u__law_parts_are_2)
def m__law_parts_are : MS := (sSeq (sIf (tZ (z2 gIsN (zVar 1) (zC .non))) (sRet (eZ (z2 gIsN (zVar 0) (zC .non)))) sNil) u__law_parts_are_1)
def f__law_parts_are : List D → CR := callF 2 4 m__law_parts_are
def m_Node_back : MS := (sRet (eLst aNil))
def f_Node_back : List D → CR := callF 4 4 m_Node_back
def m_common : MS := (sSeq (sAsg (eZ (zC' gMax2 (zaCons (z2 gIx (zVar 0) (zC (.int 0))) (zaCons (z2 gIx (zVar 1) (zC (.int 0))) zaNil)))) (gN 2))
    (sSeq (sAsg (eZ (zC' gMin2 (zaCons (z2 gIx (zVar 0) (zC (.int 1))) (zaCons (z2 gIx (zVar 1) (zC (.int 1))) zaNil)))) (gN 3))
    (sSeq (sIf (tZ (z2 gLt (zVar 3) (zVar 2))) (sRet (eZ (zC .non))) sNil)
    (sRet (eTup (aCons (eVar 2) (aCons (eVar 3) aNil)))))))
def f_common : List D → CR := callF 2 4 m_common
def m_take_spans : MS := (sRet (eTup (aCons (eZ (z2 gSub (z2 gIx (zVar 0) (zC (.int 0))) (z2 gIx (zVar 1) (zC (.int 1))))) (aCons (eZ (z2 gSub (z2 gIx (zVar 0) (zC (.int 1))) (z2 gIx (zVar 1) (zC (.int 0))))) aNil))))
def f_take_spans : List D → CR := callF 2 2 m_take_spans
def m_Plus_first_back : MS := (sRet (eCall f_common (aCons (eVar 2) (aCons (eCall f_take_spans (aCons (eVar 1) (aCons (eVar 3) aNil))) aNil))))
def f_Plus_first_back : List D → CR := callF 5 5 m_Plus_first_back
def m_add_spans : MS := (sRet (eTup (aCons (eZ (z2 gAdd (z2 gIx (zVar 0) (zC (.int 0))) (z2 gIx (zVar 1) (zC (.int 0))))) (aCons (eZ (z2 gAdd (z2 gIx (zVar 0) (zC (.int 1))) (z2 gIx (zVar 1) (zC (.int 1))))) aNil))))
def f_add_spans : List D → CR := callF 2 2 m_add_spans
def m_Minus_first_back : MS := (sRet (eCall f_common (aCons (eVar 2) (aCons (eCall f_add_spans (aCons (eVar 1) (aCons (eVar 3) aNil))) aNil))))
def f_Minus_first_back : List D → CR := callF 5 5 m_Minus_first_back
def m_Plus_second_back : MS := (sRet (eCall f_common (aCons (eVar 3) (aCons (eCall f_take_spans (aCons (eVar 1) (aCons (eVar 2) aNil))) aNil))))
def f_Plus_second_back : List D → CR := callF 5 5 m_Plus_second_back
def m_Minus_second_back : MS := (sRet (eCall f_common (aCons (eVar 3) (aCons (eCall f_take_spans (aCons (eVar 2) (aCons (eVar 1) aNil))) aNil))))
def f_Minus_second_back : List D → CR := callF 5 5 m_Minus_second_back
def al_first_back : List (Str × (List D → CR)) := [("Plus", f_Plus_first_back), ("Minus", f_Minus_first_back)]
theorem al_first_back_Plus : List.lookup ("Plus" : Str) al_first_back = some f_Plus_first_back := rfl
theorem nm_Plus_first_back : (["one", "other"] : List Str).contains "first_back" = false := by decide
theorem al_first_back_Minus : List.lookup ("Minus" : Str) al_first_back = some f_Minus_first_back := rfl
theorem nm_Minus_first_back : (["one", "other"] : List Str).contains "first_back" = false := by decide
def al_second_back : List (Str × (List D → CR)) := [("Plus", f_Plus_second_back), ("Minus", f_Minus_second_back)]
theorem al_second_back_Plus : List.lookup ("Plus" : Str) al_second_back = some f_Plus_second_back := rfl
theorem nm_Plus_second_back : (["one", "other"] : List Str).contains "second_back" = false := by decide
theorem al_second_back_Minus : List.lookup ("Minus" : Str) al_second_back = some f_Minus_second_back := rfl
theorem nm_Minus_second_back : (["one", "other"] : List Str).contains "second_back" = false := by decide
def m_Node_pair_back : MS := (sSeq (sAsg (eMeth al_first_back "first_back" (eVar 0) (aCons (eVar 2) (aCons (eZ (z2 gIx (zVar 1) (zVar 4))) (aCons (eZ (z2 gIx (zVar 1) (zVar 5))) (aCons (eVar 3) aNil))))) (gN 6))
    (sSeq (sIf (tZ (z2 gIsN (zVar 6) (zC .non))) (sRet (eZ (zC .non))) sNil)
    (sSeq (sAsg (eZ (z2 gIx (zVar 1) (zVar 5))) (gN 7))
    (sSeq (sIf (tZ (z2 gEq (zVar 4) (zVar 5))) (sAsg (eVar 6) (gN 7)) sNil)
    (sSeq (sAsg (eMeth al_second_back "second_back" (eVar 0) (aCons (eVar 2) (aCons (eVar 6) (aCons (eVar 7) (aCons (eVar 3) aNil))))) (gN 7))
    (sSeq (sIf (tZ (z2 gIsN (zVar 7) (zC .non))) (sRet (eZ (zC .non))) sNil)
    (sRet (eLst (aCons (eTup (aCons (eVar 4) (aCons (eVar 6) aNil))) (aCons (eTup (aCons (eVar 5) (aCons (eVar 7) aNil))) aNil))))))))))
def f_Node_pair_back : List D → CR := callF 6 8 m_Node_pair_back
def al_pair_back : List (Str × (List D → CR)) := [("Plus", f_Node_pair_back), ("Minus", f_Node_pair_back)]
theorem al_pair_back_Plus : List.lookup ("Plus" : Str) al_pair_back = some f_Node_pair_back := rfl
theorem nm_Plus_pair_back : (["one", "other"] : List Str).contains "pair_back" = false := by decide
theorem al_pair_back_Minus : List.lookup ("Minus" : Str) al_pair_back = some f_Node_pair_back := rfl
theorem nm_Minus_pair_back : (["one", "other"] : List Str).contains "pair_back" = false := by decide
def m_Plus_back : MS := (sRet (eMeth al_pair_back "pair_back" (eVar 0) (aCons (eVar 1) (aCons (eVar 2) (aCons (eVar 3) (aCons (eZ (z1 (gFld "Plus" "one") (zVar 0))) (aCons (eZ (z1 (gFld "Plus" "other") (zVar 0))) aNil)))))))
def f_Plus_back : List D → CR := callF 4 4 m_Plus_back
def m_Minus_back : MS := (sRet (eMeth al_pair_back "pair_back" (eVar 0) (aCons (eVar 1) (aCons (eVar 2) (aCons (eVar 3) (aCons (eZ (z1 (gFld "Minus" "one") (zVar 0))) (aCons (eZ (z1 (gFld "Minus" "other") (zVar 0))) aNil)))))))
def f_Minus_back : List D → CR := callF 4 4 m_Minus_back
def al_back : List (Str × (List D → CR)) := [("Number", f_Node_back), ("Unknown", f_Node_back), ("Plus", f_Plus_back), ("Minus", f_Minus_back)]
theorem al_back_Number : List.lookup ("Number" : Str) al_back = some f_Node_back := rfl
theorem nm_Number_back : (["top", "bottom"] : List Str).contains "back" = false := by decide
theorem al_back_Unknown : List.lookup ("Unknown" : Str) al_back = some f_Node_back := rfl
theorem nm_Unknown_back : (["place"] : List Str).contains "back" = false := by decide
theorem al_back_Plus : List.lookup ("Plus" : Str) al_back = some f_Plus_back := rfl
theorem nm_Plus_back : (["one", "other"] : List Str).contains "back" = false := by decide
theorem al_back_Minus : List.lookup ("Minus" : Str) al_back = some f_Minus_back := rfl
theorem nm_Minus_back : (["one", "other"] : List Str).contains "back" = false := by decide
def l_law_1 : MS := (sSeq (sAsg (eCall f__law_node (aCons (eZ (z2 gIx (zVar 1) (zVar 5))) (aCons (eZ (zC' gLen (zaCons (zVar 6) zaNil))) (aCons (eVar 3) aNil)))) (gN 8))
    (sSeq (sIf (tOr (tZ (z2 gEq (z2 gIx (zVar 8) (zC (.int 0))) (zC (.str "times")))) (tZ (z2 gEq (z2 gIx (zVar 8) (zC (.int 0))) (zC (.str "power"))))) (sAsg (eTup (aCons (e2 gIx (eLst (aCons (eZ (zC (.str "plus"))) (aCons (eZ (zC (.str "minus"))) aNil))) (eZ (z2 gMod (z2 gDiv (z2 gIx (zVar 1) (zVar 5)) (zC (.int 16))) (zC (.int 2))))) (aCons (eZ (z2 gIx (zVar 8) (zC (.int 1)))) (aCons (eZ (z2 gMod (z2 gIx (zVar 8) (zC (.int 2))) (zC' gLen (zaCons (zVar 6) zaNil)))) aNil)))) (gN 8)) sNil)
    (sSeq (sAsg (eCall f__law_here (aCons (eVar 8) (aCons (eVar 6) (aCons (eVar 4) (aCons (eVar 2) (aCons (eZ (z2 gDiv (z2 gIx (zVar 1) (zVar 5)) (zC (.int 64)))) aNil)))))) (gN 9))
    (sSeq (sAsg (eLst aNil) (gN 10))
    (sSeq (sIf (tOr (tZ (z2 gEq (z2 gIx (zVar 8) (zC (.int 0))) (zC (.str "plus")))) (tZ (z2 gEq (z2 gIx (zVar 8) (zC (.int 0))) (zC (.str "minus"))))) (sAsg (eCall f__law_back_sum (aCons (eVar 8) (aCons (eVar 6) (aCons (eVar 9) aNil)))) (gN 10)) sNil)
    (sSeq (sAsg (eCall f__law_made (aCons (eVar 8) (aCons (eZ (z2 gEq (z2 gMod (z2 gAdd (z2 gDiv (z2 gIx (zVar 1) (zVar 5)) (zC (.int 8))) (zVar 5)) (zC (.int 2))) (zC (.int 0)))) aNil))) (gN 11))
    (sSeq (sAsg (eLstOf (aCons (eVar 6) aNil)) (gN 12))
    (sSeq (sIf (tOr (tNot (tE (eCall f__law_parts_are (aCons (eMeth al_back "back" (eVar 11) (aCons (eVar 12) (aCons (eVar 9) (aCons (eVar 2) aNil)))) (aCons (eVar 10) aNil))))) (tZ (z2 gNe (zVar 12) (zVar 6)))) (sRet (eZ (zC (.bl false)))) sNil)
    (sIf (tNot (tE (eCall f__law_parts_are (aCons (eMeth al_back "back" (eVar 11) (aCons (eVar 12) (aCons (eVar 9) (aCons (eVar 2) aNil)))) (aCons (eVar 10) aNil))))) (sRet (eZ (zC (.bl false)))) sNil)))))))))
def u_law_6 : MS := (sRet (eZ (zC (.bl true))))
def u_law_5 : MS := (sSeq (sFor (iR1 (aCons (eZ (zC' gLen (zaCons (zVar 1) zaNil))) aNil)) (gN 5) l_law_1) u_law_6)
def u_law_4 : MS := (sSeq (sAsg (eCat (eLst (aCons (eTup (aCons (eZ (z1 gNeg (zC (.int 3)))) (aCons (eZ (zC (.int 5))) aNil))) aNil)) (eLc [7] (iL (eVar 1)) (gN 7) tTrue (eCall f__law_span (aCons (eZ (z2 gAdd (z2 gMul (z2 gMod (zVar 7) (z2 gPow (zC (.int 10)) (zC (.int 40)))) (zC (.int 31))) (zC (.int 5)))) aNil)))) (gN 6)) u_law_5)
def u_law_3 : MS := (sSeq (sAsg (eLc [5] (iR1 (aCons (eVar 3) aNil)) (gN 5) tTrue (eCall f__law_span (aCons (eCall f__law_cell (aCons (eVar 0) (aCons (eZ (z2 gAdd (zC (.int 2)) (zVar 5))) aNil))) aNil))) (gN 4)) u_law_4)
def u_law_2 : MS := (sSeq (sAsg (e2 gAdd (eZ (zC (.int 1))) (e2 gMod (eCall f__law_cell (aCons (eVar 0) (aCons (eZ (zC (.int 1))) aNil))) (eZ (zC (.int 4))))) (gN 3)) u_law_3)
def u_law_1 : MS := (sSeq (sAsg (eCall f__law_grid (aCons (eCall f__law_cell (aCons (eVar 0) (aCons (eZ (zC (.int 0))) aNil))) aNil)) (gN 2)) u_law_2)
def m_law : MS := (sSeq (sAsg (eSlice cutLd (eVar 0) (pSome (eZ (zC (.int 6)))) (pSome (eZ (zC (.int 62))))) (gN 1)) u_law_1)
def f_law : List D → CR := callF 1 13 m_law
end Lw

namespace Lw
open Bn
theorem cell_ok (ns : List Int) (k : Nat) : f__law_cell [.cst (ns.map D.int), .int k] = .ok (.int (ns.getD k 0)) := by
  simp only [f__law_cell, m__law_cell, x_seq, x_seq1, x_seq2, x_seq3, x_seq4, x_seq5, x_seq6, x_nil, x_if, x_if1, x_if2, x_if3, x_ret, x_ret1, x_ret2, x_ret3, x_retN, x_asg, x_asg1, x_asg2, x_asg3, x_asg4, x_asg5, x_gN, x_drop, x_drop1, x_drop2, x_bk, x_ct, x_raise, x_tZ, x_tZ1, x_tZ2, x_tE, x_tE1, x_tE2, x_tE3, x_tAnd, x_tAnd1, x_tAnd2, x_tAnd3, x_tOr, x_tOr1, x_tOr2, x_tOr3, x_tNot, x_tNot1, x_tNot2, x_tNot3, x_tTrue, x_z2, x_z21, x_z1, x_z11, x_zC, x_zC1, x_za, x_za1, x_za0, x_zV, x_zK, x_ch, x_ch1, x_ch2, x_eZ, x_eZ1, x_eZ2, x_eV, x_eV1, x_eM, x_eM1, x_b1, x_b2, x_b3, x_s1, x_s2, x_s3, x_oO, x_oO2, x_e2, x_e1, x_eC, x_aN, x_aC, x_tup, x_lst, x_call, x_oC1, x_oC2, x_call0, x_call01, x_eAnd, x_eAnd1, x_eOr, x_eOr1, x_eNot, x_eNot1, x_eIf, x_eIf1, x_fz_int, x_fr_int, x_fz_bl, x_fr_bl, x_fz_str, x_fr_str, x_fz_ty, x_fr_ty, x_fz_tup, x_fr_tup, x_fz_cst, x_fr_cst, x_fz_lst_false, x_fr_lst_false, x_fz_non, x_fr_non, x_fz_lt, x_fr_lt, x_fL0, x_fL1, x_cF, x_cR1, x_cR2, x_cR3, x_iL, x_iL1, x_iT, x_iT1, x_iS, x_iS1, x_iR1, x_iR11, x_iR2, x_iR21, x_iE, x_iE1, x_iV, x_iV1, x_iZ, x_iZ1, x_for, x_fo0, x_fo1, x_fo2, x_fo3, x_fo4, x_fo5, x_fo6, x_fo7, x_gT, x_gC, x_gC0, x_try, x_try1, x_try2, x_try3, x_try4, x_try5, x_nx1, x_nx2, x_try6, x_try7, x_nx3, x_nx4, x_app, x_app1, x_app2, x_lc, x_lcE, x_lc0, x_lc1, x_lcG, x_w0, x_w1, vMinL4, vMaxL4, vAll3, vAny3, vAll4, vAny4, x_wh1, x_wh2, x_wh0, x_abs, vI_ii, vI_ib, vI_it, vI_il, vI_is, vI_bb, vI_bi, vI_tt, vI_tl, vI_ti, vI_ll, vI_lt, vI_ss, vEqB, vNeB, x_ta, x_ta1, x_ta2, x_ta3, x_ta4, x_ta5, x_is, nc_0, nc_1, nc_2, nc_3, nc_4, nc_5, nc_6, nc_7, nc_8, nc_9, nc_10, nc_11, vMax2, vMin2, vIsN0, vIsN1, vNotN0, vNotN1, vIsN2, vNotN2, x_lo, x_lo1, x_lo2, vAll2, vAny2, x_sl, x_sl1, x_sl2, x_pn, x_ps, x_ps1, x_cutL, x_cutC, vEqS, vNeS, x_fz_obj, x_fr_obj, x_make, x_meth, x_meth2, x_meth3, x_isO, x_isO1, x_cat, x_cat1, x_methZ, x_methZ2, x_methZ3, x_callZ, x_callZ1, x_lend1, x_lend2, x_cl_int, x_cl_bl, x_cl_str, x_cl_non, x_cl_tup, x_cl0, x_cl1, x_cl_lst, x_setIx, x_setIx1, x_setIx2, Option.map_some, List.getD_cons_zero, List.getD_cons_succ, List.set_cons_zero, List.set_cons_succ, List.map_cons, List.map_nil, List.replicate_zero, List.replicate_succ, List.length_cons, List.length_nil, List.cons_append, List.nil_append, Option.bind_some, if_true, if_false, Bool.false_eq_true, Nat.reduceSub, Nat.reduceAdd, Nat.reduceLeDiff, Nat.reduceLT, vAdd, vSub, vLt, vLe, vGt, vGe, vNeg, vEq, vNe, vEq2, vNe2, vMod, vDiv, vMul, vPow, Int.reduceToNat, vIx0, vIx1, vLenT, vLenC, vLenL, reduceIte, decide_true, decide_false, Bool.not_true, Bool.not_false, beq_self_eq_true, Bool.and_true, Bool.true_and, Bool.and_self, Bool.and_false, Bool.false_and]
  by_cases h : k < ns.length
  · simp [h, vIxC, x_seq, x_seq1, x_seq2, x_seq3, x_seq4, x_seq5, x_seq6, x_nil, x_if, x_if1, x_if2, x_if3, x_ret, x_ret1, x_ret2, x_ret3, x_retN, x_asg, x_asg1, x_asg2, x_asg3, x_asg4, x_asg5, x_gN, x_drop, x_drop1, x_drop2, x_bk, x_ct, x_raise, x_tZ, x_tZ1, x_tZ2, x_tE, x_tE1, x_tE2, x_tE3, x_tAnd, x_tAnd1, x_tAnd2, x_tAnd3, x_tOr, x_tOr1, x_tOr2, x_tOr3, x_tNot, x_tNot1, x_tNot2, x_tNot3, x_tTrue, x_z2, x_z21, x_z1, x_z11, x_zC, x_zC1, x_za, x_za1, x_za0, x_zV, x_zK, x_ch, x_ch1, x_ch2, x_eZ, x_eZ1, x_eZ2, x_eV, x_eV1, x_eM, x_eM1, x_b1, x_b2, x_b3, x_s1, x_s2, x_s3, x_oO, x_oO2, x_e2, x_e1, x_eC, x_aN, x_aC, x_tup, x_lst, x_call, x_oC1, x_oC2, x_call0, x_call01, x_eAnd, x_eAnd1, x_eOr, x_eOr1, x_eNot, x_eNot1, x_eIf, x_eIf1, x_fz_int, x_fr_int, x_fz_bl, x_fr_bl, x_fz_str, x_fr_str, x_fz_ty, x_fr_ty, x_fz_tup, x_fr_tup, x_fz_cst, x_fr_cst, x_fz_lst_false, x_fr_lst_false, x_fz_non, x_fr_non, x_fz_lt, x_fr_lt, x_fL0, x_fL1, x_cF, x_cR1, x_cR2, x_cR3, x_iL, x_iL1, x_iT, x_iT1, x_iS, x_iS1, x_iR1, x_iR11, x_iR2, x_iR21, x_iE, x_iE1, x_iV, x_iV1, x_iZ, x_iZ1, x_for, x_fo0, x_fo1, x_fo2, x_fo3, x_fo4, x_fo5, x_fo6, x_fo7, x_gT, x_gC, x_gC0, x_try, x_try1, x_try2, x_try3, x_try4, x_try5, x_nx1, x_nx2, x_try6, x_try7, x_nx3, x_nx4, x_app, x_app1, x_app2, x_lc, x_lcE, x_lc0, x_lc1, x_lcG, x_w0, x_w1, vMinL4, vMaxL4, vAll3, vAny3, vAll4, vAny4, x_wh1, x_wh2, x_wh0, x_abs, vI_ii, vI_ib, vI_it, vI_il, vI_is, vI_bb, vI_bi, vI_tt, vI_tl, vI_ti, vI_ll, vI_lt, vI_ss, vEqB, vNeB, x_ta, x_ta1, x_ta2, x_ta3, x_ta4, x_ta5, x_is, nc_0, nc_1, nc_2, nc_3, nc_4, nc_5, nc_6, nc_7, nc_8, nc_9, nc_10, nc_11, vMax2, vMin2, vIsN0, vIsN1, vNotN0, vNotN1, vIsN2, vNotN2, x_lo, x_lo1, x_lo2, vAll2, vAny2, x_sl, x_sl1, x_sl2, x_pn, x_ps, x_ps1, x_cutL, x_cutC, vEqS, vNeS, x_fz_obj, x_fr_obj, x_make, x_meth, x_meth2, x_meth3, x_isO, x_isO1, x_cat, x_cat1, x_methZ, x_methZ2, x_methZ3, x_callZ, x_callZ1, x_lend1, x_lend2, x_cl_int, x_cl_bl, x_cl_str, x_cl_non, x_cl_tup, x_cl0, x_cl1, x_cl_lst, x_setIx, x_setIx1, x_setIx2, Option.map_some, List.getD_cons_zero, List.getD_cons_succ, List.set_cons_zero, List.set_cons_succ, List.map_cons, List.map_nil, List.replicate_zero, List.replicate_succ, List.length_cons, List.length_nil, List.cons_append, List.nil_append, Option.bind_some, if_true, if_false, Bool.false_eq_true, Nat.reduceSub, Nat.reduceAdd, Nat.reduceLeDiff, Nat.reduceLT, vAdd, vSub, vLt, vLe, vGt, vGe, vNeg, vEq, vNe, vEq2, vNe2, vMod, vDiv, vMul, vPow, Int.reduceToNat, vIx0, vIx1, vLenT, vLenC, vLenL, reduceIte, decide_true, decide_false, Bool.not_true, Bool.not_false, beq_self_eq_true, Bool.and_true, Bool.true_and, Bool.and_self, Bool.and_false, Bool.false_and]
  · simp [h, x_seq, x_seq1, x_seq2, x_seq3, x_seq4, x_seq5, x_seq6, x_nil, x_if, x_if1, x_if2, x_if3, x_ret, x_ret1, x_ret2, x_ret3, x_retN, x_asg, x_asg1, x_asg2, x_asg3, x_asg4, x_asg5, x_gN, x_drop, x_drop1, x_drop2, x_bk, x_ct, x_raise, x_tZ, x_tZ1, x_tZ2, x_tE, x_tE1, x_tE2, x_tE3, x_tAnd, x_tAnd1, x_tAnd2, x_tAnd3, x_tOr, x_tOr1, x_tOr2, x_tOr3, x_tNot, x_tNot1, x_tNot2, x_tNot3, x_tTrue, x_z2, x_z21, x_z1, x_z11, x_zC, x_zC1, x_za, x_za1, x_za0, x_zV, x_zK, x_ch, x_ch1, x_ch2, x_eZ, x_eZ1, x_eZ2, x_eV, x_eV1, x_eM, x_eM1, x_b1, x_b2, x_b3, x_s1, x_s2, x_s3, x_oO, x_oO2, x_e2, x_e1, x_eC, x_aN, x_aC, x_tup, x_lst, x_call, x_oC1, x_oC2, x_call0, x_call01, x_eAnd, x_eAnd1, x_eOr, x_eOr1, x_eNot, x_eNot1, x_eIf, x_eIf1, x_fz_int, x_fr_int, x_fz_bl, x_fr_bl, x_fz_str, x_fr_str, x_fz_ty, x_fr_ty, x_fz_tup, x_fr_tup, x_fz_cst, x_fr_cst, x_fz_lst_false, x_fr_lst_false, x_fz_non, x_fr_non, x_fz_lt, x_fr_lt, x_fL0, x_fL1, x_cF, x_cR1, x_cR2, x_cR3, x_iL, x_iL1, x_iT, x_iT1, x_iS, x_iS1, x_iR1, x_iR11, x_iR2, x_iR21, x_iE, x_iE1, x_iV, x_iV1, x_iZ, x_iZ1, x_for, x_fo0, x_fo1, x_fo2, x_fo3, x_fo4, x_fo5, x_fo6, x_fo7, x_gT, x_gC, x_gC0, x_try, x_try1, x_try2, x_try3, x_try4, x_try5, x_nx1, x_nx2, x_try6, x_try7, x_nx3, x_nx4, x_app, x_app1, x_app2, x_lc, x_lcE, x_lc0, x_lc1, x_lcG, x_w0, x_w1, vMinL4, vMaxL4, vAll3, vAny3, vAll4, vAny4, x_wh1, x_wh2, x_wh0, x_abs, vI_ii, vI_ib, vI_it, vI_il, vI_is, vI_bb, vI_bi, vI_tt, vI_tl, vI_ti, vI_ll, vI_lt, vI_ss, vEqB, vNeB, x_ta, x_ta1, x_ta2, x_ta3, x_ta4, x_ta5, x_is, nc_0, nc_1, nc_2, nc_3, nc_4, nc_5, nc_6, nc_7, nc_8, nc_9, nc_10, nc_11, vMax2, vMin2, vIsN0, vIsN1, vNotN0, vNotN1, vIsN2, vNotN2, x_lo, x_lo1, x_lo2, vAll2, vAny2, x_sl, x_sl1, x_sl2, x_pn, x_ps, x_ps1, x_cutL, x_cutC, vEqS, vNeS, x_fz_obj, x_fr_obj, x_make, x_meth, x_meth2, x_meth3, x_isO, x_isO1, x_cat, x_cat1, x_methZ, x_methZ2, x_methZ3, x_callZ, x_callZ1, x_lend1, x_lend2, x_cl_int, x_cl_bl, x_cl_str, x_cl_non, x_cl_tup, x_cl0, x_cl1, x_cl_lst, x_setIx, x_setIx1, x_setIx2, Option.map_some, List.getD_cons_zero, List.getD_cons_succ, List.set_cons_zero, List.set_cons_succ, List.map_cons, List.map_nil, List.replicate_zero, List.replicate_succ, List.length_cons, List.length_nil, List.cons_append, List.nil_append, Option.bind_some, if_true, if_false, Bool.false_eq_true, Nat.reduceSub, Nat.reduceAdd, Nat.reduceLeDiff, Nat.reduceLT, vAdd, vSub, vLt, vLe, vGt, vGe, vNeg, vEq, vNe, vEq2, vNe2, vMod, vDiv, vMul, vPow, Int.reduceToNat, vIx0, vIx1, vLenT, vLenC, vLenL, reduceIte, decide_true, decide_false, Bool.not_true, Bool.not_false, beq_self_eq_true, Bool.and_true, Bool.true_and, Bool.and_self, Bool.and_false, Bool.false_and]
theorem cell_j (ns : List Int) {j : Int} (h : 0 ≤ j) : ∃ c : Int, f__law_cell [.cst (ns.map D.int), .int j] = .ok (.int c) := by
  obtain ⟨k, rfl⟩ : ∃ k : Nat, j = k := ⟨j.toNat, by omega⟩
  exact ⟨_, cell_ok ns k⟩
theorem grid_ok (c : Int) : ∃ g : Int, f__law_grid [.int c] = .ok (.int g) ∧ 1 ≤ g ∧ g ≤ 1000000 := by
  obtain ⟨c', hc'⟩ : ∃ x, c % 10 ^ 20 = x := ⟨_, rfl⟩
  have c0 : 0 ≤ c' := by omega
  have c1 : c' < 10 ^ 20 := by omega
  have w : L2.CMulW (c' / 4) 48271 := mulW 80 20 (by omega) (by decide) (by decide)
  have hp : gPow (.int 10) (.int 20) = some (.int (10 ^ 20)) := rfl
  have hm : gMod (.int c) (.int (10 ^ 20)) = some (.int c') := by rw [vMod (by decide), hc']
  obtain ⟨x, hx, x0⟩ : ∃ x, c' / 4 * 48271 % 2147483647 = x ∧ 0 ≤ x := ⟨_, rfl, by omega⟩
  have h4 : c' % 4 = 0 ∨ c' % 4 = 1 ∨ c' % 4 = 2 ∨ c' % 4 = 3 := by omega
  have ix : ∀ i : Int, (i = 0 ∨ i = 1 ∨ i = 2 ∨ i = 3) → ∃ g : Int, gIx (.lst true [.int 1, .int 12, .int 1000, .int 1000000]) (.int i) = some (.int g) ∧ 1 ≤ g ∧ g ≤ 1000000 := by
    rintro i (rfl | rfl | rfl | rfl)
    · exact ⟨1, rfl, by decide, by decide⟩
    · exact ⟨12, rfl, by decide, by decide⟩
    · exact ⟨1000, rfl, by decide, by decide⟩
    · exact ⟨1000000, rfl, by decide, by decide⟩
  obtain ⟨g, hg, g1, g2⟩ := ix _ h4
  have e := fun y : Int => vMod (i := y) (j := g) (by omega)
  refine ⟨1 + x % g, ?_, ?_, ?_⟩
  · simp (disch := decide) only [f__law_grid, m__law_grid, x_seq, x_seq1, x_seq2, x_seq3, x_seq4, x_seq5, x_seq6, x_nil, x_if, x_if1, x_if2, x_if3, x_ret, x_ret1, x_ret2, x_ret3, x_retN, x_asg, x_asg1, x_asg2, x_asg3, x_asg4, x_asg5, x_gN, x_drop, x_drop1, x_drop2, x_bk, x_ct, x_raise, x_tZ, x_tZ1, x_tZ2, x_tE, x_tE1, x_tE2, x_tE3, x_tAnd, x_tAnd1, x_tAnd2, x_tAnd3, x_tOr, x_tOr1, x_tOr2, x_tOr3, x_tNot, x_tNot1, x_tNot2, x_tNot3, x_tTrue, x_z2, x_z21, x_z1, x_z11, x_zC, x_zC1, x_za, x_za1, x_za0, x_zV, x_zK, x_ch, x_ch1, x_ch2, x_eZ, x_eZ1, x_eZ2, x_eV, x_eV1, x_eM, x_eM1, x_b1, x_b2, x_b3, x_s1, x_s2, x_s3, x_oO, x_oO2, x_e2, x_e1, x_eC, x_aN, x_aC, x_tup, x_lst, x_call, x_oC1, x_oC2, x_call0, x_call01, x_eAnd, x_eAnd1, x_eOr, x_eOr1, x_eNot, x_eNot1, x_eIf, x_eIf1, x_fz_int, x_fr_int, x_fz_bl, x_fr_bl, x_fz_str, x_fr_str, x_fz_ty, x_fr_ty, x_fz_tup, x_fr_tup, x_fz_cst, x_fr_cst, x_fz_lst_false, x_fr_lst_false, x_fz_non, x_fr_non, x_fz_lt, x_fr_lt, x_fL0, x_fL1, x_cF, x_cR1, x_cR2, x_cR3, x_iL, x_iL1, x_iT, x_iT1, x_iS, x_iS1, x_iR1, x_iR11, x_iR2, x_iR21, x_iE, x_iE1, x_iV, x_iV1, x_iZ, x_iZ1, x_for, x_fo0, x_fo1, x_fo2, x_fo3, x_fo4, x_fo5, x_fo6, x_fo7, x_gT, x_gC, x_gC0, x_try, x_try1, x_try2, x_try3, x_try4, x_try5, x_nx1, x_nx2, x_try6, x_try7, x_nx3, x_nx4, x_app, x_app1, x_app2, x_lc, x_lcE, x_lc0, x_lc1, x_lcG, x_w0, x_w1, vMinL4, vMaxL4, vAll3, vAny3, vAll4, vAny4, x_wh1, x_wh2, x_wh0, x_abs, vI_ii, vI_ib, vI_it, vI_il, vI_is, vI_bb, vI_bi, vI_tt, vI_tl, vI_ti, vI_ll, vI_lt, vI_ss, vEqB, vNeB, x_ta, x_ta1, x_ta2, x_ta3, x_ta4, x_ta5, x_is, nc_0, nc_1, nc_2, nc_3, nc_4, nc_5, nc_6, nc_7, nc_8, nc_9, nc_10, nc_11, vMax2, vMin2, vIsN0, vIsN1, vNotN0, vNotN1, vIsN2, vNotN2, x_lo, x_lo1, x_lo2, vAll2, vAny2, x_sl, x_sl1, x_sl2, x_pn, x_ps, x_ps1, x_cutL, x_cutC, vEqS, vNeS, x_fz_obj, x_fr_obj, x_make, x_meth, x_meth2, x_meth3, x_isO, x_isO1, x_cat, x_cat1, x_methZ, x_methZ2, x_methZ3, x_callZ, x_callZ1, x_lend1, x_lend2, x_cl_int, x_cl_bl, x_cl_str, x_cl_non, x_cl_tup, x_cl0, x_cl1, x_cl_lst, x_setIx, x_setIx1, x_setIx2, Option.map_some, List.getD_cons_zero, List.getD_cons_succ, List.set_cons_zero, List.set_cons_succ, List.map_cons, List.map_nil, List.replicate_zero, List.replicate_succ, List.length_cons, List.length_nil, List.cons_append, List.nil_append, Option.bind_some, if_true, if_false, Bool.false_eq_true, Nat.reduceSub, Nat.reduceAdd, Nat.reduceLeDiff, Nat.reduceLT, vAdd, vSub, vLt, vLe, vGt, vGe, vNeg, vEq, vNe, vEq2, vNe2, vMod, vDiv, vMul, vPow, Int.reduceToNat, vIx0, vIx1, vLenT, vLenC, vLenL, reduceIte, decide_true, decide_false, Bool.not_true, Bool.not_false, beq_self_eq_true, Bool.and_true, Bool.true_and, Bool.and_self, Bool.and_false, Bool.false_and, hp, hm, vMul w, hx, hg, e]
  · have := Int.emod_nonneg x (show g ≠ 0 by omega); omega
  · have := Int.emod_lt_of_pos x (show 0 < g by omega); omega
def spD (p : Int × Int) : D := .tup [.int p.1, .int p.2]
structure SpB (p : Int × Int) : Prop where
  le : p.1 ≤ p.2
  lo : -999999999999999 ≤ p.1
  hi : p.2 ≤ 999999999999999
theorem span_ok (c : Int) : ∃ p, f__law_span [.int c] = .ok (spD p) ∧ SpB p := by
  have hp : gPow (.int 10) (.int 40) = some (.int (10 ^ 40)) := rfl
  have hp2 : gPow (.int 10) (.int 16) = some (.int (10 ^ 16)) := rfl
  obtain ⟨c1, hc1⟩ : ∃ x, c % 10 ^ 40 = x := ⟨_, rfl⟩
  have b1 : 0 ≤ c1 := by omega
  have b2 : c1 < 10 ^ 40 := by omega
  have hm : gMod (.int c) (.int (10 ^ 40)) = some (.int c1) := by rw [vMod (by decide), hc1]
  obtain ⟨w, hw⟩ : ∃ x, c1 % 5 = x := ⟨_, rfl⟩
  obtain ⟨d, hd⟩ : ∃ x, c1 / 5 = x := ⟨_, rfl⟩
  have d0 : 0 ≤ d := by omega
  have d1 : d < 10 ^ 40 := by omega
  have wd : L2.CMulW d 48271 := mulW 140 20 (by omega) (by decide) (by decide)
  clear hc1
  simp (disch := decide) only [f__law_span, m__law_span, x_seq, x_seq1, x_seq2, x_seq3, x_seq4, x_seq5, x_seq6, x_nil, x_if, x_if1, x_if2, x_if3, x_ret, x_ret1, x_ret2, x_ret3, x_retN, x_asg, x_asg1, x_asg2, x_asg3, x_asg4, x_asg5, x_gN, x_drop, x_drop1, x_drop2, x_bk, x_ct, x_raise, x_tZ, x_tZ1, x_tZ2, x_tE, x_tE1, x_tE2, x_tE3, x_tAnd, x_tAnd1, x_tAnd2, x_tAnd3, x_tOr, x_tOr1, x_tOr2, x_tOr3, x_tNot, x_tNot1, x_tNot2, x_tNot3, x_tTrue, x_z2, x_z21, x_z1, x_z11, x_zC, x_zC1, x_za, x_za1, x_za0, x_zV, x_zK, x_ch, x_ch1, x_ch2, x_eZ, x_eZ1, x_eZ2, x_eV, x_eV1, x_eM, x_eM1, x_b1, x_b2, x_b3, x_s1, x_s2, x_s3, x_oO, x_oO2, x_e2, x_e1, x_eC, x_aN, x_aC, x_tup, x_lst, x_call, x_oC1, x_oC2, x_call0, x_call01, x_eAnd, x_eAnd1, x_eOr, x_eOr1, x_eNot, x_eNot1, x_eIf, x_eIf1, x_fz_int, x_fr_int, x_fz_bl, x_fr_bl, x_fz_str, x_fr_str, x_fz_ty, x_fr_ty, x_fz_tup, x_fr_tup, x_fz_cst, x_fr_cst, x_fz_lst_false, x_fr_lst_false, x_fz_non, x_fr_non, x_fz_lt, x_fr_lt, x_fL0, x_fL1, x_cF, x_cR1, x_cR2, x_cR3, x_iL, x_iL1, x_iT, x_iT1, x_iS, x_iS1, x_iR1, x_iR11, x_iR2, x_iR21, x_iE, x_iE1, x_iV, x_iV1, x_iZ, x_iZ1, x_for, x_fo0, x_fo1, x_fo2, x_fo3, x_fo4, x_fo5, x_fo6, x_fo7, x_gT, x_gC, x_gC0, x_try, x_try1, x_try2, x_try3, x_try4, x_try5, x_nx1, x_nx2, x_try6, x_try7, x_nx3, x_nx4, x_app, x_app1, x_app2, x_lc, x_lcE, x_lc0, x_lc1, x_lcG, x_w0, x_w1, vMinL4, vMaxL4, vAll3, vAny3, vAll4, vAny4, x_wh1, x_wh2, x_wh0, x_abs, vI_ii, vI_ib, vI_it, vI_il, vI_is, vI_bb, vI_bi, vI_tt, vI_tl, vI_ti, vI_ll, vI_lt, vI_ss, vEqB, vNeB, x_ta, x_ta1, x_ta2, x_ta3, x_ta4, x_ta5, x_is, nc_0, nc_1, nc_2, nc_3, nc_4, nc_5, nc_6, nc_7, nc_8, nc_9, nc_10, nc_11, vMax2, vMin2, vIsN0, vIsN1, vNotN0, vNotN1, vIsN2, vNotN2, x_lo, x_lo1, x_lo2, vAll2, vAny2, x_sl, x_sl1, x_sl2, x_pn, x_ps, x_ps1, x_cutL, x_cutC, vEqS, vNeS, x_fz_obj, x_fr_obj, x_make, x_meth, x_meth2, x_meth3, x_isO, x_isO1, x_cat, x_cat1, x_methZ, x_methZ2, x_methZ3, x_callZ, x_callZ1, x_lend1, x_lend2, x_cl_int, x_cl_bl, x_cl_str, x_cl_non, x_cl_tup, x_cl0, x_cl1, x_cl_lst, x_setIx, x_setIx1, x_setIx2, Option.map_some, List.getD_cons_zero, List.getD_cons_succ, List.set_cons_zero, List.set_cons_succ, List.map_cons, List.map_nil, List.replicate_zero, List.replicate_succ, List.length_cons, List.length_nil, List.cons_append, List.nil_append, Option.bind_some, if_true, if_false, Bool.false_eq_true, Nat.reduceSub, Nat.reduceAdd, Nat.reduceLeDiff, Nat.reduceLT, vAdd, vSub, vLt, vLe, vGt, vGe, vNeg, vEq, vNe, vEq2, vNe2, vMod, vDiv, vMul, vPow, Int.reduceToNat, vIx0, vIx1, vLenT, vLenC, vLenL, reduceIte, decide_true, decide_false, Bool.not_true, Bool.not_false, beq_self_eq_true, Bool.and_true, Bool.true_and, Bool.and_self, Bool.and_false, Bool.false_and, hp, hp2, hm, hw, hd, vMul wd]
  cases h4 : (w == 4) with
  | true =>
    obtain ⟨l, hl, l0, l1⟩ : ∃ x, d % 1999999999999999 - 999999999999999 = x ∧ -999999999999999 ≤ x ∧ x ≤ 999999999999999 := ⟨_, rfl, by omega, by omega⟩
    obtain ⟨v, hv, v0⟩ : ∃ x, d * 48271 % 10 ^ 16 = x ∧ 0 ≤ x := ⟨_, rfl, by omega⟩
    obtain ⟨u, hu, u1, u2⟩ : ∃ u, mnI 999999999999999 (l + v) = u ∧ l ≤ u ∧ u ≤ 999999999999999 := ⟨_, rfl, by have := mnI_le 999999999999999 (l + v); omega, (mnI_le _ _).1⟩
    have hv2 : gMod (.int (d * 48271)) (.int (10 ^ 16)) = some (.int v) := by rw [vMod (by decide), hv]
    simp (disch := decide) only [x_seq, x_seq1, x_seq2, x_seq3, x_seq4, x_seq5, x_seq6, x_nil, x_if, x_if1, x_if2, x_if3, x_ret, x_ret1, x_ret2, x_ret3, x_retN, x_asg, x_asg1, x_asg2, x_asg3, x_asg4, x_asg5, x_gN, x_drop, x_drop1, x_drop2, x_bk, x_ct, x_raise, x_tZ, x_tZ1, x_tZ2, x_tE, x_tE1, x_tE2, x_tE3, x_tAnd, x_tAnd1, x_tAnd2, x_tAnd3, x_tOr, x_tOr1, x_tOr2, x_tOr3, x_tNot, x_tNot1, x_tNot2, x_tNot3, x_tTrue, x_z2, x_z21, x_z1, x_z11, x_zC, x_zC1, x_za, x_za1, x_za0, x_zV, x_zK, x_ch, x_ch1, x_ch2, x_eZ, x_eZ1, x_eZ2, x_eV, x_eV1, x_eM, x_eM1, x_b1, x_b2, x_b3, x_s1, x_s2, x_s3, x_oO, x_oO2, x_e2, x_e1, x_eC, x_aN, x_aC, x_tup, x_lst, x_call, x_oC1, x_oC2, x_call0, x_call01, x_eAnd, x_eAnd1, x_eOr, x_eOr1, x_eNot, x_eNot1, x_eIf, x_eIf1, x_fz_int, x_fr_int, x_fz_bl, x_fr_bl, x_fz_str, x_fr_str, x_fz_ty, x_fr_ty, x_fz_tup, x_fr_tup, x_fz_cst, x_fr_cst, x_fz_lst_false, x_fr_lst_false, x_fz_non, x_fr_non, x_fz_lt, x_fr_lt, x_fL0, x_fL1, x_cF, x_cR1, x_cR2, x_cR3, x_iL, x_iL1, x_iT, x_iT1, x_iS, x_iS1, x_iR1, x_iR11, x_iR2, x_iR21, x_iE, x_iE1, x_iV, x_iV1, x_iZ, x_iZ1, x_for, x_fo0, x_fo1, x_fo2, x_fo3, x_fo4, x_fo5, x_fo6, x_fo7, x_gT, x_gC, x_gC0, x_try, x_try1, x_try2, x_try3, x_try4, x_try5, x_nx1, x_nx2, x_try6, x_try7, x_nx3, x_nx4, x_app, x_app1, x_app2, x_lc, x_lcE, x_lc0, x_lc1, x_lcG, x_w0, x_w1, vMinL4, vMaxL4, vAll3, vAny3, vAll4, vAny4, x_wh1, x_wh2, x_wh0, x_abs, vI_ii, vI_ib, vI_it, vI_il, vI_is, vI_bb, vI_bi, vI_tt, vI_tl, vI_ti, vI_ll, vI_lt, vI_ss, vEqB, vNeB, x_ta, x_ta1, x_ta2, x_ta3, x_ta4, x_ta5, x_is, nc_0, nc_1, nc_2, nc_3, nc_4, nc_5, nc_6, nc_7, nc_8, nc_9, nc_10, nc_11, vMax2, vMin2, vIsN0, vIsN1, vNotN0, vNotN1, vIsN2, vNotN2, x_lo, x_lo1, x_lo2, vAll2, vAny2, x_sl, x_sl1, x_sl2, x_pn, x_ps, x_ps1, x_cutL, x_cutC, vEqS, vNeS, x_fz_obj, x_fr_obj, x_make, x_meth, x_meth2, x_meth3, x_isO, x_isO1, x_cat, x_cat1, x_methZ, x_methZ2, x_methZ3, x_callZ, x_callZ1, x_lend1, x_lend2, x_cl_int, x_cl_bl, x_cl_str, x_cl_non, x_cl_tup, x_cl0, x_cl1, x_cl_lst, x_setIx, x_setIx1, x_setIx2, Option.map_some, List.getD_cons_zero, List.getD_cons_succ, List.set_cons_zero, List.set_cons_succ, List.map_cons, List.map_nil, List.replicate_zero, List.replicate_succ, List.length_cons, List.length_nil, List.cons_append, List.nil_append, Option.bind_some, if_true, if_false, Bool.false_eq_true, Nat.reduceSub, Nat.reduceAdd, Nat.reduceLeDiff, Nat.reduceLT, vAdd, vSub, vLt, vLe, vGt, vGe, vNeg, vEq, vNe, vEq2, vNe2, vMod, vDiv, vMul, vPow, Int.reduceToNat, vIx0, vIx1, vLenT, vLenC, vLenL, reduceIte, decide_true, decide_false, Bool.not_true, Bool.not_false, beq_self_eq_true, Bool.and_true, Bool.true_and, Bool.and_self, Bool.and_false, Bool.false_and, hp2, vMul wd, hl, hv2, hv, hu]
    exact ⟨(l, u), rfl, u1, l0, u2⟩
  | false =>
    obtain ⟨l, hl, l0, l1⟩ : ∃ x, d % 201 - 100 = x ∧ -100 ≤ x ∧ x ≤ 100 := ⟨_, rfl, by omega, by omega⟩
    obtain ⟨v, hv, v0, v1⟩ : ∃ x, d * 48271 % 2147483647 % 120 = x ∧ 0 ≤ x ∧ x < 120 := ⟨_, rfl, by omega, by omega⟩
    have k1 : L2.CMulW l 37 := mulW 10 10 (by omega) (by decide) (by decide)
    have k2 : L2.CMulW v 41 := mulW 10 10 (by omega) (by decide) (by decide)
    have k3 : L2.CMulW (v % 2) 41 := mulW 10 10 (by omega) (by decide) (by decide)
    cases h0 : (w == 0) with
    | true =>
      cases h1 : (w == 1) with
      | true => simp at h0 h1; omega
      | false =>
        simp (disch := decide) only [x_seq, x_seq1, x_seq2, x_seq3, x_seq4, x_seq5, x_seq6, x_nil, x_if, x_if1, x_if2, x_if3, x_ret, x_ret1, x_ret2, x_ret3, x_retN, x_asg, x_asg1, x_asg2, x_asg3, x_asg4, x_asg5, x_gN, x_drop, x_drop1, x_drop2, x_bk, x_ct, x_raise, x_tZ, x_tZ1, x_tZ2, x_tE, x_tE1, x_tE2, x_tE3, x_tAnd, x_tAnd1, x_tAnd2, x_tAnd3, x_tOr, x_tOr1, x_tOr2, x_tOr3, x_tNot, x_tNot1, x_tNot2, x_tNot3, x_tTrue, x_z2, x_z21, x_z1, x_z11, x_zC, x_zC1, x_za, x_za1, x_za0, x_zV, x_zK, x_ch, x_ch1, x_ch2, x_eZ, x_eZ1, x_eZ2, x_eV, x_eV1, x_eM, x_eM1, x_b1, x_b2, x_b3, x_s1, x_s2, x_s3, x_oO, x_oO2, x_e2, x_e1, x_eC, x_aN, x_aC, x_tup, x_lst, x_call, x_oC1, x_oC2, x_call0, x_call01, x_eAnd, x_eAnd1, x_eOr, x_eOr1, x_eNot, x_eNot1, x_eIf, x_eIf1, x_fz_int, x_fr_int, x_fz_bl, x_fr_bl, x_fz_str, x_fr_str, x_fz_ty, x_fr_ty, x_fz_tup, x_fr_tup, x_fz_cst, x_fr_cst, x_fz_lst_false, x_fr_lst_false, x_fz_non, x_fr_non, x_fz_lt, x_fr_lt, x_fL0, x_fL1, x_cF, x_cR1, x_cR2, x_cR3, x_iL, x_iL1, x_iT, x_iT1, x_iS, x_iS1, x_iR1, x_iR11, x_iR2, x_iR21, x_iE, x_iE1, x_iV, x_iV1, x_iZ, x_iZ1, x_for, x_fo0, x_fo1, x_fo2, x_fo3, x_fo4, x_fo5, x_fo6, x_fo7, x_gT, x_gC, x_gC0, x_try, x_try1, x_try2, x_try3, x_try4, x_try5, x_nx1, x_nx2, x_try6, x_try7, x_nx3, x_nx4, x_app, x_app1, x_app2, x_lc, x_lcE, x_lc0, x_lc1, x_lcG, x_w0, x_w1, vMinL4, vMaxL4, vAll3, vAny3, vAll4, vAny4, x_wh1, x_wh2, x_wh0, x_abs, vI_ii, vI_ib, vI_it, vI_il, vI_is, vI_bb, vI_bi, vI_tt, vI_tl, vI_ti, vI_ll, vI_lt, vI_ss, vEqB, vNeB, x_ta, x_ta1, x_ta2, x_ta3, x_ta4, x_ta5, x_is, nc_0, nc_1, nc_2, nc_3, nc_4, nc_5, nc_6, nc_7, nc_8, nc_9, nc_10, nc_11, vMax2, vMin2, vIsN0, vIsN1, vNotN0, vNotN1, vIsN2, vNotN2, x_lo, x_lo1, x_lo2, vAll2, vAny2, x_sl, x_sl1, x_sl2, x_pn, x_ps, x_ps1, x_cutL, x_cutC, vEqS, vNeS, x_fz_obj, x_fr_obj, x_make, x_meth, x_meth2, x_meth3, x_isO, x_isO1, x_cat, x_cat1, x_methZ, x_methZ2, x_methZ3, x_callZ, x_callZ1, x_lend1, x_lend2, x_cl_int, x_cl_bl, x_cl_str, x_cl_non, x_cl_tup, x_cl0, x_cl1, x_cl_lst, x_setIx, x_setIx1, x_setIx2, Option.map_some, List.getD_cons_zero, List.getD_cons_succ, List.set_cons_zero, List.set_cons_succ, List.map_cons, List.map_nil, List.replicate_zero, List.replicate_succ, List.length_cons, List.length_nil, List.cons_append, List.nil_append, Option.bind_some, if_true, if_false, Bool.false_eq_true, Nat.reduceSub, Nat.reduceAdd, Nat.reduceLeDiff, Nat.reduceLT, vAdd, vSub, vLt, vLe, vGt, vGe, vNeg, vEq, vNe, vEq2, vNe2, vMod, vDiv, vMul, vPow, Int.reduceToNat, vIx0, vIx1, vLenT, vLenC, vLenL, reduceIte, decide_true, decide_false, Bool.not_true, Bool.not_false, beq_self_eq_true, Bool.and_true, Bool.true_and, Bool.and_self, Bool.and_false, Bool.false_and, vMul wd, hl, hv, h0, h1]
        exact ⟨(l, l + v % 2), rfl, (by show l ≤ l + v % 2; omega), (by show _ ≤ l; omega), (by show l + v % 2 ≤ _; omega)⟩
    | false =>
      cases h1 : (w == 1) with
      | true =>
        simp (disch := decide) only [x_seq, x_seq1, x_seq2, x_seq3, x_seq4, x_seq5, x_seq6, x_nil, x_if, x_if1, x_if2, x_if3, x_ret, x_ret1, x_ret2, x_ret3, x_retN, x_asg, x_asg1, x_asg2, x_asg3, x_asg4, x_asg5, x_gN, x_drop, x_drop1, x_drop2, x_bk, x_ct, x_raise, x_tZ, x_tZ1, x_tZ2, x_tE, x_tE1, x_tE2, x_tE3, x_tAnd, x_tAnd1, x_tAnd2, x_tAnd3, x_tOr, x_tOr1, x_tOr2, x_tOr3, x_tNot, x_tNot1, x_tNot2, x_tNot3, x_tTrue, x_z2, x_z21, x_z1, x_z11, x_zC, x_zC1, x_za, x_za1, x_za0, x_zV, x_zK, x_ch, x_ch1, x_ch2, x_eZ, x_eZ1, x_eZ2, x_eV, x_eV1, x_eM, x_eM1, x_b1, x_b2, x_b3, x_s1, x_s2, x_s3, x_oO, x_oO2, x_e2, x_e1, x_eC, x_aN, x_aC, x_tup, x_lst, x_call, x_oC1, x_oC2, x_call0, x_call01, x_eAnd, x_eAnd1, x_eOr, x_eOr1, x_eNot, x_eNot1, x_eIf, x_eIf1, x_fz_int, x_fr_int, x_fz_bl, x_fr_bl, x_fz_str, x_fr_str, x_fz_ty, x_fr_ty, x_fz_tup, x_fr_tup, x_fz_cst, x_fr_cst, x_fz_lst_false, x_fr_lst_false, x_fz_non, x_fr_non, x_fz_lt, x_fr_lt, x_fL0, x_fL1, x_cF, x_cR1, x_cR2, x_cR3, x_iL, x_iL1, x_iT, x_iT1, x_iS, x_iS1, x_iR1, x_iR11, x_iR2, x_iR21, x_iE, x_iE1, x_iV, x_iV1, x_iZ, x_iZ1, x_for, x_fo0, x_fo1, x_fo2, x_fo3, x_fo4, x_fo5, x_fo6, x_fo7, x_gT, x_gC, x_gC0, x_try, x_try1, x_try2, x_try3, x_try4, x_try5, x_nx1, x_nx2, x_try6, x_try7, x_nx3, x_nx4, x_app, x_app1, x_app2, x_lc, x_lcE, x_lc0, x_lc1, x_lcG, x_w0, x_w1, vMinL4, vMaxL4, vAll3, vAny3, vAll4, vAny4, x_wh1, x_wh2, x_wh0, x_abs, vI_ii, vI_ib, vI_it, vI_il, vI_is, vI_bb, vI_bi, vI_tt, vI_tl, vI_ti, vI_ll, vI_lt, vI_ss, vEqB, vNeB, x_ta, x_ta1, x_ta2, x_ta3, x_ta4, x_ta5, x_is, nc_0, nc_1, nc_2, nc_3, nc_4, nc_5, nc_6, nc_7, nc_8, nc_9, nc_10, nc_11, vMax2, vMin2, vIsN0, vIsN1, vNotN0, vNotN1, vIsN2, vNotN2, x_lo, x_lo1, x_lo2, vAll2, vAny2, x_sl, x_sl1, x_sl2, x_pn, x_ps, x_ps1, x_cutL, x_cutC, vEqS, vNeS, x_fz_obj, x_fr_obj, x_make, x_meth, x_meth2, x_meth3, x_isO, x_isO1, x_cat, x_cat1, x_methZ, x_methZ2, x_methZ3, x_callZ, x_callZ1, x_lend1, x_lend2, x_cl_int, x_cl_bl, x_cl_str, x_cl_non, x_cl_tup, x_cl0, x_cl1, x_cl_lst, x_setIx, x_setIx1, x_setIx2, Option.map_some, List.getD_cons_zero, List.getD_cons_succ, List.set_cons_zero, List.set_cons_succ, List.map_cons, List.map_nil, List.replicate_zero, List.replicate_succ, List.length_cons, List.length_nil, List.cons_append, List.nil_append, Option.bind_some, if_true, if_false, Bool.false_eq_true, Nat.reduceSub, Nat.reduceAdd, Nat.reduceLeDiff, Nat.reduceLT, vAdd, vSub, vLt, vLe, vGt, vGe, vNeg, vEq, vNe, vEq2, vNe2, vMod, vDiv, vMul, vPow, Int.reduceToNat, vIx0, vIx1, vLenT, vLenC, vLenL, reduceIte, decide_true, decide_false, Bool.not_true, Bool.not_false, beq_self_eq_true, Bool.and_true, Bool.true_and, Bool.and_self, Bool.and_false, Bool.false_and, vMul wd, hl, hv, vMul k1, vMul k2, h0, h1]
        exact ⟨(l * 37, l * 37 + v * 41), rfl, (by show l * 37 ≤ l * 37 + v * 41; omega), (by show _ ≤ l * 37; omega), (by show l * 37 + v * 41 ≤ _; omega)⟩
      | false =>
        simp (disch := decide) only [x_seq, x_seq1, x_seq2, x_seq3, x_seq4, x_seq5, x_seq6, x_nil, x_if, x_if1, x_if2, x_if3, x_ret, x_ret1, x_ret2, x_ret3, x_retN, x_asg, x_asg1, x_asg2, x_asg3, x_asg4, x_asg5, x_gN, x_drop, x_drop1, x_drop2, x_bk, x_ct, x_raise, x_tZ, x_tZ1, x_tZ2, x_tE, x_tE1, x_tE2, x_tE3, x_tAnd, x_tAnd1, x_tAnd2, x_tAnd3, x_tOr, x_tOr1, x_tOr2, x_tOr3, x_tNot, x_tNot1, x_tNot2, x_tNot3, x_tTrue, x_z2, x_z21, x_z1, x_z11, x_zC, x_zC1, x_za, x_za1, x_za0, x_zV, x_zK, x_ch, x_ch1, x_ch2, x_eZ, x_eZ1, x_eZ2, x_eV, x_eV1, x_eM, x_eM1, x_b1, x_b2, x_b3, x_s1, x_s2, x_s3, x_oO, x_oO2, x_e2, x_e1, x_eC, x_aN, x_aC, x_tup, x_lst, x_call, x_oC1, x_oC2, x_call0, x_call01, x_eAnd, x_eAnd1, x_eOr, x_eOr1, x_eNot, x_eNot1, x_eIf, x_eIf1, x_fz_int, x_fr_int, x_fz_bl, x_fr_bl, x_fz_str, x_fr_str, x_fz_ty, x_fr_ty, x_fz_tup, x_fr_tup, x_fz_cst, x_fr_cst, x_fz_lst_false, x_fr_lst_false, x_fz_non, x_fr_non, x_fz_lt, x_fr_lt, x_fL0, x_fL1, x_cF, x_cR1, x_cR2, x_cR3, x_iL, x_iL1, x_iT, x_iT1, x_iS, x_iS1, x_iR1, x_iR11, x_iR2, x_iR21, x_iE, x_iE1, x_iV, x_iV1, x_iZ, x_iZ1, x_for, x_fo0, x_fo1, x_fo2, x_fo3, x_fo4, x_fo5, x_fo6, x_fo7, x_gT, x_gC, x_gC0, x_try, x_try1, x_try2, x_try3, x_try4, x_try5, x_nx1, x_nx2, x_try6, x_try7, x_nx3, x_nx4, x_app, x_app1, x_app2, x_lc, x_lcE, x_lc0, x_lc1, x_lcG, x_w0, x_w1, vMinL4, vMaxL4, vAll3, vAny3, vAll4, vAny4, x_wh1, x_wh2, x_wh0, x_abs, vI_ii, vI_ib, vI_it, vI_il, vI_is, vI_bb, vI_bi, vI_tt, vI_tl, vI_ti, vI_ll, vI_lt, vI_ss, vEqB, vNeB, x_ta, x_ta1, x_ta2, x_ta3, x_ta4, x_ta5, x_is, nc_0, nc_1, nc_2, nc_3, nc_4, nc_5, nc_6, nc_7, nc_8, nc_9, nc_10, nc_11, vMax2, vMin2, vIsN0, vIsN1, vNotN0, vNotN1, vIsN2, vNotN2, x_lo, x_lo1, x_lo2, vAll2, vAny2, x_sl, x_sl1, x_sl2, x_pn, x_ps, x_ps1, x_cutL, x_cutC, vEqS, vNeS, x_fz_obj, x_fr_obj, x_make, x_meth, x_meth2, x_meth3, x_isO, x_isO1, x_cat, x_cat1, x_methZ, x_methZ2, x_methZ3, x_callZ, x_callZ1, x_lend1, x_lend2, x_cl_int, x_cl_bl, x_cl_str, x_cl_non, x_cl_tup, x_cl0, x_cl1, x_cl_lst, x_setIx, x_setIx1, x_setIx2, Option.map_some, List.getD_cons_zero, List.getD_cons_succ, List.set_cons_zero, List.set_cons_succ, List.map_cons, List.map_nil, List.replicate_zero, List.replicate_succ, List.length_cons, List.length_nil, List.cons_append, List.nil_append, Option.bind_some, if_true, if_false, Bool.false_eq_true, Nat.reduceSub, Nat.reduceAdd, Nat.reduceLeDiff, Nat.reduceLT, vAdd, vSub, vLt, vLe, vGt, vGe, vNeg, vEq, vNe, vEq2, vNe2, vMod, vDiv, vMul, vPow, Int.reduceToNat, vIx0, vIx1, vLenT, vLenC, vLenL, reduceIte, decide_true, decide_false, Bool.not_true, Bool.not_false, beq_self_eq_true, Bool.and_true, Bool.true_and, Bool.and_self, Bool.and_false, Bool.false_and, vMul wd, hl, hv, h0, h1]
        exact ⟨(l, l + v), rfl, (by show l ≤ l + v; omega), (by show _ ≤ l; omega), (by show l + v ≤ _; omega)⟩
/-- the loop of Euclid -/
theorem euclid {t : MT} {b : MS} (ht : t = tZ (Bn.z2 gGt (zVar 1) (zC (.int 0))))
    (hb : b = sSeq (sAsg (eZ (Bn.z2 gMod (zVar 0) (zVar 1))) (gN 2)) (sSeq (sAsg (eVar 1) (gN 0)) (sAsg (eVar 2) (gN 1)))) :
    ∀ (n x y : Nat) (r : Option D), y < n → ∃ r', whileM t b n [some (.int x), some (.int y), r] = .nx [some (.int (Nat.gcd x y : Nat)), some (.int 0), r']
  | 0, _, _, _, h => absurd h (Nat.not_lt_zero _)
  | n + 1, x, y, r, h => by
    rw [x_wh]
    by_cases hy : 0 < y
    · have hy' : (0 : Int) < (y : Int) := by omega
      obtain ⟨r', e⟩ := euclid ht hb n y (x % y) (some (.int ((x % y : Nat) : Int))) (Nat.lt_of_lt_of_le (Nat.mod_lt _ hy) (by omega))
      refine ⟨r', ?_⟩
      have e1 : t [some (.int x), some (.int y), r] = .ok true [some (.int x), some (.int y), r] := by
        subst ht
        simp only [x_seq, x_seq1, x_seq2, x_seq3, x_seq4, x_seq5, x_seq6, x_nil, x_if, x_if1, x_if2, x_if3, x_ret, x_ret1, x_ret2, x_ret3, x_retN, x_asg, x_asg1, x_asg2, x_asg3, x_asg4, x_asg5, x_gN, x_drop, x_drop1, x_drop2, x_bk, x_ct, x_raise, x_tZ, x_tZ1, x_tZ2, x_tE, x_tE1, x_tE2, x_tE3, x_tAnd, x_tAnd1, x_tAnd2, x_tAnd3, x_tOr, x_tOr1, x_tOr2, x_tOr3, x_tNot, x_tNot1, x_tNot2, x_tNot3, x_tTrue, x_z2, x_z21, x_z1, x_z11, x_zC, x_zC1, x_za, x_za1, x_za0, x_zV, x_zK, x_ch, x_ch1, x_ch2, x_eZ, x_eZ1, x_eZ2, x_eV, x_eV1, x_eM, x_eM1, x_b1, x_b2, x_b3, x_s1, x_s2, x_s3, x_oO, x_oO2, x_e2, x_e1, x_eC, x_aN, x_aC, x_tup, x_lst, x_call, x_oC1, x_oC2, x_call0, x_call01, x_eAnd, x_eAnd1, x_eOr, x_eOr1, x_eNot, x_eNot1, x_eIf, x_eIf1, x_fz_int, x_fr_int, x_fz_bl, x_fr_bl, x_fz_str, x_fr_str, x_fz_ty, x_fr_ty, x_fz_tup, x_fr_tup, x_fz_cst, x_fr_cst, x_fz_lst_false, x_fr_lst_false, x_fz_non, x_fr_non, x_fz_lt, x_fr_lt, x_fL0, x_fL1, x_cF, x_cR1, x_cR2, x_cR3, x_iL, x_iL1, x_iT, x_iT1, x_iS, x_iS1, x_iR1, x_iR11, x_iR2, x_iR21, x_iE, x_iE1, x_iV, x_iV1, x_iZ, x_iZ1, x_for, x_fo0, x_fo1, x_fo2, x_fo3, x_fo4, x_fo5, x_fo6, x_fo7, x_gT, x_gC, x_gC0, x_try, x_try1, x_try2, x_try3, x_try4, x_try5, x_nx1, x_nx2, x_try6, x_try7, x_nx3, x_nx4, x_app, x_app1, x_app2, x_lc, x_lcE, x_lc0, x_lc1, x_lcG, x_w0, x_w1, vMinL4, vMaxL4, vAll3, vAny3, vAll4, vAny4, x_wh1, x_wh2, x_wh0, x_abs, vI_ii, vI_ib, vI_it, vI_il, vI_is, vI_bb, vI_bi, vI_tt, vI_tl, vI_ti, vI_ll, vI_lt, vI_ss, vEqB, vNeB, x_ta, x_ta1, x_ta2, x_ta3, x_ta4, x_ta5, x_is, nc_0, nc_1, nc_2, nc_3, nc_4, nc_5, nc_6, nc_7, nc_8, nc_9, nc_10, nc_11, vMax2, vMin2, vIsN0, vIsN1, vNotN0, vNotN1, vIsN2, vNotN2, x_lo, x_lo1, x_lo2, vAll2, vAny2, x_sl, x_sl1, x_sl2, x_pn, x_ps, x_ps1, x_cutL, x_cutC, vEqS, vNeS, x_fz_obj, x_fr_obj, x_make, x_meth, x_meth2, x_meth3, x_isO, x_isO1, x_cat, x_cat1, x_methZ, x_methZ2, x_methZ3, x_callZ, x_callZ1, x_lend1, x_lend2, x_cl_int, x_cl_bl, x_cl_str, x_cl_non, x_cl_tup, x_cl0, x_cl1, x_cl_lst, x_setIx, x_setIx1, x_setIx2, Option.map_some, List.getD_cons_zero, List.getD_cons_succ, List.set_cons_zero, List.set_cons_succ, List.map_cons, List.map_nil, List.replicate_zero, List.replicate_succ, List.length_cons, List.length_nil, List.cons_append, List.nil_append, Option.bind_some, if_true, if_false, Bool.false_eq_true, Nat.reduceSub, Nat.reduceAdd, Nat.reduceLeDiff, Nat.reduceLT, vAdd, vSub, vLt, vLe, vGt, vGe, vNeg, vEq, vNe, vEq2, vNe2, vMod, vDiv, vMul, vPow, Int.reduceToNat, vIx0, vIx1, vLenT, vLenC, vLenL, reduceIte, decide_true, decide_false, Bool.not_true, Bool.not_false, beq_self_eq_true, Bool.and_true, Bool.true_and, Bool.and_self, Bool.and_false, Bool.false_and, hy', decide_true]
      have e2 : b [some (.int x), some (.int y), r] = .nx [some (.int y), some (.int ((x % y : Nat) : Int)), some (.int ((x % y : Nat) : Int))] := by
        subst hb
        simp only [x_seq, x_seq1, x_seq2, x_seq3, x_seq4, x_seq5, x_seq6, x_nil, x_if, x_if1, x_if2, x_if3, x_ret, x_ret1, x_ret2, x_ret3, x_retN, x_asg, x_asg1, x_asg2, x_asg3, x_asg4, x_asg5, x_gN, x_drop, x_drop1, x_drop2, x_bk, x_ct, x_raise, x_tZ, x_tZ1, x_tZ2, x_tE, x_tE1, x_tE2, x_tE3, x_tAnd, x_tAnd1, x_tAnd2, x_tAnd3, x_tOr, x_tOr1, x_tOr2, x_tOr3, x_tNot, x_tNot1, x_tNot2, x_tNot3, x_tTrue, x_z2, x_z21, x_z1, x_z11, x_zC, x_zC1, x_za, x_za1, x_za0, x_zV, x_zK, x_ch, x_ch1, x_ch2, x_eZ, x_eZ1, x_eZ2, x_eV, x_eV1, x_eM, x_eM1, x_b1, x_b2, x_b3, x_s1, x_s2, x_s3, x_oO, x_oO2, x_e2, x_e1, x_eC, x_aN, x_aC, x_tup, x_lst, x_call, x_oC1, x_oC2, x_call0, x_call01, x_eAnd, x_eAnd1, x_eOr, x_eOr1, x_eNot, x_eNot1, x_eIf, x_eIf1, x_fz_int, x_fr_int, x_fz_bl, x_fr_bl, x_fz_str, x_fr_str, x_fz_ty, x_fr_ty, x_fz_tup, x_fr_tup, x_fz_cst, x_fr_cst, x_fz_lst_false, x_fr_lst_false, x_fz_non, x_fr_non, x_fz_lt, x_fr_lt, x_fL0, x_fL1, x_cF, x_cR1, x_cR2, x_cR3, x_iL, x_iL1, x_iT, x_iT1, x_iS, x_iS1, x_iR1, x_iR11, x_iR2, x_iR21, x_iE, x_iE1, x_iV, x_iV1, x_iZ, x_iZ1, x_for, x_fo0, x_fo1, x_fo2, x_fo3, x_fo4, x_fo5, x_fo6, x_fo7, x_gT, x_gC, x_gC0, x_try, x_try1, x_try2, x_try3, x_try4, x_try5, x_nx1, x_nx2, x_try6, x_try7, x_nx3, x_nx4, x_app, x_app1, x_app2, x_lc, x_lcE, x_lc0, x_lc1, x_lcG, x_w0, x_w1, vMinL4, vMaxL4, vAll3, vAny3, vAll4, vAny4, x_wh1, x_wh2, x_wh0, x_abs, vI_ii, vI_ib, vI_it, vI_il, vI_is, vI_bb, vI_bi, vI_tt, vI_tl, vI_ti, vI_ll, vI_lt, vI_ss, vEqB, vNeB, x_ta, x_ta1, x_ta2, x_ta3, x_ta4, x_ta5, x_is, nc_0, nc_1, nc_2, nc_3, nc_4, nc_5, nc_6, nc_7, nc_8, nc_9, nc_10, nc_11, vMax2, vMin2, vIsN0, vIsN1, vNotN0, vNotN1, vIsN2, vNotN2, x_lo, x_lo1, x_lo2, vAll2, vAny2, x_sl, x_sl1, x_sl2, x_pn, x_ps, x_ps1, x_cutL, x_cutC, vEqS, vNeS, x_fz_obj, x_fr_obj, x_make, x_meth, x_meth2, x_meth3, x_isO, x_isO1, x_cat, x_cat1, x_methZ, x_methZ2, x_methZ3, x_callZ, x_callZ1, x_lend1, x_lend2, x_cl_int, x_cl_bl, x_cl_str, x_cl_non, x_cl_tup, x_cl0, x_cl1, x_cl_lst, x_setIx, x_setIx1, x_setIx2, Option.map_some, List.getD_cons_zero, List.getD_cons_succ, List.set_cons_zero, List.set_cons_succ, List.map_cons, List.map_nil, List.replicate_zero, List.replicate_succ, List.length_cons, List.length_nil, List.cons_append, List.nil_append, Option.bind_some, if_true, if_false, Bool.false_eq_true, Nat.reduceSub, Nat.reduceAdd, Nat.reduceLeDiff, Nat.reduceLT, vAdd, vSub, vLt, vLe, vGt, vGe, vNeg, vEq, vNe, vEq2, vNe2, vMod, vDiv, vMul, vPow, Int.reduceToNat, vIx0, vIx1, vLenT, vLenC, vLenL, reduceIte, decide_true, decide_false, Bool.not_true, Bool.not_false, beq_self_eq_true, Bool.and_true, Bool.true_and, Bool.and_self, Bool.and_false, Bool.false_and, vMod hy']
        rfl
      rw [e1, x_wh1, e2]
      show whileM t b n _ = _
      rw [e, Nat.gcd_comm y, ← Nat.gcd_rec, Nat.gcd_comm]
    · have : y = 0 := by omega
      subst this
      refine ⟨r, ?_⟩
      have e1 : t [some (.int x), some (.int (0 : Nat)), r] = .ok false [some (.int x), some (.int (0 : Nat)), r] := by
        subst ht
        rfl
      rw [e1, x_wh2, Nat.gcd_zero_right]
      rfl
theorem abs_nat (a : Int) : (if a < 0 then -a else a) = (a.natAbs : Int) := by split <;> omega
theorem ldivisor_ok (a : Int) {b : Int} (hb : 0 < b) : f__law_divisor [.int (if a < 0 then -a else a), .int b] = .ok (.int (Nat.gcd a.natAbs b.natAbs : Nat)) := by
  obtain ⟨r', e⟩ := euclid rfl rfl (b.natAbs + 1) a.natAbs b.natAbs none (by omega)
  have eb : ((b.natAbs : Nat) : Int) = b := by omega
  rw [eb] at e
  simp only [f__law_divisor, m__law_divisor, x_seq, x_seq1, x_seq2, x_seq3, x_seq4, x_seq5, x_seq6, x_nil, x_if, x_if1, x_if2, x_if3, x_ret, x_ret1, x_ret2, x_ret3, x_retN, x_asg, x_asg1, x_asg2, x_asg3, x_asg4, x_asg5, x_gN, x_drop, x_drop1, x_drop2, x_bk, x_ct, x_raise, x_tZ, x_tZ1, x_tZ2, x_tE, x_tE1, x_tE2, x_tE3, x_tAnd, x_tAnd1, x_tAnd2, x_tAnd3, x_tOr, x_tOr1, x_tOr2, x_tOr3, x_tNot, x_tNot1, x_tNot2, x_tNot3, x_tTrue, x_z2, x_z21, x_z1, x_z11, x_zC, x_zC1, x_za, x_za1, x_za0, x_zV, x_zK, x_ch, x_ch1, x_ch2, x_eZ, x_eZ1, x_eZ2, x_eV, x_eV1, x_eM, x_eM1, x_b1, x_b2, x_b3, x_s1, x_s2, x_s3, x_oO, x_oO2, x_e2, x_e1, x_eC, x_aN, x_aC, x_tup, x_lst, x_call, x_oC1, x_oC2, x_call0, x_call01, x_eAnd, x_eAnd1, x_eOr, x_eOr1, x_eNot, x_eNot1, x_eIf, x_eIf1, x_fz_int, x_fr_int, x_fz_bl, x_fr_bl, x_fz_str, x_fr_str, x_fz_ty, x_fr_ty, x_fz_tup, x_fr_tup, x_fz_cst, x_fr_cst, x_fz_lst_false, x_fr_lst_false, x_fz_non, x_fr_non, x_fz_lt, x_fr_lt, x_fL0, x_fL1, x_cF, x_cR1, x_cR2, x_cR3, x_iL, x_iL1, x_iT, x_iT1, x_iS, x_iS1, x_iR1, x_iR11, x_iR2, x_iR21, x_iE, x_iE1, x_iV, x_iV1, x_iZ, x_iZ1, x_for, x_fo0, x_fo1, x_fo2, x_fo3, x_fo4, x_fo5, x_fo6, x_fo7, x_gT, x_gC, x_gC0, x_try, x_try1, x_try2, x_try3, x_try4, x_try5, x_nx1, x_nx2, x_try6, x_try7, x_nx3, x_nx4, x_app, x_app1, x_app2, x_lc, x_lcE, x_lc0, x_lc1, x_lcG, x_w0, x_w1, vMinL4, vMaxL4, vAll3, vAny3, vAll4, vAny4, x_wh1, x_wh2, x_wh0, x_abs, vI_ii, vI_ib, vI_it, vI_il, vI_is, vI_bb, vI_bi, vI_tt, vI_tl, vI_ti, vI_ll, vI_lt, vI_ss, vEqB, vNeB, x_ta, x_ta1, x_ta2, x_ta3, x_ta4, x_ta5, x_is, nc_0, nc_1, nc_2, nc_3, nc_4, nc_5, nc_6, nc_7, nc_8, nc_9, nc_10, nc_11, vMax2, vMin2, vIsN0, vIsN1, vNotN0, vNotN1, vIsN2, vNotN2, x_lo, x_lo1, x_lo2, vAll2, vAny2, x_sl, x_sl1, x_sl2, x_pn, x_ps, x_ps1, x_cutL, x_cutC, vEqS, vNeS, x_fz_obj, x_fr_obj, x_make, x_meth, x_meth2, x_meth3, x_isO, x_isO1, x_cat, x_cat1, x_methZ, x_methZ2, x_methZ3, x_callZ, x_callZ1, x_lend1, x_lend2, x_cl_int, x_cl_bl, x_cl_str, x_cl_non, x_cl_tup, x_cl0, x_cl1, x_cl_lst, x_setIx, x_setIx1, x_setIx2, Option.map_some, List.getD_cons_zero, List.getD_cons_succ, List.set_cons_zero, List.set_cons_succ, List.map_cons, List.map_nil, List.replicate_zero, List.replicate_succ, List.length_cons, List.length_nil, List.cons_append, List.nil_append, Option.bind_some, if_true, if_false, Bool.false_eq_true, Nat.reduceSub, Nat.reduceAdd, Nat.reduceLeDiff, Nat.reduceLT, vAdd, vSub, vLt, vLe, vGt, vGe, vNeg, vEq, vNe, vEq2, vNe2, vMod, vDiv, vMul, vPow, Int.reduceToNat, vIx0, vIx1, vLenT, vLenC, vLenL, reduceIte, decide_true, decide_false, Bool.not_true, Bool.not_false, beq_self_eq_true, Bool.and_true, Bool.true_and, Bool.and_self, Bool.and_false, Bool.false_and, abs_nat, fuel__law_divisor1, Int.natAbs_natCast, e]
/-- a fraction in lowest terms -/
structure Low (p q a b : Int) : Prop where
  pos : 1 ≤ q
  cross : p * b = a * q
  gcd : Nat.gcd p.natAbs q.natAbs = 1
  pa : p.natAbs ≤ a.natAbs
  qb : q.natAbs ≤ b.natAbs
theorem low_of {a b : Int} (h : 0 < b) : Low (a / (Nat.gcd a.natAbs b.natAbs : Nat)) (b / (Nat.gcd a.natAbs b.natAbs : Nat)) a b := by
  have g0 : 0 < Nat.gcd a.natAbs b.natAbs := Nat.gcd_pos_of_pos_right _ (by omega)
  obtain ⟨x, hx⟩ : ((Nat.gcd a.natAbs b.natAbs : Nat) : Int) ∣ a := Int.ofNat_dvd_left.mpr (Nat.gcd_dvd_left _ _)
  obtain ⟨y, hy⟩ : ((Nat.gcd a.natAbs b.natAbs : Nat) : Int) ∣ b := Int.ofNat_dvd_left.mpr (Nat.gcd_dvd_right _ _)
  have cp := Nat.coprime_div_gcd_div_gcd g0
  generalize hg : Nat.gcd a.natAbs b.natAbs = g at *
  have gi : (g : Int) ≠ 0 := by omega
  have e1 : a / (g : Int) = x := by rw [hx]; exact Int.mul_ediv_cancel_left _ gi
  have e2 : b / (g : Int) = y := by rw [hy]; exact Int.mul_ediv_cancel_left _ gi
  have n1 : a.natAbs = g * x.natAbs := by rw [hx, Int.natAbs_mul, Int.natAbs_natCast]
  have n2 : b.natAbs = g * y.natAbs := by rw [hy, Int.natAbs_mul, Int.natAbs_natCast]
  rw [e1, e2]
  have y1 : 1 ≤ y := by
    rcases Int.lt_or_le 0 y with h1 | h1
    · omega
    · have := Int.mul_le_mul_of_nonneg_left h1 (show (0 : Int) ≤ g by omega)
      omega
  refine ⟨y1, ?_, ?_, ?_, ?_⟩
  · rw [hx, hy]; grind
  · rw [n1, n2, Nat.mul_div_cancel_left _ g0, Nat.mul_div_cancel_left _ g0] at cp
    exact cp
  · rw [n1]; exact Nat.le_mul_of_pos_left _ g0
  · rw [n2]; exact Nat.le_mul_of_pos_left _ g0
theorem lfrac_ok (a b : Int) (hb : 0 < b) (hs : b.natAbs < 2 ^ 80) : ∃ p q : Int, f__law_fraction [.int a, .int b] = .ok (.tup [.int p, .int q]) ∧ Low p q a b := by
  have h1 : 0 < Nat.gcd a.natAbs b.natAbs := Nat.gcd_pos_of_pos_right _ (by omega)
  have h2 : Nat.gcd a.natAbs b.natAbs ≤ b.natAbs := Nat.gcd_le_right _ (by omega)
  have h3 := log2_le (n := ((Nat.gcd a.natAbs b.natAbs : Nat) : Int).natAbs) (m := 80) (by rw [Int.natAbs_natCast]; exact Nat.lt_of_le_of_lt h2 hs)
  have s1 : 0 < ((Nat.gcd a.natAbs b.natAbs : Nat) : Int) := by omega
  have s2 : ((Nat.gcd a.natAbs b.natAbs : Nat) : Int).natAbs.log2 < 9000 := by omega
  refine ⟨_, _, ?_, low_of hb⟩
  simp only [f__law_fraction, m__law_fraction, x_seq, x_seq1, x_seq2, x_seq3, x_seq4, x_seq5, x_seq6, x_nil, x_if, x_if1, x_if2, x_if3, x_ret, x_ret1, x_ret2, x_ret3, x_retN, x_asg, x_asg1, x_asg2, x_asg3, x_asg4, x_asg5, x_gN, x_drop, x_drop1, x_drop2, x_bk, x_ct, x_raise, x_tZ, x_tZ1, x_tZ2, x_tE, x_tE1, x_tE2, x_tE3, x_tAnd, x_tAnd1, x_tAnd2, x_tAnd3, x_tOr, x_tOr1, x_tOr2, x_tOr3, x_tNot, x_tNot1, x_tNot2, x_tNot3, x_tTrue, x_z2, x_z21, x_z1, x_z11, x_zC, x_zC1, x_za, x_za1, x_za0, x_zV, x_zK, x_ch, x_ch1, x_ch2, x_eZ, x_eZ1, x_eZ2, x_eV, x_eV1, x_eM, x_eM1, x_b1, x_b2, x_b3, x_s1, x_s2, x_s3, x_oO, x_oO2, x_e2, x_e1, x_eC, x_aN, x_aC, x_tup, x_lst, x_call, x_oC1, x_oC2, x_call0, x_call01, x_eAnd, x_eAnd1, x_eOr, x_eOr1, x_eNot, x_eNot1, x_eIf, x_eIf1, x_fz_int, x_fr_int, x_fz_bl, x_fr_bl, x_fz_str, x_fr_str, x_fz_ty, x_fr_ty, x_fz_tup, x_fr_tup, x_fz_cst, x_fr_cst, x_fz_lst_false, x_fr_lst_false, x_fz_non, x_fr_non, x_fz_lt, x_fr_lt, x_fL0, x_fL1, x_cF, x_cR1, x_cR2, x_cR3, x_iL, x_iL1, x_iT, x_iT1, x_iS, x_iS1, x_iR1, x_iR11, x_iR2, x_iR21, x_iE, x_iE1, x_iV, x_iV1, x_iZ, x_iZ1, x_for, x_fo0, x_fo1, x_fo2, x_fo3, x_fo4, x_fo5, x_fo6, x_fo7, x_gT, x_gC, x_gC0, x_try, x_try1, x_try2, x_try3, x_try4, x_try5, x_nx1, x_nx2, x_try6, x_try7, x_nx3, x_nx4, x_app, x_app1, x_app2, x_lc, x_lcE, x_lc0, x_lc1, x_lcG, x_w0, x_w1, vMinL4, vMaxL4, vAll3, vAny3, vAll4, vAny4, x_wh1, x_wh2, x_wh0, x_abs, vI_ii, vI_ib, vI_it, vI_il, vI_is, vI_bb, vI_bi, vI_tt, vI_tl, vI_ti, vI_ll, vI_lt, vI_ss, vEqB, vNeB, x_ta, x_ta1, x_ta2, x_ta3, x_ta4, x_ta5, x_is, nc_0, nc_1, nc_2, nc_3, nc_4, nc_5, nc_6, nc_7, nc_8, nc_9, nc_10, nc_11, vMax2, vMin2, vIsN0, vIsN1, vNotN0, vNotN1, vIsN2, vNotN2, x_lo, x_lo1, x_lo2, vAll2, vAny2, x_sl, x_sl1, x_sl2, x_pn, x_ps, x_ps1, x_cutL, x_cutC, vEqS, vNeS, x_fz_obj, x_fr_obj, x_make, x_meth, x_meth2, x_meth3, x_isO, x_isO1, x_cat, x_cat1, x_methZ, x_methZ2, x_methZ3, x_callZ, x_callZ1, x_lend1, x_lend2, x_cl_int, x_cl_bl, x_cl_str, x_cl_non, x_cl_tup, x_cl0, x_cl1, x_cl_lst, x_setIx, x_setIx1, x_setIx2, Option.map_some, List.getD_cons_zero, List.getD_cons_succ, List.set_cons_zero, List.set_cons_succ, List.map_cons, List.map_nil, List.replicate_zero, List.replicate_succ, List.length_cons, List.length_nil, List.cons_append, List.nil_append, Option.bind_some, if_true, if_false, Bool.false_eq_true, Nat.reduceSub, Nat.reduceAdd, Nat.reduceLeDiff, Nat.reduceLT, vAdd, vSub, vLt, vLe, vGt, vGe, vNeg, vEq, vNe, vEq2, vNe2, vMod, vDiv, vMul, vPow, Int.reduceToNat, vIx0, vIx1, vLenT, vLenC, vLenL, reduceIte, decide_true, decide_false, Bool.not_true, Bool.not_false, beq_self_eq_true, Bool.and_true, Bool.true_and, Bool.and_self, Bool.and_false, Bool.false_and, ldivisor_ok a hb, vDiv s1 s2]
theorem numb_ok (c : Int) : ∃ p q : Int, f__law_number [.int c] = .ok (.tup [.str "number", .int p, .int q]) ∧ 1 ≤ q ∧ Nat.gcd p.natAbs q.natAbs = 1 ∧ p.natAbs ≤ 999999999 ∧ q.natAbs ≤ 999999999 := by
  have hp : gPow (.int 10) (.int 40) = some (.int (10 ^ 40)) := rfl
  obtain ⟨c1, hc1⟩ : ∃ x, c % 10 ^ 40 = x := ⟨_, rfl⟩
  have b1 : 0 ≤ c1 := by omega
  have b2 : c1 < 10 ^ 40 := by omega
  have hm : gMod (.int c) (.int (10 ^ 40)) = some (.int c1) := by rw [vMod (by decide), hc1]
  have wd : L2.CMulW c1 48271 := mulW 140 20 (by omega) (by decide) (by decide)
  clear hc1
  cases h4 : (c1 % 4 == 0) with
  | true =>
    obtain ⟨a, ha, a0⟩ : ∃ x, c1 / 4 % 1999999999 - 999999999 = x ∧ x.natAbs ≤ 999999999 := ⟨_, rfl, by omega⟩
    obtain ⟨b, hb, b0, b1⟩ : ∃ x, 1 + c1 * 48271 % 999999999 = x ∧ 0 < x ∧ x ≤ 999999999 := ⟨_, rfl, by omega, by omega⟩
    obtain ⟨p, q, e, L⟩ := lfrac_ok a b b0 (by omega)
    have := L.pa; have := L.qb
    refine ⟨p, q, ?_, L.pos, L.gcd, by omega, by omega⟩
    simp (disch := decide) only [f__law_number, m__law_number, x_seq, x_seq1, x_seq2, x_seq3, x_seq4, x_seq5, x_seq6, x_nil, x_if, x_if1, x_if2, x_if3, x_ret, x_ret1, x_ret2, x_ret3, x_retN, x_asg, x_asg1, x_asg2, x_asg3, x_asg4, x_asg5, x_gN, x_drop, x_drop1, x_drop2, x_bk, x_ct, x_raise, x_tZ, x_tZ1, x_tZ2, x_tE, x_tE1, x_tE2, x_tE3, x_tAnd, x_tAnd1, x_tAnd2, x_tAnd3, x_tOr, x_tOr1, x_tOr2, x_tOr3, x_tNot, x_tNot1, x_tNot2, x_tNot3, x_tTrue, x_z2, x_z21, x_z1, x_z11, x_zC, x_zC1, x_za, x_za1, x_za0, x_zV, x_zK, x_ch, x_ch1, x_ch2, x_eZ, x_eZ1, x_eZ2, x_eV, x_eV1, x_eM, x_eM1, x_b1, x_b2, x_b3, x_s1, x_s2, x_s3, x_oO, x_oO2, x_e2, x_e1, x_eC, x_aN, x_aC, x_tup, x_lst, x_call, x_oC1, x_oC2, x_call0, x_call01, x_eAnd, x_eAnd1, x_eOr, x_eOr1, x_eNot, x_eNot1, x_eIf, x_eIf1, x_fz_int, x_fr_int, x_fz_bl, x_fr_bl, x_fz_str, x_fr_str, x_fz_ty, x_fr_ty, x_fz_tup, x_fr_tup, x_fz_cst, x_fr_cst, x_fz_lst_false, x_fr_lst_false, x_fz_non, x_fr_non, x_fz_lt, x_fr_lt, x_fL0, x_fL1, x_cF, x_cR1, x_cR2, x_cR3, x_iL, x_iL1, x_iT, x_iT1, x_iS, x_iS1, x_iR1, x_iR11, x_iR2, x_iR21, x_iE, x_iE1, x_iV, x_iV1, x_iZ, x_iZ1, x_for, x_fo0, x_fo1, x_fo2, x_fo3, x_fo4, x_fo5, x_fo6, x_fo7, x_gT, x_gC, x_gC0, x_try, x_try1, x_try2, x_try3, x_try4, x_try5, x_nx1, x_nx2, x_try6, x_try7, x_nx3, x_nx4, x_app, x_app1, x_app2, x_lc, x_lcE, x_lc0, x_lc1, x_lcG, x_w0, x_w1, vMinL4, vMaxL4, vAll3, vAny3, vAll4, vAny4, x_wh1, x_wh2, x_wh0, x_abs, vI_ii, vI_ib, vI_it, vI_il, vI_is, vI_bb, vI_bi, vI_tt, vI_tl, vI_ti, vI_ll, vI_lt, vI_ss, vEqB, vNeB, x_ta, x_ta1, x_ta2, x_ta3, x_ta4, x_ta5, x_is, nc_0, nc_1, nc_2, nc_3, nc_4, nc_5, nc_6, nc_7, nc_8, nc_9, nc_10, nc_11, vMax2, vMin2, vIsN0, vIsN1, vNotN0, vNotN1, vIsN2, vNotN2, x_lo, x_lo1, x_lo2, vAll2, vAny2, x_sl, x_sl1, x_sl2, x_pn, x_ps, x_ps1, x_cutL, x_cutC, vEqS, vNeS, x_fz_obj, x_fr_obj, x_make, x_meth, x_meth2, x_meth3, x_isO, x_isO1, x_cat, x_cat1, x_methZ, x_methZ2, x_methZ3, x_callZ, x_callZ1, x_lend1, x_lend2, x_cl_int, x_cl_bl, x_cl_str, x_cl_non, x_cl_tup, x_cl0, x_cl1, x_cl_lst, x_setIx, x_setIx1, x_setIx2, Option.map_some, List.getD_cons_zero, List.getD_cons_succ, List.set_cons_zero, List.set_cons_succ, List.map_cons, List.map_nil, List.replicate_zero, List.replicate_succ, List.length_cons, List.length_nil, List.cons_append, List.nil_append, Option.bind_some, if_true, if_false, Bool.false_eq_true, Nat.reduceSub, Nat.reduceAdd, Nat.reduceLeDiff, Nat.reduceLT, vAdd, vSub, vLt, vLe, vGt, vGe, vNeg, vEq, vNe, vEq2, vNe2, vMod, vDiv, vMul, vPow, Int.reduceToNat, vIx0, vIx1, vLenT, vLenC, vLenL, reduceIte, decide_true, decide_false, Bool.not_true, Bool.not_false, beq_self_eq_true, Bool.and_true, Bool.true_and, Bool.and_self, Bool.and_false, Bool.false_and, hp, hm, h4, vMul wd, ha, hb, e]
  | false =>
    obtain ⟨a, ha, a0⟩ : ∃ x, c1 / 4 % 41 - 20 = x ∧ x.natAbs ≤ 999999999 := ⟨_, rfl, by omega⟩
    obtain ⟨b, hb, b0, b1⟩ : ∃ x, 1 + c1 * 48271 % 2147483647 % 6 = x ∧ 0 < x ∧ x ≤ 999999999 := ⟨_, rfl, by omega, by omega⟩
    obtain ⟨p, q, e, L⟩ := lfrac_ok a b b0 (by omega)
    have := L.pa; have := L.qb
    refine ⟨p, q, ?_, L.pos, L.gcd, by omega, by omega⟩
    simp (disch := decide) only [f__law_number, m__law_number, x_seq, x_seq1, x_seq2, x_seq3, x_seq4, x_seq5, x_seq6, x_nil, x_if, x_if1, x_if2, x_if3, x_ret, x_ret1, x_ret2, x_ret3, x_retN, x_asg, x_asg1, x_asg2, x_asg3, x_asg4, x_asg5, x_gN, x_drop, x_drop1, x_drop2, x_bk, x_ct, x_raise, x_tZ, x_tZ1, x_tZ2, x_tE, x_tE1, x_tE2, x_tE3, x_tAnd, x_tAnd1, x_tAnd2, x_tAnd3, x_tOr, x_tOr1, x_tOr2, x_tOr3, x_tNot, x_tNot1, x_tNot2, x_tNot3, x_tTrue, x_z2, x_z21, x_z1, x_z11, x_zC, x_zC1, x_za, x_za1, x_za0, x_zV, x_zK, x_ch, x_ch1, x_ch2, x_eZ, x_eZ1, x_eZ2, x_eV, x_eV1, x_eM, x_eM1, x_b1, x_b2, x_b3, x_s1, x_s2, x_s3, x_oO, x_oO2, x_e2, x_e1, x_eC, x_aN, x_aC, x_tup, x_lst, x_call, x_oC1, x_oC2, x_call0, x_call01, x_eAnd, x_eAnd1, x_eOr, x_eOr1, x_eNot, x_eNot1, x_eIf, x_eIf1, x_fz_int, x_fr_int, x_fz_bl, x_fr_bl, x_fz_str, x_fr_str, x_fz_ty, x_fr_ty, x_fz_tup, x_fr_tup, x_fz_cst, x_fr_cst, x_fz_lst_false, x_fr_lst_false, x_fz_non, x_fr_non, x_fz_lt, x_fr_lt, x_fL0, x_fL1, x_cF, x_cR1, x_cR2, x_cR3, x_iL, x_iL1, x_iT, x_iT1, x_iS, x_iS1, x_iR1, x_iR11, x_iR2, x_iR21, x_iE, x_iE1, x_iV, x_iV1, x_iZ, x_iZ1, x_for, x_fo0, x_fo1, x_fo2, x_fo3, x_fo4, x_fo5, x_fo6, x_fo7, x_gT, x_gC, x_gC0, x_try, x_try1, x_try2, x_try3, x_try4, x_try5, x_nx1, x_nx2, x_try6, x_try7, x_nx3, x_nx4, x_app, x_app1, x_app2, x_lc, x_lcE, x_lc0, x_lc1, x_lcG, x_w0, x_w1, vMinL4, vMaxL4, vAll3, vAny3, vAll4, vAny4, x_wh1, x_wh2, x_wh0, x_abs, vI_ii, vI_ib, vI_it, vI_il, vI_is, vI_bb, vI_bi, vI_tt, vI_tl, vI_ti, vI_ll, vI_lt, vI_ss, vEqB, vNeB, x_ta, x_ta1, x_ta2, x_ta3, x_ta4, x_ta5, x_is, nc_0, nc_1, nc_2, nc_3, nc_4, nc_5, nc_6, nc_7, nc_8, nc_9, nc_10, nc_11, vMax2, vMin2, vIsN0, vIsN1, vNotN0, vNotN1, vIsN2, vNotN2, x_lo, x_lo1, x_lo2, vAll2, vAny2, x_sl, x_sl1, x_sl2, x_pn, x_ps, x_ps1, x_cutL, x_cutC, vEqS, vNeS, x_fz_obj, x_fr_obj, x_make, x_meth, x_meth2, x_meth3, x_isO, x_isO1, x_cat, x_cat1, x_methZ, x_methZ2, x_methZ3, x_callZ, x_callZ1, x_lend1, x_lend2, x_cl_int, x_cl_bl, x_cl_str, x_cl_non, x_cl_tup, x_cl0, x_cl1, x_cl_lst, x_setIx, x_setIx1, x_setIx2, Option.map_some, List.getD_cons_zero, List.getD_cons_succ, List.set_cons_zero, List.set_cons_succ, List.map_cons, List.map_nil, List.replicate_zero, List.replicate_succ, List.length_cons, List.length_nil, List.cons_append, List.nil_append, Option.bind_some, if_true, if_false, Bool.false_eq_true, Nat.reduceSub, Nat.reduceAdd, Nat.reduceLeDiff, Nat.reduceLT, vAdd, vSub, vLt, vLe, vGt, vGe, vNeg, vEq, vNe, vEq2, vNe2, vMod, vDiv, vMul, vPow, Int.reduceToNat, vIx0, vIx1, vLenT, vLenC, vLenL, reduceIte, decide_true, decide_false, Bool.not_true, Bool.not_false, beq_self_eq_true, Bool.and_true, Bool.true_and, Bool.and_self, Bool.and_false, Bool.false_and, hp, hm, h4, vMul wd, ha, hb, e]
inductive Nd where
  | num (t b : Int) | unk (j : Int) | pow (i k : Int) | plus (i j : Int) | minus (i j : Int) | times (i j : Int)
def Nd.w : Nd → PySem.Str
  | .num _ _ => "number" | .unk _ => "unknown" | .pow _ _ => "power" | .plus _ _ => "plus" | .minus _ _ => "minus" | .times _ _ => "times"
def Nd.d : Nd → D
  | .num t b => .tup [.str "number", .int t, .int b]
  | .unk j => .tup [.str "unknown", .int j]
  | .pow i k => .tup [.str "power", .int i, .int k]
  | .plus i j => .tup [.str "plus", .int i, .int j]
  | .minus i j => .tup [.str "minus", .int i, .int j]
  | .times i j => .tup [.str "times", .int i, .int j]
def Nd.o : Nd → D
  | .num t b => .obj false "Number" ["top", "bottom"] [.int t, .int b]
  | .unk j => .obj false "Unknown" ["place"] [.int j]
  | .pow i k => .obj false "Power" ["one", "many"] [.int i, .int k]
  | .plus i j => .obj false "Plus" ["one", "other"] [.int i, .int j]
  | .minus i j => .obj false "Minus" ["one", "other"] [.int i, .int j]
  | .times i j => .obj false "Times" ["one", "other"] [.int i, .int j]
def Nd.B (size many : Int) : Nd → Prop
  | .num t b => 1 ≤ b ∧ Nat.gcd t.natAbs b.natAbs = 1 ∧ t.natAbs ≤ 999999999 ∧ b.natAbs ≤ 999999999
  | .unk j => 0 ≤ j ∧ j < many
  | .pow i k => 0 ≤ i ∧ i < size ∧ 2 ≤ k ∧ k ≤ 6
  | .plus i j => 0 ≤ i ∧ i < size ∧ 0 ≤ j ∧ j < size
  | .minus i j => 0 ≤ i ∧ i < size ∧ 0 ≤ j ∧ j < size
  | .times i j => 0 ≤ i ∧ i < size ∧ 0 ≤ j ∧ j < size
theorem vIxT2 (a b c : D) : gIx (.tup [a, b, c]) (.int 2) = some c := vIxT [a, b, c] 2
theorem Nd.fz (n : Nd) : isFz n.d = true := by cases n <;> rfl
theorem Nd.fr (n : Nd) : freeze n.d = n.d := by cases n <;> rfl
theorem Nd.fzo (n : Nd) : isFz n.o = true := by cases n <;> rfl
theorem Nd.fro (n : Nd) : freeze n.o = n.o := by cases n <;> rfl
theorem Nd.ix0 (n : Nd) : gIx n.d (.int 0) = some (.str n.w) := by cases n <;> exact vIx0 _ _
theorem ix_ptm (i : Int) (h : i = 0 ∨ i = 1 ∨ i = 2) : ∃ w : PySem.Str, gIx (.lst true [.str "plus", .str "minus", .str "times"]) (.int i) = some (.str w) ∧ (w = "plus" ∨ w = "minus" ∨ w = "times") := by
  rcases h with rfl | rfl | rfl
  · exact ⟨_, rfl, .inl rfl⟩
  · exact ⟨_, rfl, .inr (.inl rfl)⟩
  · exact ⟨_, rfl, .inr (.inr rfl)⟩
theorem node_ok (c s m : Int) (s1 : 1 ≤ s) (m1 : 1 ≤ m) : ∃ n : Nd, f__law_node [.int c, .int s, .int m] = .ok n.d ∧ n.B s m := by
  have hp : gPow (.int 10) (.int 40) = some (.int (10 ^ 40)) := rfl
  obtain ⟨c1, hc1⟩ : ∃ x, c % 10 ^ 40 = x := ⟨_, rfl⟩
  have b1 : 0 ≤ c1 := by omega
  have b2 : c1 < 10 ^ 40 := by omega
  have hm : gMod (.int c) (.int (10 ^ 40)) = some (.int c1) := by rw [vMod (by decide), hc1]
  obtain ⟨k, hk, k0, k1⟩ : ∃ x, c1 % 8 = x ∧ 0 ≤ x ∧ x < 8 := ⟨_, rfl, by omega, by omega⟩
  obtain ⟨d, hd, d0, d1⟩ : ∃ x, c1 / 8 = x ∧ 0 ≤ x ∧ x < 10 ^ 40 := ⟨_, rfl, by omega, by omega⟩
  have wd : L2.CMulW d 48271 := mulW 140 20 (by omega) (by decide) (by decide)
  have we : L2.CMulW d 69621 := mulW 140 20 (by omega) (by decide) (by decide)
  clear hc1
  have hs0 : (s == 0) = false := by simp; omega
  have vs := fun y : Int => vMod (i := y) (j := s) (by omega)
  have vm := fun y : Int => vMod (i := y) (j := m) (by omega)
  simp (disch := decide) only [f__law_node, m__law_node, u__law_node_1, u__law_node_2, u__law_node_3, x_seq, x_seq1, x_seq2, x_seq3, x_seq4, x_seq5, x_seq6, x_nil, x_if, x_if1, x_if2, x_if3, x_ret, x_ret1, x_ret2, x_ret3, x_retN, x_asg, x_asg1, x_asg2, x_asg3, x_asg4, x_asg5, x_gN, x_drop, x_drop1, x_drop2, x_bk, x_ct, x_raise, x_tZ, x_tZ1, x_tZ2, x_tE, x_tE1, x_tE2, x_tE3, x_tAnd, x_tAnd1, x_tAnd2, x_tAnd3, x_tOr, x_tOr1, x_tOr2, x_tOr3, x_tNot, x_tNot1, x_tNot2, x_tNot3, x_tTrue, x_z2, x_z21, x_z1, x_z11, x_zC, x_zC1, x_za, x_za1, x_za0, x_zV, x_zK, x_ch, x_ch1, x_ch2, x_eZ, x_eZ1, x_eZ2, x_eV, x_eV1, x_eM, x_eM1, x_b1, x_b2, x_b3, x_s1, x_s2, x_s3, x_oO, x_oO2, x_e2, x_e1, x_eC, x_aN, x_aC, x_tup, x_lst, x_call, x_oC1, x_oC2, x_call0, x_call01, x_eAnd, x_eAnd1, x_eOr, x_eOr1, x_eNot, x_eNot1, x_eIf, x_eIf1, x_fz_int, x_fr_int, x_fz_bl, x_fr_bl, x_fz_str, x_fr_str, x_fz_ty, x_fr_ty, x_fz_tup, x_fr_tup, x_fz_cst, x_fr_cst, x_fz_lst_false, x_fr_lst_false, x_fz_non, x_fr_non, x_fz_lt, x_fr_lt, x_fL0, x_fL1, x_cF, x_cR1, x_cR2, x_cR3, x_iL, x_iL1, x_iT, x_iT1, x_iS, x_iS1, x_iR1, x_iR11, x_iR2, x_iR21, x_iE, x_iE1, x_iV, x_iV1, x_iZ, x_iZ1, x_for, x_fo0, x_fo1, x_fo2, x_fo3, x_fo4, x_fo5, x_fo6, x_fo7, x_gT, x_gC, x_gC0, x_try, x_try1, x_try2, x_try3, x_try4, x_try5, x_nx1, x_nx2, x_try6, x_try7, x_nx3, x_nx4, x_app, x_app1, x_app2, x_lc, x_lcE, x_lc0, x_lc1, x_lcG, x_w0, x_w1, vMinL4, vMaxL4, vAll3, vAny3, vAll4, vAny4, x_wh1, x_wh2, x_wh0, x_abs, vI_ii, vI_ib, vI_it, vI_il, vI_is, vI_bb, vI_bi, vI_tt, vI_tl, vI_ti, vI_ll, vI_lt, vI_ss, vEqB, vNeB, x_ta, x_ta1, x_ta2, x_ta3, x_ta4, x_ta5, x_is, nc_0, nc_1, nc_2, nc_3, nc_4, nc_5, nc_6, nc_7, nc_8, nc_9, nc_10, nc_11, vMax2, vMin2, vIsN0, vIsN1, vNotN0, vNotN1, vIsN2, vNotN2, x_lo, x_lo1, x_lo2, vAll2, vAny2, x_sl, x_sl1, x_sl2, x_pn, x_ps, x_ps1, x_cutL, x_cutC, vEqS, vNeS, x_fz_obj, x_fr_obj, x_make, x_meth, x_meth2, x_meth3, x_isO, x_isO1, x_cat, x_cat1, x_methZ, x_methZ2, x_methZ3, x_callZ, x_callZ1, x_lend1, x_lend2, x_cl_int, x_cl_bl, x_cl_str, x_cl_non, x_cl_tup, x_cl0, x_cl1, x_cl_lst, x_setIx, x_setIx1, x_setIx2, Option.map_some, List.getD_cons_zero, List.getD_cons_succ, List.set_cons_zero, List.set_cons_succ, List.map_cons, List.map_nil, List.replicate_zero, List.replicate_succ, List.length_cons, List.length_nil, List.cons_append, List.nil_append, Option.bind_some, if_true, if_false, Bool.false_eq_true, Nat.reduceSub, Nat.reduceAdd, Nat.reduceLeDiff, Nat.reduceLT, vAdd, vSub, vLt, vLe, vGt, vGe, vNeg, vEq, vNe, vEq2, vNe2, vMod, vDiv, vMul, vPow, Int.reduceToNat, vIx0, vIx1, vLenT, vLenC, vLenL, reduceIte, decide_true, decide_false, Bool.not_true, Bool.not_false, beq_self_eq_true, Bool.and_true, Bool.true_and, Bool.and_self, Bool.and_false, Bool.false_and, hp, hm, hk, hd]
  cases h0 : (k == 0) with
  | true =>
    obtain ⟨p, q, e, q1, g, pa, qa⟩ := numb_ok d
    simp only [x_seq, x_seq1, x_seq2, x_seq3, x_seq4, x_seq5, x_seq6, x_nil, x_if, x_if1, x_if2, x_if3, x_ret, x_ret1, x_ret2, x_ret3, x_retN, x_asg, x_asg1, x_asg2, x_asg3, x_asg4, x_asg5, x_gN, x_drop, x_drop1, x_drop2, x_bk, x_ct, x_raise, x_tZ, x_tZ1, x_tZ2, x_tE, x_tE1, x_tE2, x_tE3, x_tAnd, x_tAnd1, x_tAnd2, x_tAnd3, x_tOr, x_tOr1, x_tOr2, x_tOr3, x_tNot, x_tNot1, x_tNot2, x_tNot3, x_tTrue, x_z2, x_z21, x_z1, x_z11, x_zC, x_zC1, x_za, x_za1, x_za0, x_zV, x_zK, x_ch, x_ch1, x_ch2, x_eZ, x_eZ1, x_eZ2, x_eV, x_eV1, x_eM, x_eM1, x_b1, x_b2, x_b3, x_s1, x_s2, x_s3, x_oO, x_oO2, x_e2, x_e1, x_eC, x_aN, x_aC, x_tup, x_lst, x_call, x_oC1, x_oC2, x_call0, x_call01, x_eAnd, x_eAnd1, x_eOr, x_eOr1, x_eNot, x_eNot1, x_eIf, x_eIf1, x_fz_int, x_fr_int, x_fz_bl, x_fr_bl, x_fz_str, x_fr_str, x_fz_ty, x_fr_ty, x_fz_tup, x_fr_tup, x_fz_cst, x_fr_cst, x_fz_lst_false, x_fr_lst_false, x_fz_non, x_fr_non, x_fz_lt, x_fr_lt, x_fL0, x_fL1, x_cF, x_cR1, x_cR2, x_cR3, x_iL, x_iL1, x_iT, x_iT1, x_iS, x_iS1, x_iR1, x_iR11, x_iR2, x_iR21, x_iE, x_iE1, x_iV, x_iV1, x_iZ, x_iZ1, x_for, x_fo0, x_fo1, x_fo2, x_fo3, x_fo4, x_fo5, x_fo6, x_fo7, x_gT, x_gC, x_gC0, x_try, x_try1, x_try2, x_try3, x_try4, x_try5, x_nx1, x_nx2, x_try6, x_try7, x_nx3, x_nx4, x_app, x_app1, x_app2, x_lc, x_lcE, x_lc0, x_lc1, x_lcG, x_w0, x_w1, vMinL4, vMaxL4, vAll3, vAny3, vAll4, vAny4, x_wh1, x_wh2, x_wh0, x_abs, vI_ii, vI_ib, vI_it, vI_il, vI_is, vI_bb, vI_bi, vI_tt, vI_tl, vI_ti, vI_ll, vI_lt, vI_ss, vEqB, vNeB, x_ta, x_ta1, x_ta2, x_ta3, x_ta4, x_ta5, x_is, nc_0, nc_1, nc_2, nc_3, nc_4, nc_5, nc_6, nc_7, nc_8, nc_9, nc_10, nc_11, vMax2, vMin2, vIsN0, vIsN1, vNotN0, vNotN1, vIsN2, vNotN2, x_lo, x_lo1, x_lo2, vAll2, vAny2, x_sl, x_sl1, x_sl2, x_pn, x_ps, x_ps1, x_cutL, x_cutC, vEqS, vNeS, x_fz_obj, x_fr_obj, x_make, x_meth, x_meth2, x_meth3, x_isO, x_isO1, x_cat, x_cat1, x_methZ, x_methZ2, x_methZ3, x_callZ, x_callZ1, x_lend1, x_lend2, x_cl_int, x_cl_bl, x_cl_str, x_cl_non, x_cl_tup, x_cl0, x_cl1, x_cl_lst, x_setIx, x_setIx1, x_setIx2, Option.map_some, List.getD_cons_zero, List.getD_cons_succ, List.set_cons_zero, List.set_cons_succ, List.map_cons, List.map_nil, List.replicate_zero, List.replicate_succ, List.length_cons, List.length_nil, List.cons_append, List.nil_append, Option.bind_some, if_true, if_false, Bool.false_eq_true, Nat.reduceSub, Nat.reduceAdd, Nat.reduceLeDiff, Nat.reduceLT, vAdd, vSub, vLt, vLe, vGt, vGe, vNeg, vEq, vNe, vEq2, vNe2, vMod, vDiv, vMul, vPow, Int.reduceToNat, vIx0, vIx1, vLenT, vLenC, vLenL, reduceIte, decide_true, decide_false, Bool.not_true, Bool.not_false, beq_self_eq_true, Bool.and_true, Bool.true_and, Bool.and_self, Bool.and_false, Bool.false_and, e]
    exact ⟨.num p q, rfl, q1, g, pa, qa⟩
  | false =>
    simp (disch := decide) only [u__law_node_4, x_seq, x_seq1, x_seq2, x_seq3, x_seq4, x_seq5, x_seq6, x_nil, x_if, x_if1, x_if2, x_if3, x_ret, x_ret1, x_ret2, x_ret3, x_retN, x_asg, x_asg1, x_asg2, x_asg3, x_asg4, x_asg5, x_gN, x_drop, x_drop1, x_drop2, x_bk, x_ct, x_raise, x_tZ, x_tZ1, x_tZ2, x_tE, x_tE1, x_tE2, x_tE3, x_tAnd, x_tAnd1, x_tAnd2, x_tAnd3, x_tOr, x_tOr1, x_tOr2, x_tOr3, x_tNot, x_tNot1, x_tNot2, x_tNot3, x_tTrue, x_z2, x_z21, x_z1, x_z11, x_zC, x_zC1, x_za, x_za1, x_za0, x_zV, x_zK, x_ch, x_ch1, x_ch2, x_eZ, x_eZ1, x_eZ2, x_eV, x_eV1, x_eM, x_eM1, x_b1, x_b2, x_b3, x_s1, x_s2, x_s3, x_oO, x_oO2, x_e2, x_e1, x_eC, x_aN, x_aC, x_tup, x_lst, x_call, x_oC1, x_oC2, x_call0, x_call01, x_eAnd, x_eAnd1, x_eOr, x_eOr1, x_eNot, x_eNot1, x_eIf, x_eIf1, x_fz_int, x_fr_int, x_fz_bl, x_fr_bl, x_fz_str, x_fr_str, x_fz_ty, x_fr_ty, x_fz_tup, x_fr_tup, x_fz_cst, x_fr_cst, x_fz_lst_false, x_fr_lst_false, x_fz_non, x_fr_non, x_fz_lt, x_fr_lt, x_fL0, x_fL1, x_cF, x_cR1, x_cR2, x_cR3, x_iL, x_iL1, x_iT, x_iT1, x_iS, x_iS1, x_iR1, x_iR11, x_iR2, x_iR21, x_iE, x_iE1, x_iV, x_iV1, x_iZ, x_iZ1, x_for, x_fo0, x_fo1, x_fo2, x_fo3, x_fo4, x_fo5, x_fo6, x_fo7, x_gT, x_gC, x_gC0, x_try, x_try1, x_try2, x_try3, x_try4, x_try5, x_nx1, x_nx2, x_try6, x_try7, x_nx3, x_nx4, x_app, x_app1, x_app2, x_lc, x_lcE, x_lc0, x_lc1, x_lcG, x_w0, x_w1, vMinL4, vMaxL4, vAll3, vAny3, vAll4, vAny4, x_wh1, x_wh2, x_wh0, x_abs, vI_ii, vI_ib, vI_it, vI_il, vI_is, vI_bb, vI_bi, vI_tt, vI_tl, vI_ti, vI_ll, vI_lt, vI_ss, vEqB, vNeB, x_ta, x_ta1, x_ta2, x_ta3, x_ta4, x_ta5, x_is, nc_0, nc_1, nc_2, nc_3, nc_4, nc_5, nc_6, nc_7, nc_8, nc_9, nc_10, nc_11, vMax2, vMin2, vIsN0, vIsN1, vNotN0, vNotN1, vIsN2, vNotN2, x_lo, x_lo1, x_lo2, vAll2, vAny2, x_sl, x_sl1, x_sl2, x_pn, x_ps, x_ps1, x_cutL, x_cutC, vEqS, vNeS, x_fz_obj, x_fr_obj, x_make, x_meth, x_meth2, x_meth3, x_isO, x_isO1, x_cat, x_cat1, x_methZ, x_methZ2, x_methZ3, x_callZ, x_callZ1, x_lend1, x_lend2, x_cl_int, x_cl_bl, x_cl_str, x_cl_non, x_cl_tup, x_cl0, x_cl1, x_cl_lst, x_setIx, x_setIx1, x_setIx2, Option.map_some, List.getD_cons_zero, List.getD_cons_succ, List.set_cons_zero, List.set_cons_succ, List.map_cons, List.map_nil, List.replicate_zero, List.replicate_succ, List.length_cons, List.length_nil, List.cons_append, List.nil_append, Option.bind_some, if_true, if_false, Bool.false_eq_true, Nat.reduceSub, Nat.reduceAdd, Nat.reduceLeDiff, Nat.reduceLT, vAdd, vSub, vLt, vLe, vGt, vGe, vNeg, vEq, vNe, vEq2, vNe2, vMod, vDiv, vMul, vPow, Int.reduceToNat, vIx0, vIx1, vLenT, vLenC, vLenL, reduceIte, decide_true, decide_false, Bool.not_true, Bool.not_false, beq_self_eq_true, Bool.and_true, Bool.true_and, Bool.and_self, Bool.and_false, Bool.false_and, hs0, vm]
    cases h1 : (k == 1) with
    | true =>
      simp only [x_seq, x_seq1, x_seq2, x_seq3, x_seq4, x_seq5, x_seq6, x_nil, x_if, x_if1, x_if2, x_if3, x_ret, x_ret1, x_ret2, x_ret3, x_retN, x_asg, x_asg1, x_asg2, x_asg3, x_asg4, x_asg5, x_gN, x_drop, x_drop1, x_drop2, x_bk, x_ct, x_raise, x_tZ, x_tZ1, x_tZ2, x_tE, x_tE1, x_tE2, x_tE3, x_tAnd, x_tAnd1, x_tAnd2, x_tAnd3, x_tOr, x_tOr1, x_tOr2, x_tOr3, x_tNot, x_tNot1, x_tNot2, x_tNot3, x_tTrue, x_z2, x_z21, x_z1, x_z11, x_zC, x_zC1, x_za, x_za1, x_za0, x_zV, x_zK, x_ch, x_ch1, x_ch2, x_eZ, x_eZ1, x_eZ2, x_eV, x_eV1, x_eM, x_eM1, x_b1, x_b2, x_b3, x_s1, x_s2, x_s3, x_oO, x_oO2, x_e2, x_e1, x_eC, x_aN, x_aC, x_tup, x_lst, x_call, x_oC1, x_oC2, x_call0, x_call01, x_eAnd, x_eAnd1, x_eOr, x_eOr1, x_eNot, x_eNot1, x_eIf, x_eIf1, x_fz_int, x_fr_int, x_fz_bl, x_fr_bl, x_fz_str, x_fr_str, x_fz_ty, x_fr_ty, x_fz_tup, x_fr_tup, x_fz_cst, x_fr_cst, x_fz_lst_false, x_fr_lst_false, x_fz_non, x_fr_non, x_fz_lt, x_fr_lt, x_fL0, x_fL1, x_cF, x_cR1, x_cR2, x_cR3, x_iL, x_iL1, x_iT, x_iT1, x_iS, x_iS1, x_iR1, x_iR11, x_iR2, x_iR21, x_iE, x_iE1, x_iV, x_iV1, x_iZ, x_iZ1, x_for, x_fo0, x_fo1, x_fo2, x_fo3, x_fo4, x_fo5, x_fo6, x_fo7, x_gT, x_gC, x_gC0, x_try, x_try1, x_try2, x_try3, x_try4, x_try5, x_nx1, x_nx2, x_try6, x_try7, x_nx3, x_nx4, x_app, x_app1, x_app2, x_lc, x_lcE, x_lc0, x_lc1, x_lcG, x_w0, x_w1, vMinL4, vMaxL4, vAll3, vAny3, vAll4, vAny4, x_wh1, x_wh2, x_wh0, x_abs, vI_ii, vI_ib, vI_it, vI_il, vI_is, vI_bb, vI_bi, vI_tt, vI_tl, vI_ti, vI_ll, vI_lt, vI_ss, vEqB, vNeB, x_ta, x_ta1, x_ta2, x_ta3, x_ta4, x_ta5, x_is, nc_0, nc_1, nc_2, nc_3, nc_4, nc_5, nc_6, nc_7, nc_8, nc_9, nc_10, nc_11, vMax2, vMin2, vIsN0, vIsN1, vNotN0, vNotN1, vIsN2, vNotN2, x_lo, x_lo1, x_lo2, vAll2, vAny2, x_sl, x_sl1, x_sl2, x_pn, x_ps, x_ps1, x_cutL, x_cutC, vEqS, vNeS, x_fz_obj, x_fr_obj, x_make, x_meth, x_meth2, x_meth3, x_isO, x_isO1, x_cat, x_cat1, x_methZ, x_methZ2, x_methZ3, x_callZ, x_callZ1, x_lend1, x_lend2, x_cl_int, x_cl_bl, x_cl_str, x_cl_non, x_cl_tup, x_cl0, x_cl1, x_cl_lst, x_setIx, x_setIx1, x_setIx2, Option.map_some, List.getD_cons_zero, List.getD_cons_succ, List.set_cons_zero, List.set_cons_succ, List.map_cons, List.map_nil, List.replicate_zero, List.replicate_succ, List.length_cons, List.length_nil, List.cons_append, List.nil_append, Option.bind_some, if_true, if_false, Bool.false_eq_true, Nat.reduceSub, Nat.reduceAdd, Nat.reduceLeDiff, Nat.reduceLT, vAdd, vSub, vLt, vLe, vGt, vGe, vNeg, vEq, vNe, vEq2, vNe2, vMod, vDiv, vMul, vPow, Int.reduceToNat, vIx0, vIx1, vLenT, vLenC, vLenL, reduceIte, decide_true, decide_false, Bool.not_true, Bool.not_false, beq_self_eq_true, Bool.and_true, Bool.true_and, Bool.and_self, Bool.and_false, Bool.false_and, vm]
      exact ⟨.unk (d % m), rfl, Int.emod_nonneg d (by omega), Int.emod_lt_of_pos d (by omega)⟩
    | false =>
      obtain ⟨o, ho, o0, o1⟩ : ∃ x, d % s = x ∧ 0 ≤ x ∧ x < s := ⟨_, rfl, Int.emod_nonneg d (by omega), Int.emod_lt_of_pos d (by omega)⟩
      obtain ⟨i, i0, i1, e6⟩ : ∃ i : Int, 0 ≤ i ∧ i < s ∧ u__law_node_6 [some (.int c), some (.int s), some (.int m), some (.int d), some (.int k), some (.int o)] = u__law_node_7 [some (.int c), some (.int s), some (.int m), some (.int d), some (.int k), some (.int i)] := by
        cases h3 : (d % 3 == 0) with
        | true => exact ⟨s - 1, by omega, by omega, by simp (disch := decide) only [u__law_node_6, x_seq, x_seq1, x_seq2, x_seq3, x_seq4, x_seq5, x_seq6, x_nil, x_if, x_if1, x_if2, x_if3, x_ret, x_ret1, x_ret2, x_ret3, x_retN, x_asg, x_asg1, x_asg2, x_asg3, x_asg4, x_asg5, x_gN, x_drop, x_drop1, x_drop2, x_bk, x_ct, x_raise, x_tZ, x_tZ1, x_tZ2, x_tE, x_tE1, x_tE2, x_tE3, x_tAnd, x_tAnd1, x_tAnd2, x_tAnd3, x_tOr, x_tOr1, x_tOr2, x_tOr3, x_tNot, x_tNot1, x_tNot2, x_tNot3, x_tTrue, x_z2, x_z21, x_z1, x_z11, x_zC, x_zC1, x_za, x_za1, x_za0, x_zV, x_zK, x_ch, x_ch1, x_ch2, x_eZ, x_eZ1, x_eZ2, x_eV, x_eV1, x_eM, x_eM1, x_b1, x_b2, x_b3, x_s1, x_s2, x_s3, x_oO, x_oO2, x_e2, x_e1, x_eC, x_aN, x_aC, x_tup, x_lst, x_call, x_oC1, x_oC2, x_call0, x_call01, x_eAnd, x_eAnd1, x_eOr, x_eOr1, x_eNot, x_eNot1, x_eIf, x_eIf1, x_fz_int, x_fr_int, x_fz_bl, x_fr_bl, x_fz_str, x_fr_str, x_fz_ty, x_fr_ty, x_fz_tup, x_fr_tup, x_fz_cst, x_fr_cst, x_fz_lst_false, x_fr_lst_false, x_fz_non, x_fr_non, x_fz_lt, x_fr_lt, x_fL0, x_fL1, x_cF, x_cR1, x_cR2, x_cR3, x_iL, x_iL1, x_iT, x_iT1, x_iS, x_iS1, x_iR1, x_iR11, x_iR2, x_iR21, x_iE, x_iE1, x_iV, x_iV1, x_iZ, x_iZ1, x_for, x_fo0, x_fo1, x_fo2, x_fo3, x_fo4, x_fo5, x_fo6, x_fo7, x_gT, x_gC, x_gC0, x_try, x_try1, x_try2, x_try3, x_try4, x_try5, x_nx1, x_nx2, x_try6, x_try7, x_nx3, x_nx4, x_app, x_app1, x_app2, x_lc, x_lcE, x_lc0, x_lc1, x_lcG, x_w0, x_w1, vMinL4, vMaxL4, vAll3, vAny3, vAll4, vAny4, x_wh1, x_wh2, x_wh0, x_abs, vI_ii, vI_ib, vI_it, vI_il, vI_is, vI_bb, vI_bi, vI_tt, vI_tl, vI_ti, vI_ll, vI_lt, vI_ss, vEqB, vNeB, x_ta, x_ta1, x_ta2, x_ta3, x_ta4, x_ta5, x_is, nc_0, nc_1, nc_2, nc_3, nc_4, nc_5, nc_6, nc_7, nc_8, nc_9, nc_10, nc_11, vMax2, vMin2, vIsN0, vIsN1, vNotN0, vNotN1, vIsN2, vNotN2, x_lo, x_lo1, x_lo2, vAll2, vAny2, x_sl, x_sl1, x_sl2, x_pn, x_ps, x_ps1, x_cutL, x_cutC, vEqS, vNeS, x_fz_obj, x_fr_obj, x_make, x_meth, x_meth2, x_meth3, x_isO, x_isO1, x_cat, x_cat1, x_methZ, x_methZ2, x_methZ3, x_callZ, x_callZ1, x_lend1, x_lend2, x_cl_int, x_cl_bl, x_cl_str, x_cl_non, x_cl_tup, x_cl0, x_cl1, x_cl_lst, x_setIx, x_setIx1, x_setIx2, Option.map_some, List.getD_cons_zero, List.getD_cons_succ, List.set_cons_zero, List.set_cons_succ, List.map_cons, List.map_nil, List.replicate_zero, List.replicate_succ, List.length_cons, List.length_nil, List.cons_append, List.nil_append, Option.bind_some, if_true, if_false, Bool.false_eq_true, Nat.reduceSub, Nat.reduceAdd, Nat.reduceLeDiff, Nat.reduceLT, vAdd, vSub, vLt, vLe, vGt, vGe, vNeg, vEq, vNe, vEq2, vNe2, vMod, vDiv, vMul, vPow, Int.reduceToNat, vIx0, vIx1, vLenT, vLenC, vLenL, reduceIte, decide_true, decide_false, Bool.not_true, Bool.not_false, beq_self_eq_true, Bool.and_true, Bool.true_and, Bool.and_self, Bool.and_false, Bool.false_and, h3]⟩
        | false => exact ⟨o, o0, o1, by simp (disch := decide) only [u__law_node_6, x_seq, x_seq1, x_seq2, x_seq3, x_seq4, x_seq5, x_seq6, x_nil, x_if, x_if1, x_if2, x_if3, x_ret, x_ret1, x_ret2, x_ret3, x_retN, x_asg, x_asg1, x_asg2, x_asg3, x_asg4, x_asg5, x_gN, x_drop, x_drop1, x_drop2, x_bk, x_ct, x_raise, x_tZ, x_tZ1, x_tZ2, x_tE, x_tE1, x_tE2, x_tE3, x_tAnd, x_tAnd1, x_tAnd2, x_tAnd3, x_tOr, x_tOr1, x_tOr2, x_tOr3, x_tNot, x_tNot1, x_tNot2, x_tNot3, x_tTrue, x_z2, x_z21, x_z1, x_z11, x_zC, x_zC1, x_za, x_za1, x_za0, x_zV, x_zK, x_ch, x_ch1, x_ch2, x_eZ, x_eZ1, x_eZ2, x_eV, x_eV1, x_eM, x_eM1, x_b1, x_b2, x_b3, x_s1, x_s2, x_s3, x_oO, x_oO2, x_e2, x_e1, x_eC, x_aN, x_aC, x_tup, x_lst, x_call, x_oC1, x_oC2, x_call0, x_call01, x_eAnd, x_eAnd1, x_eOr, x_eOr1, x_eNot, x_eNot1, x_eIf, x_eIf1, x_fz_int, x_fr_int, x_fz_bl, x_fr_bl, x_fz_str, x_fr_str, x_fz_ty, x_fr_ty, x_fz_tup, x_fr_tup, x_fz_cst, x_fr_cst, x_fz_lst_false, x_fr_lst_false, x_fz_non, x_fr_non, x_fz_lt, x_fr_lt, x_fL0, x_fL1, x_cF, x_cR1, x_cR2, x_cR3, x_iL, x_iL1, x_iT, x_iT1, x_iS, x_iS1, x_iR1, x_iR11, x_iR2, x_iR21, x_iE, x_iE1, x_iV, x_iV1, x_iZ, x_iZ1, x_for, x_fo0, x_fo1, x_fo2, x_fo3, x_fo4, x_fo5, x_fo6, x_fo7, x_gT, x_gC, x_gC0, x_try, x_try1, x_try2, x_try3, x_try4, x_try5, x_nx1, x_nx2, x_try6, x_try7, x_nx3, x_nx4, x_app, x_app1, x_app2, x_lc, x_lcE, x_lc0, x_lc1, x_lcG, x_w0, x_w1, vMinL4, vMaxL4, vAll3, vAny3, vAll4, vAny4, x_wh1, x_wh2, x_wh0, x_abs, vI_ii, vI_ib, vI_it, vI_il, vI_is, vI_bb, vI_bi, vI_tt, vI_tl, vI_ti, vI_ll, vI_lt, vI_ss, vEqB, vNeB, x_ta, x_ta1, x_ta2, x_ta3, x_ta4, x_ta5, x_is, nc_0, nc_1, nc_2, nc_3, nc_4, nc_5, nc_6, nc_7, nc_8, nc_9, nc_10, nc_11, vMax2, vMin2, vIsN0, vIsN1, vNotN0, vNotN1, vIsN2, vNotN2, x_lo, x_lo1, x_lo2, vAll2, vAny2, x_sl, x_sl1, x_sl2, x_pn, x_ps, x_ps1, x_cutL, x_cutC, vEqS, vNeS, x_fz_obj, x_fr_obj, x_make, x_meth, x_meth2, x_meth3, x_isO, x_isO1, x_cat, x_cat1, x_methZ, x_methZ2, x_methZ3, x_callZ, x_callZ1, x_lend1, x_lend2, x_cl_int, x_cl_bl, x_cl_str, x_cl_non, x_cl_tup, x_cl0, x_cl1, x_cl_lst, x_setIx, x_setIx1, x_setIx2, Option.map_some, List.getD_cons_zero, List.getD_cons_succ, List.set_cons_zero, List.set_cons_succ, List.map_cons, List.map_nil, List.replicate_zero, List.replicate_succ, List.length_cons, List.length_nil, List.cons_append, List.nil_append, Option.bind_some, if_true, if_false, Bool.false_eq_true, Nat.reduceSub, Nat.reduceAdd, Nat.reduceLeDiff, Nat.reduceLT, vAdd, vSub, vLt, vLe, vGt, vGe, vNeg, vEq, vNe, vEq2, vNe2, vMod, vDiv, vMul, vPow, Int.reduceToNat, vIx0, vIx1, vLenT, vLenC, vLenL, reduceIte, decide_true, decide_false, Bool.not_true, Bool.not_false, beq_self_eq_true, Bool.and_true, Bool.true_and, Bool.and_self, Bool.and_false, Bool.false_and, h3]⟩
      simp (disch := decide) only [u__law_node_5, x_seq, x_seq1, x_seq2, x_seq3, x_seq4, x_seq5, x_seq6, x_nil, x_if, x_if1, x_if2, x_if3, x_ret, x_ret1, x_ret2, x_ret3, x_retN, x_asg, x_asg1, x_asg2, x_asg3, x_asg4, x_asg5, x_gN, x_drop, x_drop1, x_drop2, x_bk, x_ct, x_raise, x_tZ, x_tZ1, x_tZ2, x_tE, x_tE1, x_tE2, x_tE3, x_tAnd, x_tAnd1, x_tAnd2, x_tAnd3, x_tOr, x_tOr1, x_tOr2, x_tOr3, x_tNot, x_tNot1, x_tNot2, x_tNot3, x_tTrue, x_z2, x_z21, x_z1, x_z11, x_zC, x_zC1, x_za, x_za1, x_za0, x_zV, x_zK, x_ch, x_ch1, x_ch2, x_eZ, x_eZ1, x_eZ2, x_eV, x_eV1, x_eM, x_eM1, x_b1, x_b2, x_b3, x_s1, x_s2, x_s3, x_oO, x_oO2, x_e2, x_e1, x_eC, x_aN, x_aC, x_tup, x_lst, x_call, x_oC1, x_oC2, x_call0, x_call01, x_eAnd, x_eAnd1, x_eOr, x_eOr1, x_eNot, x_eNot1, x_eIf, x_eIf1, x_fz_int, x_fr_int, x_fz_bl, x_fr_bl, x_fz_str, x_fr_str, x_fz_ty, x_fr_ty, x_fz_tup, x_fr_tup, x_fz_cst, x_fr_cst, x_fz_lst_false, x_fr_lst_false, x_fz_non, x_fr_non, x_fz_lt, x_fr_lt, x_fL0, x_fL1, x_cF, x_cR1, x_cR2, x_cR3, x_iL, x_iL1, x_iT, x_iT1, x_iS, x_iS1, x_iR1, x_iR11, x_iR2, x_iR21, x_iE, x_iE1, x_iV, x_iV1, x_iZ, x_iZ1, x_for, x_fo0, x_fo1, x_fo2, x_fo3, x_fo4, x_fo5, x_fo6, x_fo7, x_gT, x_gC, x_gC0, x_try, x_try1, x_try2, x_try3, x_try4, x_try5, x_nx1, x_nx2, x_try6, x_try7, x_nx3, x_nx4, x_app, x_app1, x_app2, x_lc, x_lcE, x_lc0, x_lc1, x_lcG, x_w0, x_w1, vMinL4, vMaxL4, vAll3, vAny3, vAll4, vAny4, x_wh1, x_wh2, x_wh0, x_abs, vI_ii, vI_ib, vI_it, vI_il, vI_is, vI_bb, vI_bi, vI_tt, vI_tl, vI_ti, vI_ll, vI_lt, vI_ss, vEqB, vNeB, x_ta, x_ta1, x_ta2, x_ta3, x_ta4, x_ta5, x_is, nc_0, nc_1, nc_2, nc_3, nc_4, nc_5, nc_6, nc_7, nc_8, nc_9, nc_10, nc_11, vMax2, vMin2, vIsN0, vIsN1, vNotN0, vNotN1, vIsN2, vNotN2, x_lo, x_lo1, x_lo2, vAll2, vAny2, x_sl, x_sl1, x_sl2, x_pn, x_ps, x_ps1, x_cutL, x_cutC, vEqS, vNeS, x_fz_obj, x_fr_obj, x_make, x_meth, x_meth2, x_meth3, x_isO, x_isO1, x_cat, x_cat1, x_methZ, x_methZ2, x_methZ3, x_callZ, x_callZ1, x_lend1, x_lend2, x_cl_int, x_cl_bl, x_cl_str, x_cl_non, x_cl_tup, x_cl0, x_cl1, x_cl_lst, x_setIx, x_setIx1, x_setIx2, Option.map_some, List.getD_cons_zero, List.getD_cons_succ, List.set_cons_zero, List.set_cons_succ, List.map_cons, List.map_nil, List.replicate_zero, List.replicate_succ, List.length_cons, List.length_nil, List.cons_append, List.nil_append, Option.bind_some, if_true, if_false, Bool.false_eq_true, Nat.reduceSub, Nat.reduceAdd, Nat.reduceLeDiff, Nat.reduceLT, vAdd, vSub, vLt, vLe, vGt, vGe, vNeg, vEq, vNe, vEq2, vNe2, vMod, vDiv, vMul, vPow, Int.reduceToNat, vIx0, vIx1, vLenT, vLenC, vLenL, reduceIte, decide_true, decide_false, Bool.not_true, Bool.not_false, beq_self_eq_true, Bool.and_true, Bool.true_and, Bool.and_self, Bool.and_false, Bool.false_and, vs, ho, e6]
      clear e6
      cases h7 : (k == 7) with
      | true =>
        simp (disch := decide) only [u__law_node_7, x_seq, x_seq1, x_seq2, x_seq3, x_seq4, x_seq5, x_seq6, x_nil, x_if, x_if1, x_if2, x_if3, x_ret, x_ret1, x_ret2, x_ret3, x_retN, x_asg, x_asg1, x_asg2, x_asg3, x_asg4, x_asg5, x_gN, x_drop, x_drop1, x_drop2, x_bk, x_ct, x_raise, x_tZ, x_tZ1, x_tZ2, x_tE, x_tE1, x_tE2, x_tE3, x_tAnd, x_tAnd1, x_tAnd2, x_tAnd3, x_tOr, x_tOr1, x_tOr2, x_tOr3, x_tNot, x_tNot1, x_tNot2, x_tNot3, x_tTrue, x_z2, x_z21, x_z1, x_z11, x_zC, x_zC1, x_za, x_za1, x_za0, x_zV, x_zK, x_ch, x_ch1, x_ch2, x_eZ, x_eZ1, x_eZ2, x_eV, x_eV1, x_eM, x_eM1, x_b1, x_b2, x_b3, x_s1, x_s2, x_s3, x_oO, x_oO2, x_e2, x_e1, x_eC, x_aN, x_aC, x_tup, x_lst, x_call, x_oC1, x_oC2, x_call0, x_call01, x_eAnd, x_eAnd1, x_eOr, x_eOr1, x_eNot, x_eNot1, x_eIf, x_eIf1, x_fz_int, x_fr_int, x_fz_bl, x_fr_bl, x_fz_str, x_fr_str, x_fz_ty, x_fr_ty, x_fz_tup, x_fr_tup, x_fz_cst, x_fr_cst, x_fz_lst_false, x_fr_lst_false, x_fz_non, x_fr_non, x_fz_lt, x_fr_lt, x_fL0, x_fL1, x_cF, x_cR1, x_cR2, x_cR3, x_iL, x_iL1, x_iT, x_iT1, x_iS, x_iS1, x_iR1, x_iR11, x_iR2, x_iR21, x_iE, x_iE1, x_iV, x_iV1, x_iZ, x_iZ1, x_for, x_fo0, x_fo1, x_fo2, x_fo3, x_fo4, x_fo5, x_fo6, x_fo7, x_gT, x_gC, x_gC0, x_try, x_try1, x_try2, x_try3, x_try4, x_try5, x_nx1, x_nx2, x_try6, x_try7, x_nx3, x_nx4, x_app, x_app1, x_app2, x_lc, x_lcE, x_lc0, x_lc1, x_lcG, x_w0, x_w1, vMinL4, vMaxL4, vAll3, vAny3, vAll4, vAny4, x_wh1, x_wh2, x_wh0, x_abs, vI_ii, vI_ib, vI_it, vI_il, vI_is, vI_bb, vI_bi, vI_tt, vI_tl, vI_ti, vI_ll, vI_lt, vI_ss, vEqB, vNeB, x_ta, x_ta1, x_ta2, x_ta3, x_ta4, x_ta5, x_is, nc_0, nc_1, nc_2, nc_3, nc_4, nc_5, nc_6, nc_7, nc_8, nc_9, nc_10, nc_11, vMax2, vMin2, vIsN0, vIsN1, vNotN0, vNotN1, vIsN2, vNotN2, x_lo, x_lo1, x_lo2, vAll2, vAny2, x_sl, x_sl1, x_sl2, x_pn, x_ps, x_ps1, x_cutL, x_cutC, vEqS, vNeS, x_fz_obj, x_fr_obj, x_make, x_meth, x_meth2, x_meth3, x_isO, x_isO1, x_cat, x_cat1, x_methZ, x_methZ2, x_methZ3, x_callZ, x_callZ1, x_lend1, x_lend2, x_cl_int, x_cl_bl, x_cl_str, x_cl_non, x_cl_tup, x_cl0, x_cl1, x_cl_lst, x_setIx, x_setIx1, x_setIx2, Option.map_some, List.getD_cons_zero, List.getD_cons_succ, List.set_cons_zero, List.set_cons_succ, List.map_cons, List.map_nil, List.replicate_zero, List.replicate_succ, List.length_cons, List.length_nil, List.cons_append, List.nil_append, Option.bind_some, if_true, if_false, Bool.false_eq_true, Nat.reduceSub, Nat.reduceAdd, Nat.reduceLeDiff, Nat.reduceLT, vAdd, vSub, vLt, vLe, vGt, vGe, vNeg, vEq, vNe, vEq2, vNe2, vMod, vDiv, vMul, vPow, Int.reduceToNat, vIx0, vIx1, vLenT, vLenC, vLenL, reduceIte, decide_true, decide_false, Bool.not_true, Bool.not_false, beq_self_eq_true, Bool.and_true, Bool.true_and, Bool.and_self, Bool.and_false, Bool.false_and, h7, vMul we]
        obtain ⟨r, hr, r0, r1⟩ : ∃ x, 2 + d * 69621 % 2147483629 % 5 = x ∧ 2 ≤ x ∧ x ≤ 6 := ⟨_, rfl, by omega, by omega⟩
        rw [hr]
        exact ⟨.pow i r, rfl, i0, i1, r0, r1⟩
      | false =>
        obtain ⟨w, ew, hw⟩ := ix_ptm (k % 3) (by omega)
        obtain ⟨r, hr⟩ : ∃ x, d * 48271 % 2147483647 = x := ⟨_, rfl⟩
        simp (disch := decide) only [u__law_node_7, u__law_node_8, x_seq, x_seq1, x_seq2, x_seq3, x_seq4, x_seq5, x_seq6, x_nil, x_if, x_if1, x_if2, x_if3, x_ret, x_ret1, x_ret2, x_ret3, x_retN, x_asg, x_asg1, x_asg2, x_asg3, x_asg4, x_asg5, x_gN, x_drop, x_drop1, x_drop2, x_bk, x_ct, x_raise, x_tZ, x_tZ1, x_tZ2, x_tE, x_tE1, x_tE2, x_tE3, x_tAnd, x_tAnd1, x_tAnd2, x_tAnd3, x_tOr, x_tOr1, x_tOr2, x_tOr3, x_tNot, x_tNot1, x_tNot2, x_tNot3, x_tTrue, x_z2, x_z21, x_z1, x_z11, x_zC, x_zC1, x_za, x_za1, x_za0, x_zV, x_zK, x_ch, x_ch1, x_ch2, x_eZ, x_eZ1, x_eZ2, x_eV, x_eV1, x_eM, x_eM1, x_b1, x_b2, x_b3, x_s1, x_s2, x_s3, x_oO, x_oO2, x_e2, x_e1, x_eC, x_aN, x_aC, x_tup, x_lst, x_call, x_oC1, x_oC2, x_call0, x_call01, x_eAnd, x_eAnd1, x_eOr, x_eOr1, x_eNot, x_eNot1, x_eIf, x_eIf1, x_fz_int, x_fr_int, x_fz_bl, x_fr_bl, x_fz_str, x_fr_str, x_fz_ty, x_fr_ty, x_fz_tup, x_fr_tup, x_fz_cst, x_fr_cst, x_fz_lst_false, x_fr_lst_false, x_fz_non, x_fr_non, x_fz_lt, x_fr_lt, x_fL0, x_fL1, x_cF, x_cR1, x_cR2, x_cR3, x_iL, x_iL1, x_iT, x_iT1, x_iS, x_iS1, x_iR1, x_iR11, x_iR2, x_iR21, x_iE, x_iE1, x_iV, x_iV1, x_iZ, x_iZ1, x_for, x_fo0, x_fo1, x_fo2, x_fo3, x_fo4, x_fo5, x_fo6, x_fo7, x_gT, x_gC, x_gC0, x_try, x_try1, x_try2, x_try3, x_try4, x_try5, x_nx1, x_nx2, x_try6, x_try7, x_nx3, x_nx4, x_app, x_app1, x_app2, x_lc, x_lcE, x_lc0, x_lc1, x_lcG, x_w0, x_w1, vMinL4, vMaxL4, vAll3, vAny3, vAll4, vAny4, x_wh1, x_wh2, x_wh0, x_abs, vI_ii, vI_ib, vI_it, vI_il, vI_is, vI_bb, vI_bi, vI_tt, vI_tl, vI_ti, vI_ll, vI_lt, vI_ss, vEqB, vNeB, x_ta, x_ta1, x_ta2, x_ta3, x_ta4, x_ta5, x_is, nc_0, nc_1, nc_2, nc_3, nc_4, nc_5, nc_6, nc_7, nc_8, nc_9, nc_10, nc_11, vMax2, vMin2, vIsN0, vIsN1, vNotN0, vNotN1, vIsN2, vNotN2, x_lo, x_lo1, x_lo2, vAll2, vAny2, x_sl, x_sl1, x_sl2, x_pn, x_ps, x_ps1, x_cutL, x_cutC, vEqS, vNeS, x_fz_obj, x_fr_obj, x_make, x_meth, x_meth2, x_meth3, x_isO, x_isO1, x_cat, x_cat1, x_methZ, x_methZ2, x_methZ3, x_callZ, x_callZ1, x_lend1, x_lend2, x_cl_int, x_cl_bl, x_cl_str, x_cl_non, x_cl_tup, x_cl0, x_cl1, x_cl_lst, x_setIx, x_setIx1, x_setIx2, Option.map_some, List.getD_cons_zero, List.getD_cons_succ, List.set_cons_zero, List.set_cons_succ, List.map_cons, List.map_nil, List.replicate_zero, List.replicate_succ, List.length_cons, List.length_nil, List.cons_append, List.nil_append, Option.bind_some, if_true, if_false, Bool.false_eq_true, Nat.reduceSub, Nat.reduceAdd, Nat.reduceLeDiff, Nat.reduceLT, vAdd, vSub, vLt, vLe, vGt, vGe, vNeg, vEq, vNe, vEq2, vNe2, vMod, vDiv, vMul, vPow, Int.reduceToNat, vIx0, vIx1, vLenT, vLenC, vLenL, reduceIte, decide_true, decide_false, Bool.not_true, Bool.not_false, beq_self_eq_true, Bool.and_true, Bool.true_and, Bool.and_self, Bool.and_false, Bool.false_and, h7, vMul wd, ew, hr, vs]
        have r0 := Int.emod_nonneg r (show s ≠ 0 by omega)
        have r1 := Int.emod_lt_of_pos r (show 0 < s by omega)
        rcases hw with rfl | rfl | rfl
        · exact ⟨.plus i (r % s), rfl, i0, i1, r0, r1⟩
        · exact ⟨.minus i (r % s), rfl, i0, i1, r0, r1⟩
        · exact ⟨.times i (r % s), rfl, i0, i1, r0, r1⟩
theorem node_ok0 (c m : Int) (m1 : 1 ≤ m) : ∃ n : Nd, f__law_node [.int c, .int 0, .int m] = .ok n.d ∧ n.B 0 m := by
  have hp : gPow (.int 10) (.int 40) = some (.int (10 ^ 40)) := rfl
  obtain ⟨c1, hc1⟩ : ∃ x, c % 10 ^ 40 = x := ⟨_, rfl⟩
  have hm : gMod (.int c) (.int (10 ^ 40)) = some (.int c1) := by rw [vMod (by decide), hc1]
  obtain ⟨k, hk⟩ : ∃ x, c1 % 8 = x := ⟨_, rfl⟩
  obtain ⟨d, hd⟩ : ∃ x, c1 / 8 = x := ⟨_, rfl⟩
  clear hc1
  have hs0 : ((0 : Int) == 0) = true := rfl
  have vm := fun y : Int => vMod (i := y) (j := m) (by omega)
  simp (disch := decide) only [f__law_node, m__law_node, u__law_node_1, u__law_node_2, u__law_node_3, x_seq, x_seq1, x_seq2, x_seq3, x_seq4, x_seq5, x_seq6, x_nil, x_if, x_if1, x_if2, x_if3, x_ret, x_ret1, x_ret2, x_ret3, x_retN, x_asg, x_asg1, x_asg2, x_asg3, x_asg4, x_asg5, x_gN, x_drop, x_drop1, x_drop2, x_bk, x_ct, x_raise, x_tZ, x_tZ1, x_tZ2, x_tE, x_tE1, x_tE2, x_tE3, x_tAnd, x_tAnd1, x_tAnd2, x_tAnd3, x_tOr, x_tOr1, x_tOr2, x_tOr3, x_tNot, x_tNot1, x_tNot2, x_tNot3, x_tTrue, x_z2, x_z21, x_z1, x_z11, x_zC, x_zC1, x_za, x_za1, x_za0, x_zV, x_zK, x_ch, x_ch1, x_ch2, x_eZ, x_eZ1, x_eZ2, x_eV, x_eV1, x_eM, x_eM1, x_b1, x_b2, x_b3, x_s1, x_s2, x_s3, x_oO, x_oO2, x_e2, x_e1, x_eC, x_aN, x_aC, x_tup, x_lst, x_call, x_oC1, x_oC2, x_call0, x_call01, x_eAnd, x_eAnd1, x_eOr, x_eOr1, x_eNot, x_eNot1, x_eIf, x_eIf1, x_fz_int, x_fr_int, x_fz_bl, x_fr_bl, x_fz_str, x_fr_str, x_fz_ty, x_fr_ty, x_fz_tup, x_fr_tup, x_fz_cst, x_fr_cst, x_fz_lst_false, x_fr_lst_false, x_fz_non, x_fr_non, x_fz_lt, x_fr_lt, x_fL0, x_fL1, x_cF, x_cR1, x_cR2, x_cR3, x_iL, x_iL1, x_iT, x_iT1, x_iS, x_iS1, x_iR1, x_iR11, x_iR2, x_iR21, x_iE, x_iE1, x_iV, x_iV1, x_iZ, x_iZ1, x_for, x_fo0, x_fo1, x_fo2, x_fo3, x_fo4, x_fo5, x_fo6, x_fo7, x_gT, x_gC, x_gC0, x_try, x_try1, x_try2, x_try3, x_try4, x_try5, x_nx1, x_nx2, x_try6, x_try7, x_nx3, x_nx4, x_app, x_app1, x_app2, x_lc, x_lcE, x_lc0, x_lc1, x_lcG, x_w0, x_w1, vMinL4, vMaxL4, vAll3, vAny3, vAll4, vAny4, x_wh1, x_wh2, x_wh0, x_abs, vI_ii, vI_ib, vI_it, vI_il, vI_is, vI_bb, vI_bi, vI_tt, vI_tl, vI_ti, vI_ll, vI_lt, vI_ss, vEqB, vNeB, x_ta, x_ta1, x_ta2, x_ta3, x_ta4, x_ta5, x_is, nc_0, nc_1, nc_2, nc_3, nc_4, nc_5, nc_6, nc_7, nc_8, nc_9, nc_10, nc_11, vMax2, vMin2, vIsN0, vIsN1, vNotN0, vNotN1, vIsN2, vNotN2, x_lo, x_lo1, x_lo2, vAll2, vAny2, x_sl, x_sl1, x_sl2, x_pn, x_ps, x_ps1, x_cutL, x_cutC, vEqS, vNeS, x_fz_obj, x_fr_obj, x_make, x_meth, x_meth2, x_meth3, x_isO, x_isO1, x_cat, x_cat1, x_methZ, x_methZ2, x_methZ3, x_callZ, x_callZ1, x_lend1, x_lend2, x_cl_int, x_cl_bl, x_cl_str, x_cl_non, x_cl_tup, x_cl0, x_cl1, x_cl_lst, x_setIx, x_setIx1, x_setIx2, Option.map_some, List.getD_cons_zero, List.getD_cons_succ, List.set_cons_zero, List.set_cons_succ, List.map_cons, List.map_nil, List.replicate_zero, List.replicate_succ, List.length_cons, List.length_nil, List.cons_append, List.nil_append, Option.bind_some, if_true, if_false, Bool.false_eq_true, Nat.reduceSub, Nat.reduceAdd, Nat.reduceLeDiff, Nat.reduceLT, vAdd, vSub, vLt, vLe, vGt, vGe, vNeg, vEq, vNe, vEq2, vNe2, vMod, vDiv, vMul, vPow, Int.reduceToNat, vIx0, vIx1, vLenT, vLenC, vLenL, reduceIte, decide_true, decide_false, Bool.not_true, Bool.not_false, beq_self_eq_true, Bool.and_true, Bool.true_and, Bool.and_self, Bool.and_false, Bool.false_and, hp, hm, hk, hd]
  cases h0 : (k == 0) with
  | true =>
    obtain ⟨p, q, e, q1, g, pa, qa⟩ := numb_ok d
    simp only [x_seq, x_seq1, x_seq2, x_seq3, x_seq4, x_seq5, x_seq6, x_nil, x_if, x_if1, x_if2, x_if3, x_ret, x_ret1, x_ret2, x_ret3, x_retN, x_asg, x_asg1, x_asg2, x_asg3, x_asg4, x_asg5, x_gN, x_drop, x_drop1, x_drop2, x_bk, x_ct, x_raise, x_tZ, x_tZ1, x_tZ2, x_tE, x_tE1, x_tE2, x_tE3, x_tAnd, x_tAnd1, x_tAnd2, x_tAnd3, x_tOr, x_tOr1, x_tOr2, x_tOr3, x_tNot, x_tNot1, x_tNot2, x_tNot3, x_tTrue, x_z2, x_z21, x_z1, x_z11, x_zC, x_zC1, x_za, x_za1, x_za0, x_zV, x_zK, x_ch, x_ch1, x_ch2, x_eZ, x_eZ1, x_eZ2, x_eV, x_eV1, x_eM, x_eM1, x_b1, x_b2, x_b3, x_s1, x_s2, x_s3, x_oO, x_oO2, x_e2, x_e1, x_eC, x_aN, x_aC, x_tup, x_lst, x_call, x_oC1, x_oC2, x_call0, x_call01, x_eAnd, x_eAnd1, x_eOr, x_eOr1, x_eNot, x_eNot1, x_eIf, x_eIf1, x_fz_int, x_fr_int, x_fz_bl, x_fr_bl, x_fz_str, x_fr_str, x_fz_ty, x_fr_ty, x_fz_tup, x_fr_tup, x_fz_cst, x_fr_cst, x_fz_lst_false, x_fr_lst_false, x_fz_non, x_fr_non, x_fz_lt, x_fr_lt, x_fL0, x_fL1, x_cF, x_cR1, x_cR2, x_cR3, x_iL, x_iL1, x_iT, x_iT1, x_iS, x_iS1, x_iR1, x_iR11, x_iR2, x_iR21, x_iE, x_iE1, x_iV, x_iV1, x_iZ, x_iZ1, x_for, x_fo0, x_fo1, x_fo2, x_fo3, x_fo4, x_fo5, x_fo6, x_fo7, x_gT, x_gC, x_gC0, x_try, x_try1, x_try2, x_try3, x_try4, x_try5, x_nx1, x_nx2, x_try6, x_try7, x_nx3, x_nx4, x_app, x_app1, x_app2, x_lc, x_lcE, x_lc0, x_lc1, x_lcG, x_w0, x_w1, vMinL4, vMaxL4, vAll3, vAny3, vAll4, vAny4, x_wh1, x_wh2, x_wh0, x_abs, vI_ii, vI_ib, vI_it, vI_il, vI_is, vI_bb, vI_bi, vI_tt, vI_tl, vI_ti, vI_ll, vI_lt, vI_ss, vEqB, vNeB, x_ta, x_ta1, x_ta2, x_ta3, x_ta4, x_ta5, x_is, nc_0, nc_1, nc_2, nc_3, nc_4, nc_5, nc_6, nc_7, nc_8, nc_9, nc_10, nc_11, vMax2, vMin2, vIsN0, vIsN1, vNotN0, vNotN1, vIsN2, vNotN2, x_lo, x_lo1, x_lo2, vAll2, vAny2, x_sl, x_sl1, x_sl2, x_pn, x_ps, x_ps1, x_cutL, x_cutC, vEqS, vNeS, x_fz_obj, x_fr_obj, x_make, x_meth, x_meth2, x_meth3, x_isO, x_isO1, x_cat, x_cat1, x_methZ, x_methZ2, x_methZ3, x_callZ, x_callZ1, x_lend1, x_lend2, x_cl_int, x_cl_bl, x_cl_str, x_cl_non, x_cl_tup, x_cl0, x_cl1, x_cl_lst, x_setIx, x_setIx1, x_setIx2, Option.map_some, List.getD_cons_zero, List.getD_cons_succ, List.set_cons_zero, List.set_cons_succ, List.map_cons, List.map_nil, List.replicate_zero, List.replicate_succ, List.length_cons, List.length_nil, List.cons_append, List.nil_append, Option.bind_some, if_true, if_false, Bool.false_eq_true, Nat.reduceSub, Nat.reduceAdd, Nat.reduceLeDiff, Nat.reduceLT, vAdd, vSub, vLt, vLe, vGt, vGe, vNeg, vEq, vNe, vEq2, vNe2, vMod, vDiv, vMul, vPow, Int.reduceToNat, vIx0, vIx1, vLenT, vLenC, vLenL, reduceIte, decide_true, decide_false, Bool.not_true, Bool.not_false, beq_self_eq_true, Bool.and_true, Bool.true_and, Bool.and_self, Bool.and_false, Bool.false_and, e]
    exact ⟨.num p q, rfl, q1, g, pa, qa⟩
  | false =>
    simp (disch := decide) only [u__law_node_4, x_seq, x_seq1, x_seq2, x_seq3, x_seq4, x_seq5, x_seq6, x_nil, x_if, x_if1, x_if2, x_if3, x_ret, x_ret1, x_ret2, x_ret3, x_retN, x_asg, x_asg1, x_asg2, x_asg3, x_asg4, x_asg5, x_gN, x_drop, x_drop1, x_drop2, x_bk, x_ct, x_raise, x_tZ, x_tZ1, x_tZ2, x_tE, x_tE1, x_tE2, x_tE3, x_tAnd, x_tAnd1, x_tAnd2, x_tAnd3, x_tOr, x_tOr1, x_tOr2, x_tOr3, x_tNot, x_tNot1, x_tNot2, x_tNot3, x_tTrue, x_z2, x_z21, x_z1, x_z11, x_zC, x_zC1, x_za, x_za1, x_za0, x_zV, x_zK, x_ch, x_ch1, x_ch2, x_eZ, x_eZ1, x_eZ2, x_eV, x_eV1, x_eM, x_eM1, x_b1, x_b2, x_b3, x_s1, x_s2, x_s3, x_oO, x_oO2, x_e2, x_e1, x_eC, x_aN, x_aC, x_tup, x_lst, x_call, x_oC1, x_oC2, x_call0, x_call01, x_eAnd, x_eAnd1, x_eOr, x_eOr1, x_eNot, x_eNot1, x_eIf, x_eIf1, x_fz_int, x_fr_int, x_fz_bl, x_fr_bl, x_fz_str, x_fr_str, x_fz_ty, x_fr_ty, x_fz_tup, x_fr_tup, x_fz_cst, x_fr_cst, x_fz_lst_false, x_fr_lst_false, x_fz_non, x_fr_non, x_fz_lt, x_fr_lt, x_fL0, x_fL1, x_cF, x_cR1, x_cR2, x_cR3, x_iL, x_iL1, x_iT, x_iT1, x_iS, x_iS1, x_iR1, x_iR11, x_iR2, x_iR21, x_iE, x_iE1, x_iV, x_iV1, x_iZ, x_iZ1, x_for, x_fo0, x_fo1, x_fo2, x_fo3, x_fo4, x_fo5, x_fo6, x_fo7, x_gT, x_gC, x_gC0, x_try, x_try1, x_try2, x_try3, x_try4, x_try5, x_nx1, x_nx2, x_try6, x_try7, x_nx3, x_nx4, x_app, x_app1, x_app2, x_lc, x_lcE, x_lc0, x_lc1, x_lcG, x_w0, x_w1, vMinL4, vMaxL4, vAll3, vAny3, vAll4, vAny4, x_wh1, x_wh2, x_wh0, x_abs, vI_ii, vI_ib, vI_it, vI_il, vI_is, vI_bb, vI_bi, vI_tt, vI_tl, vI_ti, vI_ll, vI_lt, vI_ss, vEqB, vNeB, x_ta, x_ta1, x_ta2, x_ta3, x_ta4, x_ta5, x_is, nc_0, nc_1, nc_2, nc_3, nc_4, nc_5, nc_6, nc_7, nc_8, nc_9, nc_10, nc_11, vMax2, vMin2, vIsN0, vIsN1, vNotN0, vNotN1, vIsN2, vNotN2, x_lo, x_lo1, x_lo2, vAll2, vAny2, x_sl, x_sl1, x_sl2, x_pn, x_ps, x_ps1, x_cutL, x_cutC, vEqS, vNeS, x_fz_obj, x_fr_obj, x_make, x_meth, x_meth2, x_meth3, x_isO, x_isO1, x_cat, x_cat1, x_methZ, x_methZ2, x_methZ3, x_callZ, x_callZ1, x_lend1, x_lend2, x_cl_int, x_cl_bl, x_cl_str, x_cl_non, x_cl_tup, x_cl0, x_cl1, x_cl_lst, x_setIx, x_setIx1, x_setIx2, Option.map_some, List.getD_cons_zero, List.getD_cons_succ, List.set_cons_zero, List.set_cons_succ, List.map_cons, List.map_nil, List.replicate_zero, List.replicate_succ, List.length_cons, List.length_nil, List.cons_append, List.nil_append, Option.bind_some, if_true, if_false, Bool.false_eq_true, Nat.reduceSub, Nat.reduceAdd, Nat.reduceLeDiff, Nat.reduceLT, vAdd, vSub, vLt, vLe, vGt, vGe, vNeg, vEq, vNe, vEq2, vNe2, vMod, vDiv, vMul, vPow, Int.reduceToNat, vIx0, vIx1, vLenT, vLenC, vLenL, reduceIte, decide_true, decide_false, Bool.not_true, Bool.not_false, beq_self_eq_true, Bool.and_true, Bool.true_and, Bool.and_self, Bool.and_false, Bool.false_and, hs0, vm]
    cases h1 : (k == 1) with
    | true =>
      simp only [x_seq, x_seq1, x_seq2, x_seq3, x_seq4, x_seq5, x_seq6, x_nil, x_if, x_if1, x_if2, x_if3, x_ret, x_ret1, x_ret2, x_ret3, x_retN, x_asg, x_asg1, x_asg2, x_asg3, x_asg4, x_asg5, x_gN, x_drop, x_drop1, x_drop2, x_bk, x_ct, x_raise, x_tZ, x_tZ1, x_tZ2, x_tE, x_tE1, x_tE2, x_tE3, x_tAnd, x_tAnd1, x_tAnd2, x_tAnd3, x_tOr, x_tOr1, x_tOr2, x_tOr3, x_tNot, x_tNot1, x_tNot2, x_tNot3, x_tTrue, x_z2, x_z21, x_z1, x_z11, x_zC, x_zC1, x_za, x_za1, x_za0, x_zV, x_zK, x_ch, x_ch1, x_ch2, x_eZ, x_eZ1, x_eZ2, x_eV, x_eV1, x_eM, x_eM1, x_b1, x_b2, x_b3, x_s1, x_s2, x_s3, x_oO, x_oO2, x_e2, x_e1, x_eC, x_aN, x_aC, x_tup, x_lst, x_call, x_oC1, x_oC2, x_call0, x_call01, x_eAnd, x_eAnd1, x_eOr, x_eOr1, x_eNot, x_eNot1, x_eIf, x_eIf1, x_fz_int, x_fr_int, x_fz_bl, x_fr_bl, x_fz_str, x_fr_str, x_fz_ty, x_fr_ty, x_fz_tup, x_fr_tup, x_fz_cst, x_fr_cst, x_fz_lst_false, x_fr_lst_false, x_fz_non, x_fr_non, x_fz_lt, x_fr_lt, x_fL0, x_fL1, x_cF, x_cR1, x_cR2, x_cR3, x_iL, x_iL1, x_iT, x_iT1, x_iS, x_iS1, x_iR1, x_iR11, x_iR2, x_iR21, x_iE, x_iE1, x_iV, x_iV1, x_iZ, x_iZ1, x_for, x_fo0, x_fo1, x_fo2, x_fo3, x_fo4, x_fo5, x_fo6, x_fo7, x_gT, x_gC, x_gC0, x_try, x_try1, x_try2, x_try3, x_try4, x_try5, x_nx1, x_nx2, x_try6, x_try7, x_nx3, x_nx4, x_app, x_app1, x_app2, x_lc, x_lcE, x_lc0, x_lc1, x_lcG, x_w0, x_w1, vMinL4, vMaxL4, vAll3, vAny3, vAll4, vAny4, x_wh1, x_wh2, x_wh0, x_abs, vI_ii, vI_ib, vI_it, vI_il, vI_is, vI_bb, vI_bi, vI_tt, vI_tl, vI_ti, vI_ll, vI_lt, vI_ss, vEqB, vNeB, x_ta, x_ta1, x_ta2, x_ta3, x_ta4, x_ta5, x_is, nc_0, nc_1, nc_2, nc_3, nc_4, nc_5, nc_6, nc_7, nc_8, nc_9, nc_10, nc_11, vMax2, vMin2, vIsN0, vIsN1, vNotN0, vNotN1, vIsN2, vNotN2, x_lo, x_lo1, x_lo2, vAll2, vAny2, x_sl, x_sl1, x_sl2, x_pn, x_ps, x_ps1, x_cutL, x_cutC, vEqS, vNeS, x_fz_obj, x_fr_obj, x_make, x_meth, x_meth2, x_meth3, x_isO, x_isO1, x_cat, x_cat1, x_methZ, x_methZ2, x_methZ3, x_callZ, x_callZ1, x_lend1, x_lend2, x_cl_int, x_cl_bl, x_cl_str, x_cl_non, x_cl_tup, x_cl0, x_cl1, x_cl_lst, x_setIx, x_setIx1, x_setIx2, Option.map_some, List.getD_cons_zero, List.getD_cons_succ, List.set_cons_zero, List.set_cons_succ, List.map_cons, List.map_nil, List.replicate_zero, List.replicate_succ, List.length_cons, List.length_nil, List.cons_append, List.nil_append, Option.bind_some, if_true, if_false, Bool.false_eq_true, Nat.reduceSub, Nat.reduceAdd, Nat.reduceLeDiff, Nat.reduceLT, vAdd, vSub, vLt, vLe, vGt, vGe, vNeg, vEq, vNe, vEq2, vNe2, vMod, vDiv, vMul, vPow, Int.reduceToNat, vIx0, vIx1, vLenT, vLenC, vLenL, reduceIte, decide_true, decide_false, Bool.not_true, Bool.not_false, beq_self_eq_true, Bool.and_true, Bool.true_and, Bool.and_self, Bool.and_false, Bool.false_and, vm]
      exact ⟨.unk (d % m), rfl, Int.emod_nonneg d (by omega), Int.emod_lt_of_pos d (by omega)⟩
    | false =>
      simp only [x_seq, x_seq1, x_seq2, x_seq3, x_seq4, x_seq5, x_seq6, x_nil, x_if, x_if1, x_if2, x_if3, x_ret, x_ret1, x_ret2, x_ret3, x_retN, x_asg, x_asg1, x_asg2, x_asg3, x_asg4, x_asg5, x_gN, x_drop, x_drop1, x_drop2, x_bk, x_ct, x_raise, x_tZ, x_tZ1, x_tZ2, x_tE, x_tE1, x_tE2, x_tE3, x_tAnd, x_tAnd1, x_tAnd2, x_tAnd3, x_tOr, x_tOr1, x_tOr2, x_tOr3, x_tNot, x_tNot1, x_tNot2, x_tNot3, x_tTrue, x_z2, x_z21, x_z1, x_z11, x_zC, x_zC1, x_za, x_za1, x_za0, x_zV, x_zK, x_ch, x_ch1, x_ch2, x_eZ, x_eZ1, x_eZ2, x_eV, x_eV1, x_eM, x_eM1, x_b1, x_b2, x_b3, x_s1, x_s2, x_s3, x_oO, x_oO2, x_e2, x_e1, x_eC, x_aN, x_aC, x_tup, x_lst, x_call, x_oC1, x_oC2, x_call0, x_call01, x_eAnd, x_eAnd1, x_eOr, x_eOr1, x_eNot, x_eNot1, x_eIf, x_eIf1, x_fz_int, x_fr_int, x_fz_bl, x_fr_bl, x_fz_str, x_fr_str, x_fz_ty, x_fr_ty, x_fz_tup, x_fr_tup, x_fz_cst, x_fr_cst, x_fz_lst_false, x_fr_lst_false, x_fz_non, x_fr_non, x_fz_lt, x_fr_lt, x_fL0, x_fL1, x_cF, x_cR1, x_cR2, x_cR3, x_iL, x_iL1, x_iT, x_iT1, x_iS, x_iS1, x_iR1, x_iR11, x_iR2, x_iR21, x_iE, x_iE1, x_iV, x_iV1, x_iZ, x_iZ1, x_for, x_fo0, x_fo1, x_fo2, x_fo3, x_fo4, x_fo5, x_fo6, x_fo7, x_gT, x_gC, x_gC0, x_try, x_try1, x_try2, x_try3, x_try4, x_try5, x_nx1, x_nx2, x_try6, x_try7, x_nx3, x_nx4, x_app, x_app1, x_app2, x_lc, x_lcE, x_lc0, x_lc1, x_lcG, x_w0, x_w1, vMinL4, vMaxL4, vAll3, vAny3, vAll4, vAny4, x_wh1, x_wh2, x_wh0, x_abs, vI_ii, vI_ib, vI_it, vI_il, vI_is, vI_bb, vI_bi, vI_tt, vI_tl, vI_ti, vI_ll, vI_lt, vI_ss, vEqB, vNeB, x_ta, x_ta1, x_ta2, x_ta3, x_ta4, x_ta5, x_is, nc_0, nc_1, nc_2, nc_3, nc_4, nc_5, nc_6, nc_7, nc_8, nc_9, nc_10, nc_11, vMax2, vMin2, vIsN0, vIsN1, vNotN0, vNotN1, vIsN2, vNotN2, x_lo, x_lo1, x_lo2, vAll2, vAny2, x_sl, x_sl1, x_sl2, x_pn, x_ps, x_ps1, x_cutL, x_cutC, vEqS, vNeS, x_fz_obj, x_fr_obj, x_make, x_meth, x_meth2, x_meth3, x_isO, x_isO1, x_cat, x_cat1, x_methZ, x_methZ2, x_methZ3, x_callZ, x_callZ1, x_lend1, x_lend2, x_cl_int, x_cl_bl, x_cl_str, x_cl_non, x_cl_tup, x_cl0, x_cl1, x_cl_lst, x_setIx, x_setIx1, x_setIx2, Option.map_some, List.getD_cons_zero, List.getD_cons_succ, List.set_cons_zero, List.set_cons_succ, List.map_cons, List.map_nil, List.replicate_zero, List.replicate_succ, List.length_cons, List.length_nil, List.cons_append, List.nil_append, Option.bind_some, if_true, if_false, Bool.false_eq_true, Nat.reduceSub, Nat.reduceAdd, Nat.reduceLeDiff, Nat.reduceLT, vAdd, vSub, vLt, vLe, vGt, vGe, vNeg, vEq, vNe, vEq2, vNe2, vMod, vDiv, vMul, vPow, Int.reduceToNat, vIx0, vIx1, vLenT, vLenC, vLenL, reduceIte, decide_true, decide_false, Bool.not_true, Bool.not_false, beq_self_eq_true, Bool.and_true, Bool.true_and, Bool.and_self, Bool.and_false, Bool.false_and, vm, hs0]
      exact ⟨.unk (d % m), rfl, Int.emod_nonneg d (by omega), Int.emod_lt_of_pos d (by omega)⟩
theorem node_okA (c s m : Int) (s0 : 0 ≤ s) (m1 : 1 ≤ m) : ∃ n : Nd, f__law_node [.int c, .int s, .int m] = .ok n.d ∧ n.B s m := by
  by_cases h : s = 0
  · subst h; exact node_ok0 c m m1
  · exact node_ok c s m (by omega) m1
theorem Nd.ok (n : Nd) : Bn.Ok 1 n.d := by
  have k1 : PySem.PyData.strOk "number" = true := by decide +kernel
  have k2 : PySem.PyData.strOk "unknown" = true := by decide +kernel
  have k3 : PySem.PyData.strOk "power" = true := by decide +kernel
  have k4 : PySem.PyData.strOk "plus" = true := by decide +kernel
  have k5 : PySem.PyData.strOk "minus" = true := by decide +kernel
  have k6 : PySem.PyData.strOk "times" = true := by decide +kernel
  cases n <;> refine ok_tup fun x hx => ?_ <;> simp only [List.mem_cons, List.not_mem_nil, or_false] at hx
  · rcases hx with rfl | rfl | rfl
    · exact ok_str k1
    · exact ok_int _
    · exact ok_int _
  · rcases hx with rfl | rfl
    · exact ok_str k2
    · exact ok_int _
  · rcases hx with rfl | rfl | rfl
    · exact ok_str k3
    · exact ok_int _
    · exact ok_int _
  · rcases hx with rfl | rfl | rfl
    · exact ok_str k4
    · exact ok_int _
    · exact ok_int _
  · rcases hx with rfl | rfl | rfl
    · exact ok_str k5
    · exact ok_int _
    · exact ok_int _
  · rcases hx with rfl | rfl | rfl
    · exact ok_str k6
    · exact ok_int _
    · exact ok_int _
theorem nds_Ok (ns : List Nd) (b : Bool) : Bn.Ok 2 (.lst b (ns.map Nd.d)) := ok_lst fun d hd => by
  obtain ⟨n, _, rfl⟩ := List.mem_map.mp hd
  exact n.ok
theorem nds_fz (ns : List Nd) : freezeL (ns.map Nd.d) = ns.map Nd.d := fz_map (fun n => n.fr) ns
theorem we_number_number : gEq (.str "number") (.str "number") = some (.bl true) := vEqS (by decide +kernel) (by decide +kernel)
theorem we_number_unknown : gEq (.str "number") (.str "unknown") = some (.bl false) := vEqS (by decide +kernel) (by decide +kernel)
theorem we_number_power : gEq (.str "number") (.str "power") = some (.bl false) := vEqS (by decide +kernel) (by decide +kernel)
theorem we_number_plus : gEq (.str "number") (.str "plus") = some (.bl false) := vEqS (by decide +kernel) (by decide +kernel)
theorem we_number_minus : gEq (.str "number") (.str "minus") = some (.bl false) := vEqS (by decide +kernel) (by decide +kernel)
theorem we_number_times : gEq (.str "number") (.str "times") = some (.bl false) := vEqS (by decide +kernel) (by decide +kernel)
theorem we_unknown_number : gEq (.str "unknown") (.str "number") = some (.bl false) := vEqS (by decide +kernel) (by decide +kernel)
theorem we_unknown_unknown : gEq (.str "unknown") (.str "unknown") = some (.bl true) := vEqS (by decide +kernel) (by decide +kernel)
theorem we_unknown_power : gEq (.str "unknown") (.str "power") = some (.bl false) := vEqS (by decide +kernel) (by decide +kernel)
theorem we_unknown_plus : gEq (.str "unknown") (.str "plus") = some (.bl false) := vEqS (by decide +kernel) (by decide +kernel)
theorem we_unknown_minus : gEq (.str "unknown") (.str "minus") = some (.bl false) := vEqS (by decide +kernel) (by decide +kernel)
theorem we_unknown_times : gEq (.str "unknown") (.str "times") = some (.bl false) := vEqS (by decide +kernel) (by decide +kernel)
theorem we_power_number : gEq (.str "power") (.str "number") = some (.bl false) := vEqS (by decide +kernel) (by decide +kernel)
theorem we_power_unknown : gEq (.str "power") (.str "unknown") = some (.bl false) := vEqS (by decide +kernel) (by decide +kernel)
theorem we_power_power : gEq (.str "power") (.str "power") = some (.bl true) := vEqS (by decide +kernel) (by decide +kernel)
theorem we_power_plus : gEq (.str "power") (.str "plus") = some (.bl false) := vEqS (by decide +kernel) (by decide +kernel)
theorem we_power_minus : gEq (.str "power") (.str "minus") = some (.bl false) := vEqS (by decide +kernel) (by decide +kernel)
theorem we_power_times : gEq (.str "power") (.str "times") = some (.bl false) := vEqS (by decide +kernel) (by decide +kernel)
theorem we_plus_number : gEq (.str "plus") (.str "number") = some (.bl false) := vEqS (by decide +kernel) (by decide +kernel)
theorem we_plus_unknown : gEq (.str "plus") (.str "unknown") = some (.bl false) := vEqS (by decide +kernel) (by decide +kernel)
theorem we_plus_power : gEq (.str "plus") (.str "power") = some (.bl false) := vEqS (by decide +kernel) (by decide +kernel)
theorem we_plus_plus : gEq (.str "plus") (.str "plus") = some (.bl true) := vEqS (by decide +kernel) (by decide +kernel)
theorem we_plus_minus : gEq (.str "plus") (.str "minus") = some (.bl false) := vEqS (by decide +kernel) (by decide +kernel)
theorem we_plus_times : gEq (.str "plus") (.str "times") = some (.bl false) := vEqS (by decide +kernel) (by decide +kernel)
theorem we_minus_number : gEq (.str "minus") (.str "number") = some (.bl false) := vEqS (by decide +kernel) (by decide +kernel)
theorem we_minus_unknown : gEq (.str "minus") (.str "unknown") = some (.bl false) := vEqS (by decide +kernel) (by decide +kernel)
theorem we_minus_power : gEq (.str "minus") (.str "power") = some (.bl false) := vEqS (by decide +kernel) (by decide +kernel)
theorem we_minus_plus : gEq (.str "minus") (.str "plus") = some (.bl false) := vEqS (by decide +kernel) (by decide +kernel)
theorem we_minus_minus : gEq (.str "minus") (.str "minus") = some (.bl true) := vEqS (by decide +kernel) (by decide +kernel)
theorem we_minus_times : gEq (.str "minus") (.str "times") = some (.bl false) := vEqS (by decide +kernel) (by decide +kernel)
theorem we_times_number : gEq (.str "times") (.str "number") = some (.bl false) := vEqS (by decide +kernel) (by decide +kernel)
theorem we_times_unknown : gEq (.str "times") (.str "unknown") = some (.bl false) := vEqS (by decide +kernel) (by decide +kernel)
theorem we_times_power : gEq (.str "times") (.str "power") = some (.bl false) := vEqS (by decide +kernel) (by decide +kernel)
theorem we_times_plus : gEq (.str "times") (.str "plus") = some (.bl false) := vEqS (by decide +kernel) (by decide +kernel)
theorem we_times_minus : gEq (.str "times") (.str "minus") = some (.bl false) := vEqS (by decide +kernel) (by decide +kernel)
theorem we_times_times : gEq (.str "times") (.str "times") = some (.bl true) := vEqS (by decide +kernel) (by decide +kernel)
theorem kind_ok (n : Nd) : f_kind_of [n.d] = .ok n.o := by
  cases n <;> simp (disch := decide) only [Nd.d, Nd.o, vIxT2, f_kind_of, m_kind_of, x_seq, x_seq1, x_seq2, x_seq3, x_seq4, x_seq5, x_seq6, x_nil, x_if, x_if1, x_if2, x_if3, x_ret, x_ret1, x_ret2, x_ret3, x_retN, x_asg, x_asg1, x_asg2, x_asg3, x_asg4, x_asg5, x_gN, x_drop, x_drop1, x_drop2, x_bk, x_ct, x_raise, x_tZ, x_tZ1, x_tZ2, x_tE, x_tE1, x_tE2, x_tE3, x_tAnd, x_tAnd1, x_tAnd2, x_tAnd3, x_tOr, x_tOr1, x_tOr2, x_tOr3, x_tNot, x_tNot1, x_tNot2, x_tNot3, x_tTrue, x_z2, x_z21, x_z1, x_z11, x_zC, x_zC1, x_za, x_za1, x_za0, x_zV, x_zK, x_ch, x_ch1, x_ch2, x_eZ, x_eZ1, x_eZ2, x_eV, x_eV1, x_eM, x_eM1, x_b1, x_b2, x_b3, x_s1, x_s2, x_s3, x_oO, x_oO2, x_e2, x_e1, x_eC, x_aN, x_aC, x_tup, x_lst, x_call, x_oC1, x_oC2, x_call0, x_call01, x_eAnd, x_eAnd1, x_eOr, x_eOr1, x_eNot, x_eNot1, x_eIf, x_eIf1, x_fz_int, x_fr_int, x_fz_bl, x_fr_bl, x_fz_str, x_fr_str, x_fz_ty, x_fr_ty, x_fz_tup, x_fr_tup, x_fz_cst, x_fr_cst, x_fz_lst_false, x_fr_lst_false, x_fz_non, x_fr_non, x_fz_lt, x_fr_lt, x_fL0, x_fL1, x_cF, x_cR1, x_cR2, x_cR3, x_iL, x_iL1, x_iT, x_iT1, x_iS, x_iS1, x_iR1, x_iR11, x_iR2, x_iR21, x_iE, x_iE1, x_iV, x_iV1, x_iZ, x_iZ1, x_for, x_fo0, x_fo1, x_fo2, x_fo3, x_fo4, x_fo5, x_fo6, x_fo7, x_gT, x_gC, x_gC0, x_try, x_try1, x_try2, x_try3, x_try4, x_try5, x_nx1, x_nx2, x_try6, x_try7, x_nx3, x_nx4, x_app, x_app1, x_app2, x_lc, x_lcE, x_lc0, x_lc1, x_lcG, x_w0, x_w1, vMinL4, vMaxL4, vAll3, vAny3, vAll4, vAny4, x_wh1, x_wh2, x_wh0, x_abs, vI_ii, vI_ib, vI_it, vI_il, vI_is, vI_bb, vI_bi, vI_tt, vI_tl, vI_ti, vI_ll, vI_lt, vI_ss, vEqB, vNeB, x_ta, x_ta1, x_ta2, x_ta3, x_ta4, x_ta5, x_is, nc_0, nc_1, nc_2, nc_3, nc_4, nc_5, nc_6, nc_7, nc_8, nc_9, nc_10, nc_11, vMax2, vMin2, vIsN0, vIsN1, vNotN0, vNotN1, vIsN2, vNotN2, x_lo, x_lo1, x_lo2, vAll2, vAny2, x_sl, x_sl1, x_sl2, x_pn, x_ps, x_ps1, x_cutL, x_cutC, vEqS, vNeS, x_fz_obj, x_fr_obj, x_make, x_meth, x_meth2, x_meth3, x_isO, x_isO1, x_cat, x_cat1, x_methZ, x_methZ2, x_methZ3, x_callZ, x_callZ1, x_lend1, x_lend2, x_cl_int, x_cl_bl, x_cl_str, x_cl_non, x_cl_tup, x_cl0, x_cl1, x_cl_lst, x_setIx, x_setIx1, x_setIx2, Option.map_some, List.getD_cons_zero, List.getD_cons_succ, List.set_cons_zero, List.set_cons_succ, List.map_cons, List.map_nil, List.replicate_zero, List.replicate_succ, List.length_cons, List.length_nil, List.cons_append, List.nil_append, Option.bind_some, if_true, if_false, Bool.false_eq_true, Nat.reduceSub, Nat.reduceAdd, Nat.reduceLeDiff, Nat.reduceLT, vAdd, vSub, vLt, vLe, vGt, vGe, vNeg, vEq, vNe, vEq2, vNe2, vMod, vDiv, vMul, vPow, Int.reduceToNat, vIx0, vIx1, vLenT, vLenC, vLenL, reduceIte, decide_true, decide_false, Bool.not_true, Bool.not_false, beq_self_eq_true, Bool.and_true, Bool.true_and, Bool.and_self, Bool.and_false, Bool.false_and, we_number_number, we_number_unknown, we_number_power, we_number_plus, we_number_minus, we_number_times, we_unknown_number, we_unknown_unknown, we_unknown_power, we_unknown_plus, we_unknown_minus, we_unknown_times, we_power_number, we_power_unknown, we_power_power, we_power_plus, we_power_minus, we_power_times, we_plus_number, we_plus_unknown, we_plus_power, we_plus_plus, we_plus_minus, we_plus_times, we_minus_number, we_minus_unknown, we_minus_power, we_minus_plus, we_minus_minus, we_minus_times, we_times_number, we_times_unknown, we_times_power, we_times_plus, we_times_minus, we_times_times]
theorem made_ok (n : Nd) (b : Bool) : f__law_made [n.d, .bl b] = .ok n.o := by
  cases b with
  | false => simp only [f__law_made, m__law_made, x_seq, x_seq1, x_seq2, x_seq3, x_seq4, x_seq5, x_seq6, x_nil, x_if, x_if1, x_if2, x_if3, x_ret, x_ret1, x_ret2, x_ret3, x_retN, x_asg, x_asg1, x_asg2, x_asg3, x_asg4, x_asg5, x_gN, x_drop, x_drop1, x_drop2, x_bk, x_ct, x_raise, x_tZ, x_tZ1, x_tZ2, x_tE, x_tE1, x_tE2, x_tE3, x_tAnd, x_tAnd1, x_tAnd2, x_tAnd3, x_tOr, x_tOr1, x_tOr2, x_tOr3, x_tNot, x_tNot1, x_tNot2, x_tNot3, x_tTrue, x_z2, x_z21, x_z1, x_z11, x_zC, x_zC1, x_za, x_za1, x_za0, x_zV, x_zK, x_ch, x_ch1, x_ch2, x_eZ, x_eZ1, x_eZ2, x_eV, x_eV1, x_eM, x_eM1, x_b1, x_b2, x_b3, x_s1, x_s2, x_s3, x_oO, x_oO2, x_e2, x_e1, x_eC, x_aN, x_aC, x_tup, x_lst, x_call, x_oC1, x_oC2, x_call0, x_call01, x_eAnd, x_eAnd1, x_eOr, x_eOr1, x_eNot, x_eNot1, x_eIf, x_eIf1, x_fz_int, x_fr_int, x_fz_bl, x_fr_bl, x_fz_str, x_fr_str, x_fz_ty, x_fr_ty, x_fz_tup, x_fr_tup, x_fz_cst, x_fr_cst, x_fz_lst_false, x_fr_lst_false, x_fz_non, x_fr_non, x_fz_lt, x_fr_lt, x_fL0, x_fL1, x_cF, x_cR1, x_cR2, x_cR3, x_iL, x_iL1, x_iT, x_iT1, x_iS, x_iS1, x_iR1, x_iR11, x_iR2, x_iR21, x_iE, x_iE1, x_iV, x_iV1, x_iZ, x_iZ1, x_for, x_fo0, x_fo1, x_fo2, x_fo3, x_fo4, x_fo5, x_fo6, x_fo7, x_gT, x_gC, x_gC0, x_try, x_try1, x_try2, x_try3, x_try4, x_try5, x_nx1, x_nx2, x_try6, x_try7, x_nx3, x_nx4, x_app, x_app1, x_app2, x_lc, x_lcE, x_lc0, x_lc1, x_lcG, x_w0, x_w1, vMinL4, vMaxL4, vAll3, vAny3, vAll4, vAny4, x_wh1, x_wh2, x_wh0, x_abs, vI_ii, vI_ib, vI_it, vI_il, vI_is, vI_bb, vI_bi, vI_tt, vI_tl, vI_ti, vI_ll, vI_lt, vI_ss, vEqB, vNeB, x_ta, x_ta1, x_ta2, x_ta3, x_ta4, x_ta5, x_is, nc_0, nc_1, nc_2, nc_3, nc_4, nc_5, nc_6, nc_7, nc_8, nc_9, nc_10, nc_11, vMax2, vMin2, vIsN0, vIsN1, vNotN0, vNotN1, vIsN2, vNotN2, x_lo, x_lo1, x_lo2, vAll2, vAny2, x_sl, x_sl1, x_sl2, x_pn, x_ps, x_ps1, x_cutL, x_cutC, vEqS, vNeS, x_fz_obj, x_fr_obj, x_make, x_meth, x_meth2, x_meth3, x_isO, x_isO1, x_cat, x_cat1, x_methZ, x_methZ2, x_methZ3, x_callZ, x_callZ1, x_lend1, x_lend2, x_cl_int, x_cl_bl, x_cl_str, x_cl_non, x_cl_tup, x_cl0, x_cl1, x_cl_lst, x_setIx, x_setIx1, x_setIx2, Option.map_some, List.getD_cons_zero, List.getD_cons_succ, List.set_cons_zero, List.set_cons_succ, List.map_cons, List.map_nil, List.replicate_zero, List.replicate_succ, List.length_cons, List.length_nil, List.cons_append, List.nil_append, Option.bind_some, if_true, if_false, Bool.false_eq_true, Nat.reduceSub, Nat.reduceAdd, Nat.reduceLeDiff, Nat.reduceLT, vAdd, vSub, vLt, vLe, vGt, vGe, vNeg, vEq, vNe, vEq2, vNe2, vMod, vDiv, vMul, vPow, Int.reduceToNat, vIx0, vIx1, vLenT, vLenC, vLenL, reduceIte, decide_true, decide_false, Bool.not_true, Bool.not_false, beq_self_eq_true, Bool.and_true, Bool.true_and, Bool.and_self, Bool.and_false, Bool.false_and, Nd.fz, Nd.fr, kind_ok]
  | true =>
    simp only [f__law_made, m__law_made, x_seq, x_seq1, x_seq2, x_seq3, x_seq4, x_seq5, x_seq6, x_nil, x_if, x_if1, x_if2, x_if3, x_ret, x_ret1, x_ret2, x_ret3, x_retN, x_asg, x_asg1, x_asg2, x_asg3, x_asg4, x_asg5, x_gN, x_drop, x_drop1, x_drop2, x_bk, x_ct, x_raise, x_tZ, x_tZ1, x_tZ2, x_tE, x_tE1, x_tE2, x_tE3, x_tAnd, x_tAnd1, x_tAnd2, x_tAnd3, x_tOr, x_tOr1, x_tOr2, x_tOr3, x_tNot, x_tNot1, x_tNot2, x_tNot3, x_tTrue, x_z2, x_z21, x_z1, x_z11, x_zC, x_zC1, x_za, x_za1, x_za0, x_zV, x_zK, x_ch, x_ch1, x_ch2, x_eZ, x_eZ1, x_eZ2, x_eV, x_eV1, x_eM, x_eM1, x_b1, x_b2, x_b3, x_s1, x_s2, x_s3, x_oO, x_oO2, x_e2, x_e1, x_eC, x_aN, x_aC, x_tup, x_lst, x_call, x_oC1, x_oC2, x_call0, x_call01, x_eAnd, x_eAnd1, x_eOr, x_eOr1, x_eNot, x_eNot1, x_eIf, x_eIf1, x_fz_int, x_fr_int, x_fz_bl, x_fr_bl, x_fz_str, x_fr_str, x_fz_ty, x_fr_ty, x_fz_tup, x_fr_tup, x_fz_cst, x_fr_cst, x_fz_lst_false, x_fr_lst_false, x_fz_non, x_fr_non, x_fz_lt, x_fr_lt, x_fL0, x_fL1, x_cF, x_cR1, x_cR2, x_cR3, x_iL, x_iL1, x_iT, x_iT1, x_iS, x_iS1, x_iR1, x_iR11, x_iR2, x_iR21, x_iE, x_iE1, x_iV, x_iV1, x_iZ, x_iZ1, x_for, x_fo0, x_fo1, x_fo2, x_fo3, x_fo4, x_fo5, x_fo6, x_fo7, x_gT, x_gC, x_gC0, x_try, x_try1, x_try2, x_try3, x_try4, x_try5, x_nx1, x_nx2, x_try6, x_try7, x_nx3, x_nx4, x_app, x_app1, x_app2, x_lc, x_lcE, x_lc0, x_lc1, x_lcG, x_w0, x_w1, vMinL4, vMaxL4, vAll3, vAny3, vAll4, vAny4, x_wh1, x_wh2, x_wh0, x_abs, vI_ii, vI_ib, vI_it, vI_il, vI_is, vI_bb, vI_bi, vI_tt, vI_tl, vI_ti, vI_ll, vI_lt, vI_ss, vEqB, vNeB, x_ta, x_ta1, x_ta2, x_ta3, x_ta4, x_ta5, x_is, nc_0, nc_1, nc_2, nc_3, nc_4, nc_5, nc_6, nc_7, nc_8, nc_9, nc_10, nc_11, vMax2, vMin2, vIsN0, vIsN1, vNotN0, vNotN1, vIsN2, vNotN2, x_lo, x_lo1, x_lo2, vAll2, vAny2, x_sl, x_sl1, x_sl2, x_pn, x_ps, x_ps1, x_cutL, x_cutC, vEqS, vNeS, x_fz_obj, x_fr_obj, x_make, x_meth, x_meth2, x_meth3, x_isO, x_isO1, x_cat, x_cat1, x_methZ, x_methZ2, x_methZ3, x_callZ, x_callZ1, x_lend1, x_lend2, x_cl_int, x_cl_bl, x_cl_str, x_cl_non, x_cl_tup, x_cl0, x_cl1, x_cl_lst, x_setIx, x_setIx1, x_setIx2, Option.map_some, List.getD_cons_zero, List.getD_cons_succ, List.set_cons_zero, List.set_cons_succ, List.map_cons, List.map_nil, List.replicate_zero, List.replicate_succ, List.length_cons, List.length_nil, List.cons_append, List.nil_append, Option.bind_some, if_true, if_false, Bool.false_eq_true, Nat.reduceSub, Nat.reduceAdd, Nat.reduceLeDiff, Nat.reduceLT, vAdd, vSub, vLt, vLe, vGt, vGe, vNeg, vEq, vNe, vEq2, vNe2, vMod, vDiv, vMul, vPow, Int.reduceToNat, vIx0, vIx1, vLenT, vLenC, vLenL, reduceIte, decide_true, decide_false, Bool.not_true, Bool.not_false, beq_self_eq_true, Bool.and_true, Bool.true_and, Bool.and_self, Bool.and_false, Bool.false_and, Nd.fz, Nd.fr]
    cases n <;> simp (disch := decide) only [Nd.d, Nd.o, vIxT2, u__law_made_1, u__law_made_2, u__law_made_3, u__law_made_4, u__law_made_5, u__law_made_6, x_seq, x_seq1, x_seq2, x_seq3, x_seq4, x_seq5, x_seq6, x_nil, x_if, x_if1, x_if2, x_if3, x_ret, x_ret1, x_ret2, x_ret3, x_retN, x_asg, x_asg1, x_asg2, x_asg3, x_asg4, x_asg5, x_gN, x_drop, x_drop1, x_drop2, x_bk, x_ct, x_raise, x_tZ, x_tZ1, x_tZ2, x_tE, x_tE1, x_tE2, x_tE3, x_tAnd, x_tAnd1, x_tAnd2, x_tAnd3, x_tOr, x_tOr1, x_tOr2, x_tOr3, x_tNot, x_tNot1, x_tNot2, x_tNot3, x_tTrue, x_z2, x_z21, x_z1, x_z11, x_zC, x_zC1, x_za, x_za1, x_za0, x_zV, x_zK, x_ch, x_ch1, x_ch2, x_eZ, x_eZ1, x_eZ2, x_eV, x_eV1, x_eM, x_eM1, x_b1, x_b2, x_b3, x_s1, x_s2, x_s3, x_oO, x_oO2, x_e2, x_e1, x_eC, x_aN, x_aC, x_tup, x_lst, x_call, x_oC1, x_oC2, x_call0, x_call01, x_eAnd, x_eAnd1, x_eOr, x_eOr1, x_eNot, x_eNot1, x_eIf, x_eIf1, x_fz_int, x_fr_int, x_fz_bl, x_fr_bl, x_fz_str, x_fr_str, x_fz_ty, x_fr_ty, x_fz_tup, x_fr_tup, x_fz_cst, x_fr_cst, x_fz_lst_false, x_fr_lst_false, x_fz_non, x_fr_non, x_fz_lt, x_fr_lt, x_fL0, x_fL1, x_cF, x_cR1, x_cR2, x_cR3, x_iL, x_iL1, x_iT, x_iT1, x_iS, x_iS1, x_iR1, x_iR11, x_iR2, x_iR21, x_iE, x_iE1, x_iV, x_iV1, x_iZ, x_iZ1, x_for, x_fo0, x_fo1, x_fo2, x_fo3, x_fo4, x_fo5, x_fo6, x_fo7, x_gT, x_gC, x_gC0, x_try, x_try1, x_try2, x_try3, x_try4, x_try5, x_nx1, x_nx2, x_try6, x_try7, x_nx3, x_nx4, x_app, x_app1, x_app2, x_lc, x_lcE, x_lc0, x_lc1, x_lcG, x_w0, x_w1, vMinL4, vMaxL4, vAll3, vAny3, vAll4, vAny4, x_wh1, x_wh2, x_wh0, x_abs, vI_ii, vI_ib, vI_it, vI_il, vI_is, vI_bb, vI_bi, vI_tt, vI_tl, vI_ti, vI_ll, vI_lt, vI_ss, vEqB, vNeB, x_ta, x_ta1, x_ta2, x_ta3, x_ta4, x_ta5, x_is, nc_0, nc_1, nc_2, nc_3, nc_4, nc_5, nc_6, nc_7, nc_8, nc_9, nc_10, nc_11, vMax2, vMin2, vIsN0, vIsN1, vNotN0, vNotN1, vIsN2, vNotN2, x_lo, x_lo1, x_lo2, vAll2, vAny2, x_sl, x_sl1, x_sl2, x_pn, x_ps, x_ps1, x_cutL, x_cutC, vEqS, vNeS, x_fz_obj, x_fr_obj, x_make, x_meth, x_meth2, x_meth3, x_isO, x_isO1, x_cat, x_cat1, x_methZ, x_methZ2, x_methZ3, x_callZ, x_callZ1, x_lend1, x_lend2, x_cl_int, x_cl_bl, x_cl_str, x_cl_non, x_cl_tup, x_cl0, x_cl1, x_cl_lst, x_setIx, x_setIx1, x_setIx2, Option.map_some, List.getD_cons_zero, List.getD_cons_succ, List.set_cons_zero, List.set_cons_succ, List.map_cons, List.map_nil, List.replicate_zero, List.replicate_succ, List.length_cons, List.length_nil, List.cons_append, List.nil_append, Option.bind_some, if_true, if_false, Bool.false_eq_true, Nat.reduceSub, Nat.reduceAdd, Nat.reduceLeDiff, Nat.reduceLT, vAdd, vSub, vLt, vLe, vGt, vGe, vNeg, vEq, vNe, vEq2, vNe2, vMod, vDiv, vMul, vPow, Int.reduceToNat, vIx0, vIx1, vLenT, vLenC, vLenL, reduceIte, decide_true, decide_false, Bool.not_true, Bool.not_false, beq_self_eq_true, Bool.and_true, Bool.true_and, Bool.and_self, Bool.and_false, Bool.false_and, we_number_number, we_number_unknown, we_number_power, we_number_plus, we_number_minus, we_number_times, we_unknown_number, we_unknown_unknown, we_unknown_power, we_unknown_plus, we_unknown_minus, we_unknown_times, we_power_number, we_power_unknown, we_power_power, we_power_plus, we_power_minus, we_power_times, we_plus_number, we_plus_unknown, we_plus_power, we_plus_plus, we_plus_minus, we_plus_times, we_minus_number, we_minus_unknown, we_minus_power, we_minus_plus, we_minus_minus, we_minus_times, we_times_number, we_times_unknown, we_times_power, we_times_plus, we_times_minus, we_times_times]
theorem plus_forth {S B : List D} {m m' : Bool} {i j g a b c d : Int} (e1 : ∀ m, gIx (.lst m S) (.int i) = some (.tup [.int a, .int b])) (e2 : ∀ m, gIx (.lst m S) (.int j) = some (.tup [.int c, .int d])) : f__law_forth [(Nd.plus i j).d, .lst m S, .lst m' B, .int g] = .ok (.tup [.int (a + c), .int (b + d)]) := by
  cases m <;> cases m' <;> simp (disch := decide) only [Nd.d, vIxT2, we_plus_number, we_plus_unknown, we_plus_power, we_plus_plus, f__law_forth, m__law_forth, u__law_forth_1, u__law_forth_2, u__law_forth_3, u__law_forth_4, u__law_forth_5, x_seq, x_seq1, x_seq2, x_seq3, x_seq4, x_seq5, x_seq6, x_nil, x_if, x_if1, x_if2, x_if3, x_ret, x_ret1, x_ret2, x_ret3, x_retN, x_asg, x_asg1, x_asg2, x_asg3, x_asg4, x_asg5, x_gN, x_drop, x_drop1, x_drop2, x_bk, x_ct, x_raise, x_tZ, x_tZ1, x_tZ2, x_tE, x_tE1, x_tE2, x_tE3, x_tAnd, x_tAnd1, x_tAnd2, x_tAnd3, x_tOr, x_tOr1, x_tOr2, x_tOr3, x_tNot, x_tNot1, x_tNot2, x_tNot3, x_tTrue, x_z2, x_z21, x_z1, x_z11, x_zC, x_zC1, x_za, x_za1, x_za0, x_zV, x_zK, x_ch, x_ch1, x_ch2, x_eZ, x_eZ1, x_eZ2, x_eV, x_eV1, x_eM, x_eM1, x_b1, x_b2, x_b3, x_s1, x_s2, x_s3, x_oO, x_oO2, x_e2, x_e1, x_eC, x_aN, x_aC, x_tup, x_lst, x_call, x_oC1, x_oC2, x_call0, x_call01, x_eAnd, x_eAnd1, x_eOr, x_eOr1, x_eNot, x_eNot1, x_eIf, x_eIf1, x_fz_int, x_fr_int, x_fz_bl, x_fr_bl, x_fz_str, x_fr_str, x_fz_ty, x_fr_ty, x_fz_tup, x_fr_tup, x_fz_cst, x_fr_cst, x_fz_lst_false, x_fr_lst_false, x_fz_non, x_fr_non, x_fz_lt, x_fr_lt, x_fL0, x_fL1, x_cF, x_cR1, x_cR2, x_cR3, x_iL, x_iL1, x_iT, x_iT1, x_iS, x_iS1, x_iR1, x_iR11, x_iR2, x_iR21, x_iE, x_iE1, x_iV, x_iV1, x_iZ, x_iZ1, x_for, x_fo0, x_fo1, x_fo2, x_fo3, x_fo4, x_fo5, x_fo6, x_fo7, x_gT, x_gC, x_gC0, x_try, x_try1, x_try2, x_try3, x_try4, x_try5, x_nx1, x_nx2, x_try6, x_try7, x_nx3, x_nx4, x_app, x_app1, x_app2, x_lc, x_lcE, x_lc0, x_lc1, x_lcG, x_w0, x_w1, vMinL4, vMaxL4, vAll3, vAny3, vAll4, vAny4, x_wh1, x_wh2, x_wh0, x_abs, vI_ii, vI_ib, vI_it, vI_il, vI_is, vI_bb, vI_bi, vI_tt, vI_tl, vI_ti, vI_ll, vI_lt, vI_ss, vEqB, vNeB, x_ta, x_ta1, x_ta2, x_ta3, x_ta4, x_ta5, x_is, nc_0, nc_1, nc_2, nc_3, nc_4, nc_5, nc_6, nc_7, nc_8, nc_9, nc_10, nc_11, vMax2, vMin2, vIsN0, vIsN1, vNotN0, vNotN1, vIsN2, vNotN2, x_lo, x_lo1, x_lo2, vAll2, vAny2, x_sl, x_sl1, x_sl2, x_pn, x_ps, x_ps1, x_cutL, x_cutC, vEqS, vNeS, x_fz_obj, x_fr_obj, x_make, x_meth, x_meth2, x_meth3, x_isO, x_isO1, x_cat, x_cat1, x_methZ, x_methZ2, x_methZ3, x_callZ, x_callZ1, x_lend1, x_lend2, x_cl_int, x_cl_bl, x_cl_str, x_cl_non, x_cl_tup, x_cl0, x_cl1, x_cl_lst, x_setIx, x_setIx1, x_setIx2, Option.map_some, List.getD_cons_zero, List.getD_cons_succ, List.set_cons_zero, List.set_cons_succ, List.map_cons, List.map_nil, List.replicate_zero, List.replicate_succ, List.length_cons, List.length_nil, List.cons_append, List.nil_append, Option.bind_some, if_true, if_false, Bool.false_eq_true, Nat.reduceSub, Nat.reduceAdd, Nat.reduceLeDiff, Nat.reduceLT, vAdd, vSub, vLt, vLe, vGt, vGe, vNeg, vEq, vNe, vEq2, vNe2, vMod, vDiv, vMul, vPow, Int.reduceToNat, vIx0, vIx1, vLenT, vLenC, vLenL, reduceIte, decide_true, decide_false, Bool.not_true, Bool.not_false, beq_self_eq_true, Bool.and_true, Bool.true_and, Bool.and_self, Bool.and_false, Bool.false_and, e1, e2]
theorem minus_forth {S B : List D} {m m' : Bool} {i j g a b c d : Int} (e1 : ∀ m, gIx (.lst m S) (.int i) = some (.tup [.int a, .int b])) (e2 : ∀ m, gIx (.lst m S) (.int j) = some (.tup [.int c, .int d])) : f__law_forth [(Nd.minus i j).d, .lst m S, .lst m' B, .int g] = .ok (.tup [.int (a - d), .int (b - c)]) := by
  cases m <;> cases m' <;> simp (disch := decide) only [Nd.d, vIxT2, we_minus_number, we_minus_unknown, we_minus_power, we_minus_plus, we_minus_minus, f__law_forth, m__law_forth, u__law_forth_1, u__law_forth_2, u__law_forth_3, u__law_forth_4, u__law_forth_5, u__law_forth_6, x_seq, x_seq1, x_seq2, x_seq3, x_seq4, x_seq5, x_seq6, x_nil, x_if, x_if1, x_if2, x_if3, x_ret, x_ret1, x_ret2, x_ret3, x_retN, x_asg, x_asg1, x_asg2, x_asg3, x_asg4, x_asg5, x_gN, x_drop, x_drop1, x_drop2, x_bk, x_ct, x_raise, x_tZ, x_tZ1, x_tZ2, x_tE, x_tE1, x_tE2, x_tE3, x_tAnd, x_tAnd1, x_tAnd2, x_tAnd3, x_tOr, x_tOr1, x_tOr2, x_tOr3, x_tNot, x_tNot1, x_tNot2, x_tNot3, x_tTrue, x_z2, x_z21, x_z1, x_z11, x_zC, x_zC1, x_za, x_za1, x_za0, x_zV, x_zK, x_ch, x_ch1, x_ch2, x_eZ, x_eZ1, x_eZ2, x_eV, x_eV1, x_eM, x_eM1, x_b1, x_b2, x_b3, x_s1, x_s2, x_s3, x_oO, x_oO2, x_e2, x_e1, x_eC, x_aN, x_aC, x_tup, x_lst, x_call, x_oC1, x_oC2, x_call0, x_call01, x_eAnd, x_eAnd1, x_eOr, x_eOr1, x_eNot, x_eNot1, x_eIf, x_eIf1, x_fz_int, x_fr_int, x_fz_bl, x_fr_bl, x_fz_str, x_fr_str, x_fz_ty, x_fr_ty, x_fz_tup, x_fr_tup, x_fz_cst, x_fr_cst, x_fz_lst_false, x_fr_lst_false, x_fz_non, x_fr_non, x_fz_lt, x_fr_lt, x_fL0, x_fL1, x_cF, x_cR1, x_cR2, x_cR3, x_iL, x_iL1, x_iT, x_iT1, x_iS, x_iS1, x_iR1, x_iR11, x_iR2, x_iR21, x_iE, x_iE1, x_iV, x_iV1, x_iZ, x_iZ1, x_for, x_fo0, x_fo1, x_fo2, x_fo3, x_fo4, x_fo5, x_fo6, x_fo7, x_gT, x_gC, x_gC0, x_try, x_try1, x_try2, x_try3, x_try4, x_try5, x_nx1, x_nx2, x_try6, x_try7, x_nx3, x_nx4, x_app, x_app1, x_app2, x_lc, x_lcE, x_lc0, x_lc1, x_lcG, x_w0, x_w1, vMinL4, vMaxL4, vAll3, vAny3, vAll4, vAny4, x_wh1, x_wh2, x_wh0, x_abs, vI_ii, vI_ib, vI_it, vI_il, vI_is, vI_bb, vI_bi, vI_tt, vI_tl, vI_ti, vI_ll, vI_lt, vI_ss, vEqB, vNeB, x_ta, x_ta1, x_ta2, x_ta3, x_ta4, x_ta5, x_is, nc_0, nc_1, nc_2, nc_3, nc_4, nc_5, nc_6, nc_7, nc_8, nc_9, nc_10, nc_11, vMax2, vMin2, vIsN0, vIsN1, vNotN0, vNotN1, vIsN2, vNotN2, x_lo, x_lo1, x_lo2, vAll2, vAny2, x_sl, x_sl1, x_sl2, x_pn, x_ps, x_ps1, x_cutL, x_cutC, vEqS, vNeS, x_fz_obj, x_fr_obj, x_make, x_meth, x_meth2, x_meth3, x_isO, x_isO1, x_cat, x_cat1, x_methZ, x_methZ2, x_methZ3, x_callZ, x_callZ1, x_lend1, x_lend2, x_cl_int, x_cl_bl, x_cl_str, x_cl_non, x_cl_tup, x_cl0, x_cl1, x_cl_lst, x_setIx, x_setIx1, x_setIx2, Option.map_some, List.getD_cons_zero, List.getD_cons_succ, List.set_cons_zero, List.set_cons_succ, List.map_cons, List.map_nil, List.replicate_zero, List.replicate_succ, List.length_cons, List.length_nil, List.cons_append, List.nil_append, Option.bind_some, if_true, if_false, Bool.false_eq_true, Nat.reduceSub, Nat.reduceAdd, Nat.reduceLeDiff, Nat.reduceLT, vAdd, vSub, vLt, vLe, vGt, vGe, vNeg, vEq, vNe, vEq2, vNe2, vMod, vDiv, vMul, vPow, Int.reduceToNat, vIx0, vIx1, vLenT, vLenC, vLenL, reduceIte, decide_true, decide_false, Bool.not_true, Bool.not_false, beq_self_eq_true, Bool.and_true, Bool.true_and, Bool.and_self, Bool.and_false, Bool.false_and, e1, e2]
def addS (a b : Int × Int) : Int × Int := (a.1 + b.1, a.2 + b.2)
def subS (a b : Int × Int) : Int × Int := (a.1 - b.2, a.2 - b.1)
def pt (ss : List (Int × Int)) (i : Int) : Int × Int := ss.getD i.toNat (0, 0)
theorem ix_pt {ss : List (Int × Int)} {i : Int} (i0 : 0 ≤ i) (i1 : i < ss.length) (m : Bool) : gIx (.lst m (ss.map spD)) (.int i) = some (spD (pt ss i)) := by
  have hk : i.toNat < ss.length := by omega
  have e : i = (i.toNat : Nat) := by omega
  unfold pt
  rw [List.getD_eq_getElem?_getD, List.getElem?_eq_getElem hk, vIxL_of e (d := spD ss[i.toNat]) (by rw [List.getElem?_map, List.getElem?_eq_getElem hk]; rfl)]
  rfl
theorem pt_mem {ss : List (Int × Int)} {i : Int} (i0 : 0 ≤ i) (i1 : i < ss.length) : pt ss i ∈ ss := by
  have hk : i.toNat < ss.length := by omega
  unfold pt
  rw [List.getD_eq_getElem?_getD, List.getElem?_eq_getElem hk]
  exact List.getElem_mem hk
/-- what two spans have in common -/
def mt (p q : Int × Int) : Option (Int × Int) := if mxI p.1 q.1 ≤ mnI p.2 q.2 then some (mxI p.1 q.1, mnI p.2 q.2) else none
def oD : Option (Int × Int) → D
  | none => .non
  | some p => spD p
theorem mt_le {p q r : Int × Int} (h : mt p q = some r) : r.1 ≤ r.2 := by
  unfold mt at h
  split at h
  · cases h; assumption
  · cases h
theorem common_ok (p q : Int × Int) : f_common [spD p, spD q] = .ok (oD (mt p q)) ∧ f__law_meet [spD p, spD q] = .ok (oD (mt p q)) := by
  obtain ⟨a, b⟩ := p
  obtain ⟨c, d⟩ := q
  unfold mt
  simp only
  by_cases h : mxI a c ≤ mnI b d
  · have h1 : decide (mnI b d < mxI a c) = false := decide_eq_false (by omega)
    rw [if_pos h]
    constructor
    · simp (disch := decide) only [spD, oD, f_common, m_common, x_seq, x_seq1, x_seq2, x_seq3, x_seq4, x_seq5, x_seq6, x_nil, x_if, x_if1, x_if2, x_if3, x_ret, x_ret1, x_ret2, x_ret3, x_retN, x_asg, x_asg1, x_asg2, x_asg3, x_asg4, x_asg5, x_gN, x_drop, x_drop1, x_drop2, x_bk, x_ct, x_raise, x_tZ, x_tZ1, x_tZ2, x_tE, x_tE1, x_tE2, x_tE3, x_tAnd, x_tAnd1, x_tAnd2, x_tAnd3, x_tOr, x_tOr1, x_tOr2, x_tOr3, x_tNot, x_tNot1, x_tNot2, x_tNot3, x_tTrue, x_z2, x_z21, x_z1, x_z11, x_zC, x_zC1, x_za, x_za1, x_za0, x_zV, x_zK, x_ch, x_ch1, x_ch2, x_eZ, x_eZ1, x_eZ2, x_eV, x_eV1, x_eM, x_eM1, x_b1, x_b2, x_b3, x_s1, x_s2, x_s3, x_oO, x_oO2, x_e2, x_e1, x_eC, x_aN, x_aC, x_tup, x_lst, x_call, x_oC1, x_oC2, x_call0, x_call01, x_eAnd, x_eAnd1, x_eOr, x_eOr1, x_eNot, x_eNot1, x_eIf, x_eIf1, x_fz_int, x_fr_int, x_fz_bl, x_fr_bl, x_fz_str, x_fr_str, x_fz_ty, x_fr_ty, x_fz_tup, x_fr_tup, x_fz_cst, x_fr_cst, x_fz_lst_false, x_fr_lst_false, x_fz_non, x_fr_non, x_fz_lt, x_fr_lt, x_fL0, x_fL1, x_cF, x_cR1, x_cR2, x_cR3, x_iL, x_iL1, x_iT, x_iT1, x_iS, x_iS1, x_iR1, x_iR11, x_iR2, x_iR21, x_iE, x_iE1, x_iV, x_iV1, x_iZ, x_iZ1, x_for, x_fo0, x_fo1, x_fo2, x_fo3, x_fo4, x_fo5, x_fo6, x_fo7, x_gT, x_gC, x_gC0, x_try, x_try1, x_try2, x_try3, x_try4, x_try5, x_nx1, x_nx2, x_try6, x_try7, x_nx3, x_nx4, x_app, x_app1, x_app2, x_lc, x_lcE, x_lc0, x_lc1, x_lcG, x_w0, x_w1, vMinL4, vMaxL4, vAll3, vAny3, vAll4, vAny4, x_wh1, x_wh2, x_wh0, x_abs, vI_ii, vI_ib, vI_it, vI_il, vI_is, vI_bb, vI_bi, vI_tt, vI_tl, vI_ti, vI_ll, vI_lt, vI_ss, vEqB, vNeB, x_ta, x_ta1, x_ta2, x_ta3, x_ta4, x_ta5, x_is, nc_0, nc_1, nc_2, nc_3, nc_4, nc_5, nc_6, nc_7, nc_8, nc_9, nc_10, nc_11, vMax2, vMin2, vIsN0, vIsN1, vNotN0, vNotN1, vIsN2, vNotN2, x_lo, x_lo1, x_lo2, vAll2, vAny2, x_sl, x_sl1, x_sl2, x_pn, x_ps, x_ps1, x_cutL, x_cutC, vEqS, vNeS, x_fz_obj, x_fr_obj, x_make, x_meth, x_meth2, x_meth3, x_isO, x_isO1, x_cat, x_cat1, x_methZ, x_methZ2, x_methZ3, x_callZ, x_callZ1, x_lend1, x_lend2, x_cl_int, x_cl_bl, x_cl_str, x_cl_non, x_cl_tup, x_cl0, x_cl1, x_cl_lst, x_setIx, x_setIx1, x_setIx2, Option.map_some, List.getD_cons_zero, List.getD_cons_succ, List.set_cons_zero, List.set_cons_succ, List.map_cons, List.map_nil, List.replicate_zero, List.replicate_succ, List.length_cons, List.length_nil, List.cons_append, List.nil_append, Option.bind_some, if_true, if_false, Bool.false_eq_true, Nat.reduceSub, Nat.reduceAdd, Nat.reduceLeDiff, Nat.reduceLT, vAdd, vSub, vLt, vLe, vGt, vGe, vNeg, vEq, vNe, vEq2, vNe2, vMod, vDiv, vMul, vPow, Int.reduceToNat, vIx0, vIx1, vLenT, vLenC, vLenL, reduceIte, decide_true, decide_false, Bool.not_true, Bool.not_false, beq_self_eq_true, Bool.and_true, Bool.true_and, Bool.and_self, Bool.and_false, Bool.false_and, h1]
    · simp (disch := decide) only [spD, oD, f__law_meet, m__law_meet, x_seq, x_seq1, x_seq2, x_seq3, x_seq4, x_seq5, x_seq6, x_nil, x_if, x_if1, x_if2, x_if3, x_ret, x_ret1, x_ret2, x_ret3, x_retN, x_asg, x_asg1, x_asg2, x_asg3, x_asg4, x_asg5, x_gN, x_drop, x_drop1, x_drop2, x_bk, x_ct, x_raise, x_tZ, x_tZ1, x_tZ2, x_tE, x_tE1, x_tE2, x_tE3, x_tAnd, x_tAnd1, x_tAnd2, x_tAnd3, x_tOr, x_tOr1, x_tOr2, x_tOr3, x_tNot, x_tNot1, x_tNot2, x_tNot3, x_tTrue, x_z2, x_z21, x_z1, x_z11, x_zC, x_zC1, x_za, x_za1, x_za0, x_zV, x_zK, x_ch, x_ch1, x_ch2, x_eZ, x_eZ1, x_eZ2, x_eV, x_eV1, x_eM, x_eM1, x_b1, x_b2, x_b3, x_s1, x_s2, x_s3, x_oO, x_oO2, x_e2, x_e1, x_eC, x_aN, x_aC, x_tup, x_lst, x_call, x_oC1, x_oC2, x_call0, x_call01, x_eAnd, x_eAnd1, x_eOr, x_eOr1, x_eNot, x_eNot1, x_eIf, x_eIf1, x_fz_int, x_fr_int, x_fz_bl, x_fr_bl, x_fz_str, x_fr_str, x_fz_ty, x_fr_ty, x_fz_tup, x_fr_tup, x_fz_cst, x_fr_cst, x_fz_lst_false, x_fr_lst_false, x_fz_non, x_fr_non, x_fz_lt, x_fr_lt, x_fL0, x_fL1, x_cF, x_cR1, x_cR2, x_cR3, x_iL, x_iL1, x_iT, x_iT1, x_iS, x_iS1, x_iR1, x_iR11, x_iR2, x_iR21, x_iE, x_iE1, x_iV, x_iV1, x_iZ, x_iZ1, x_for, x_fo0, x_fo1, x_fo2, x_fo3, x_fo4, x_fo5, x_fo6, x_fo7, x_gT, x_gC, x_gC0, x_try, x_try1, x_try2, x_try3, x_try4, x_try5, x_nx1, x_nx2, x_try6, x_try7, x_nx3, x_nx4, x_app, x_app1, x_app2, x_lc, x_lcE, x_lc0, x_lc1, x_lcG, x_w0, x_w1, vMinL4, vMaxL4, vAll3, vAny3, vAll4, vAny4, x_wh1, x_wh2, x_wh0, x_abs, vI_ii, vI_ib, vI_it, vI_il, vI_is, vI_bb, vI_bi, vI_tt, vI_tl, vI_ti, vI_ll, vI_lt, vI_ss, vEqB, vNeB, x_ta, x_ta1, x_ta2, x_ta3, x_ta4, x_ta5, x_is, nc_0, nc_1, nc_2, nc_3, nc_4, nc_5, nc_6, nc_7, nc_8, nc_9, nc_10, nc_11, vMax2, vMin2, vIsN0, vIsN1, vNotN0, vNotN1, vIsN2, vNotN2, x_lo, x_lo1, x_lo2, vAll2, vAny2, x_sl, x_sl1, x_sl2, x_pn, x_ps, x_ps1, x_cutL, x_cutC, vEqS, vNeS, x_fz_obj, x_fr_obj, x_make, x_meth, x_meth2, x_meth3, x_isO, x_isO1, x_cat, x_cat1, x_methZ, x_methZ2, x_methZ3, x_callZ, x_callZ1, x_lend1, x_lend2, x_cl_int, x_cl_bl, x_cl_str, x_cl_non, x_cl_tup, x_cl0, x_cl1, x_cl_lst, x_setIx, x_setIx1, x_setIx2, Option.map_some, List.getD_cons_zero, List.getD_cons_succ, List.set_cons_zero, List.set_cons_succ, List.map_cons, List.map_nil, List.replicate_zero, List.replicate_succ, List.length_cons, List.length_nil, List.cons_append, List.nil_append, Option.bind_some, if_true, if_false, Bool.false_eq_true, Nat.reduceSub, Nat.reduceAdd, Nat.reduceLeDiff, Nat.reduceLT, vAdd, vSub, vLt, vLe, vGt, vGe, vNeg, vEq, vNe, vEq2, vNe2, vMod, vDiv, vMul, vPow, Int.reduceToNat, vIx0, vIx1, vLenT, vLenC, vLenL, reduceIte, decide_true, decide_false, Bool.not_true, Bool.not_false, beq_self_eq_true, Bool.and_true, Bool.true_and, Bool.and_self, Bool.and_false, Bool.false_and, h1]
  · have h1 : decide (mnI b d < mxI a c) = true := decide_eq_true (by omega)
    rw [if_neg h]
    constructor
    · simp (disch := decide) only [spD, oD, f_common, m_common, x_seq, x_seq1, x_seq2, x_seq3, x_seq4, x_seq5, x_seq6, x_nil, x_if, x_if1, x_if2, x_if3, x_ret, x_ret1, x_ret2, x_ret3, x_retN, x_asg, x_asg1, x_asg2, x_asg3, x_asg4, x_asg5, x_gN, x_drop, x_drop1, x_drop2, x_bk, x_ct, x_raise, x_tZ, x_tZ1, x_tZ2, x_tE, x_tE1, x_tE2, x_tE3, x_tAnd, x_tAnd1, x_tAnd2, x_tAnd3, x_tOr, x_tOr1, x_tOr2, x_tOr3, x_tNot, x_tNot1, x_tNot2, x_tNot3, x_tTrue, x_z2, x_z21, x_z1, x_z11, x_zC, x_zC1, x_za, x_za1, x_za0, x_zV, x_zK, x_ch, x_ch1, x_ch2, x_eZ, x_eZ1, x_eZ2, x_eV, x_eV1, x_eM, x_eM1, x_b1, x_b2, x_b3, x_s1, x_s2, x_s3, x_oO, x_oO2, x_e2, x_e1, x_eC, x_aN, x_aC, x_tup, x_lst, x_call, x_oC1, x_oC2, x_call0, x_call01, x_eAnd, x_eAnd1, x_eOr, x_eOr1, x_eNot, x_eNot1, x_eIf, x_eIf1, x_fz_int, x_fr_int, x_fz_bl, x_fr_bl, x_fz_str, x_fr_str, x_fz_ty, x_fr_ty, x_fz_tup, x_fr_tup, x_fz_cst, x_fr_cst, x_fz_lst_false, x_fr_lst_false, x_fz_non, x_fr_non, x_fz_lt, x_fr_lt, x_fL0, x_fL1, x_cF, x_cR1, x_cR2, x_cR3, x_iL, x_iL1, x_iT, x_iT1, x_iS, x_iS1, x_iR1, x_iR11, x_iR2, x_iR21, x_iE, x_iE1, x_iV, x_iV1, x_iZ, x_iZ1, x_for, x_fo0, x_fo1, x_fo2, x_fo3, x_fo4, x_fo5, x_fo6, x_fo7, x_gT, x_gC, x_gC0, x_try, x_try1, x_try2, x_try3, x_try4, x_try5, x_nx1, x_nx2, x_try6, x_try7, x_nx3, x_nx4, x_app, x_app1, x_app2, x_lc, x_lcE, x_lc0, x_lc1, x_lcG, x_w0, x_w1, vMinL4, vMaxL4, vAll3, vAny3, vAll4, vAny4, x_wh1, x_wh2, x_wh0, x_abs, vI_ii, vI_ib, vI_it, vI_il, vI_is, vI_bb, vI_bi, vI_tt, vI_tl, vI_ti, vI_ll, vI_lt, vI_ss, vEqB, vNeB, x_ta, x_ta1, x_ta2, x_ta3, x_ta4, x_ta5, x_is, nc_0, nc_1, nc_2, nc_3, nc_4, nc_5, nc_6, nc_7, nc_8, nc_9, nc_10, nc_11, vMax2, vMin2, vIsN0, vIsN1, vNotN0, vNotN1, vIsN2, vNotN2, x_lo, x_lo1, x_lo2, vAll2, vAny2, x_sl, x_sl1, x_sl2, x_pn, x_ps, x_ps1, x_cutL, x_cutC, vEqS, vNeS, x_fz_obj, x_fr_obj, x_make, x_meth, x_meth2, x_meth3, x_isO, x_isO1, x_cat, x_cat1, x_methZ, x_methZ2, x_methZ3, x_callZ, x_callZ1, x_lend1, x_lend2, x_cl_int, x_cl_bl, x_cl_str, x_cl_non, x_cl_tup, x_cl0, x_cl1, x_cl_lst, x_setIx, x_setIx1, x_setIx2, Option.map_some, List.getD_cons_zero, List.getD_cons_succ, List.set_cons_zero, List.set_cons_succ, List.map_cons, List.map_nil, List.replicate_zero, List.replicate_succ, List.length_cons, List.length_nil, List.cons_append, List.nil_append, Option.bind_some, if_true, if_false, Bool.false_eq_true, Nat.reduceSub, Nat.reduceAdd, Nat.reduceLeDiff, Nat.reduceLT, vAdd, vSub, vLt, vLe, vGt, vGe, vNeg, vEq, vNe, vEq2, vNe2, vMod, vDiv, vMul, vPow, Int.reduceToNat, vIx0, vIx1, vLenT, vLenC, vLenL, reduceIte, decide_true, decide_false, Bool.not_true, Bool.not_false, beq_self_eq_true, Bool.and_true, Bool.true_and, Bool.and_self, Bool.and_false, Bool.false_and, h1]
    · simp (disch := decide) only [spD, oD, f__law_meet, m__law_meet, x_seq, x_seq1, x_seq2, x_seq3, x_seq4, x_seq5, x_seq6, x_nil, x_if, x_if1, x_if2, x_if3, x_ret, x_ret1, x_ret2, x_ret3, x_retN, x_asg, x_asg1, x_asg2, x_asg3, x_asg4, x_asg5, x_gN, x_drop, x_drop1, x_drop2, x_bk, x_ct, x_raise, x_tZ, x_tZ1, x_tZ2, x_tE, x_tE1, x_tE2, x_tE3, x_tAnd, x_tAnd1, x_tAnd2, x_tAnd3, x_tOr, x_tOr1, x_tOr2, x_tOr3, x_tNot, x_tNot1, x_tNot2, x_tNot3, x_tTrue, x_z2, x_z21, x_z1, x_z11, x_zC, x_zC1, x_za, x_za1, x_za0, x_zV, x_zK, x_ch, x_ch1, x_ch2, x_eZ, x_eZ1, x_eZ2, x_eV, x_eV1, x_eM, x_eM1, x_b1, x_b2, x_b3, x_s1, x_s2, x_s3, x_oO, x_oO2, x_e2, x_e1, x_eC, x_aN, x_aC, x_tup, x_lst, x_call, x_oC1, x_oC2, x_call0, x_call01, x_eAnd, x_eAnd1, x_eOr, x_eOr1, x_eNot, x_eNot1, x_eIf, x_eIf1, x_fz_int, x_fr_int, x_fz_bl, x_fr_bl, x_fz_str, x_fr_str, x_fz_ty, x_fr_ty, x_fz_tup, x_fr_tup, x_fz_cst, x_fr_cst, x_fz_lst_false, x_fr_lst_false, x_fz_non, x_fr_non, x_fz_lt, x_fr_lt, x_fL0, x_fL1, x_cF, x_cR1, x_cR2, x_cR3, x_iL, x_iL1, x_iT, x_iT1, x_iS, x_iS1, x_iR1, x_iR11, x_iR2, x_iR21, x_iE, x_iE1, x_iV, x_iV1, x_iZ, x_iZ1, x_for, x_fo0, x_fo1, x_fo2, x_fo3, x_fo4, x_fo5, x_fo6, x_fo7, x_gT, x_gC, x_gC0, x_try, x_try1, x_try2, x_try3, x_try4, x_try5, x_nx1, x_nx2, x_try6, x_try7, x_nx3, x_nx4, x_app, x_app1, x_app2, x_lc, x_lcE, x_lc0, x_lc1, x_lcG, x_w0, x_w1, vMinL4, vMaxL4, vAll3, vAny3, vAll4, vAny4, x_wh1, x_wh2, x_wh0, x_abs, vI_ii, vI_ib, vI_it, vI_il, vI_is, vI_bb, vI_bi, vI_tt, vI_tl, vI_ti, vI_ll, vI_lt, vI_ss, vEqB, vNeB, x_ta, x_ta1, x_ta2, x_ta3, x_ta4, x_ta5, x_is, nc_0, nc_1, nc_2, nc_3, nc_4, nc_5, nc_6, nc_7, nc_8, nc_9, nc_10, nc_11, vMax2, vMin2, vIsN0, vIsN1, vNotN0, vNotN1, vIsN2, vNotN2, x_lo, x_lo1, x_lo2, vAll2, vAny2, x_sl, x_sl1, x_sl2, x_pn, x_ps, x_ps1, x_cutL, x_cutC, vEqS, vNeS, x_fz_obj, x_fr_obj, x_make, x_meth, x_meth2, x_meth3, x_isO, x_isO1, x_cat, x_cat1, x_methZ, x_methZ2, x_methZ3, x_callZ, x_callZ1, x_lend1, x_lend2, x_cl_int, x_cl_bl, x_cl_str, x_cl_non, x_cl_tup, x_cl0, x_cl1, x_cl_lst, x_setIx, x_setIx1, x_setIx2, Option.map_some, List.getD_cons_zero, List.getD_cons_succ, List.set_cons_zero, List.set_cons_succ, List.map_cons, List.map_nil, List.replicate_zero, List.replicate_succ, List.length_cons, List.length_nil, List.cons_append, List.nil_append, Option.bind_some, if_true, if_false, Bool.false_eq_true, Nat.reduceSub, Nat.reduceAdd, Nat.reduceLeDiff, Nat.reduceLT, vAdd, vSub, vLt, vLe, vGt, vGe, vNeg, vEq, vNe, vEq2, vNe2, vMod, vDiv, vMul, vPow, Int.reduceToNat, vIx0, vIx1, vLenT, vLenC, vLenL, reduceIte, decide_true, decide_false, Bool.not_true, Bool.not_false, beq_self_eq_true, Bool.and_true, Bool.true_and, Bool.and_self, Bool.and_false, Bool.false_and, h1]
theorem take_ok (p q : Int × Int) : f_take_spans [spD p, spD q] = .ok (spD (subS p q)) := by
  simp (disch := decide) only [spD, subS, f_take_spans, m_take_spans, x_seq, x_seq1, x_seq2, x_seq3, x_seq4, x_seq5, x_seq6, x_nil, x_if, x_if1, x_if2, x_if3, x_ret, x_ret1, x_ret2, x_ret3, x_retN, x_asg, x_asg1, x_asg2, x_asg3, x_asg4, x_asg5, x_gN, x_drop, x_drop1, x_drop2, x_bk, x_ct, x_raise, x_tZ, x_tZ1, x_tZ2, x_tE, x_tE1, x_tE2, x_tE3, x_tAnd, x_tAnd1, x_tAnd2, x_tAnd3, x_tOr, x_tOr1, x_tOr2, x_tOr3, x_tNot, x_tNot1, x_tNot2, x_tNot3, x_tTrue, x_z2, x_z21, x_z1, x_z11, x_zC, x_zC1, x_za, x_za1, x_za0, x_zV, x_zK, x_ch, x_ch1, x_ch2, x_eZ, x_eZ1, x_eZ2, x_eV, x_eV1, x_eM, x_eM1, x_b1, x_b2, x_b3, x_s1, x_s2, x_s3, x_oO, x_oO2, x_e2, x_e1, x_eC, x_aN, x_aC, x_tup, x_lst, x_call, x_oC1, x_oC2, x_call0, x_call01, x_eAnd, x_eAnd1, x_eOr, x_eOr1, x_eNot, x_eNot1, x_eIf, x_eIf1, x_fz_int, x_fr_int, x_fz_bl, x_fr_bl, x_fz_str, x_fr_str, x_fz_ty, x_fr_ty, x_fz_tup, x_fr_tup, x_fz_cst, x_fr_cst, x_fz_lst_false, x_fr_lst_false, x_fz_non, x_fr_non, x_fz_lt, x_fr_lt, x_fL0, x_fL1, x_cF, x_cR1, x_cR2, x_cR3, x_iL, x_iL1, x_iT, x_iT1, x_iS, x_iS1, x_iR1, x_iR11, x_iR2, x_iR21, x_iE, x_iE1, x_iV, x_iV1, x_iZ, x_iZ1, x_for, x_fo0, x_fo1, x_fo2, x_fo3, x_fo4, x_fo5, x_fo6, x_fo7, x_gT, x_gC, x_gC0, x_try, x_try1, x_try2, x_try3, x_try4, x_try5, x_nx1, x_nx2, x_try6, x_try7, x_nx3, x_nx4, x_app, x_app1, x_app2, x_lc, x_lcE, x_lc0, x_lc1, x_lcG, x_w0, x_w1, vMinL4, vMaxL4, vAll3, vAny3, vAll4, vAny4, x_wh1, x_wh2, x_wh0, x_abs, vI_ii, vI_ib, vI_it, vI_il, vI_is, vI_bb, vI_bi, vI_tt, vI_tl, vI_ti, vI_ll, vI_lt, vI_ss, vEqB, vNeB, x_ta, x_ta1, x_ta2, x_ta3, x_ta4, x_ta5, x_is, nc_0, nc_1, nc_2, nc_3, nc_4, nc_5, nc_6, nc_7, nc_8, nc_9, nc_10, nc_11, vMax2, vMin2, vIsN0, vIsN1, vNotN0, vNotN1, vIsN2, vNotN2, x_lo, x_lo1, x_lo2, vAll2, vAny2, x_sl, x_sl1, x_sl2, x_pn, x_ps, x_ps1, x_cutL, x_cutC, vEqS, vNeS, x_fz_obj, x_fr_obj, x_make, x_meth, x_meth2, x_meth3, x_isO, x_isO1, x_cat, x_cat1, x_methZ, x_methZ2, x_methZ3, x_callZ, x_callZ1, x_lend1, x_lend2, x_cl_int, x_cl_bl, x_cl_str, x_cl_non, x_cl_tup, x_cl0, x_cl1, x_cl_lst, x_setIx, x_setIx1, x_setIx2, Option.map_some, List.getD_cons_zero, List.getD_cons_succ, List.set_cons_zero, List.set_cons_succ, List.map_cons, List.map_nil, List.replicate_zero, List.replicate_succ, List.length_cons, List.length_nil, List.cons_append, List.nil_append, Option.bind_some, if_true, if_false, Bool.false_eq_true, Nat.reduceSub, Nat.reduceAdd, Nat.reduceLeDiff, Nat.reduceLT, vAdd, vSub, vLt, vLe, vGt, vGe, vNeg, vEq, vNe, vEq2, vNe2, vMod, vDiv, vMul, vPow, Int.reduceToNat, vIx0, vIx1, vLenT, vLenC, vLenL, reduceIte, decide_true, decide_false, Bool.not_true, Bool.not_false, beq_self_eq_true, Bool.and_true, Bool.true_and, Bool.and_self, Bool.and_false, Bool.false_and]
theorem addsp_ok (p q : Int × Int) : f_add_spans [spD p, spD q] = .ok (spD (addS p q)) := by
  simp (disch := decide) only [spD, addS, f_add_spans, m_add_spans, x_seq, x_seq1, x_seq2, x_seq3, x_seq4, x_seq5, x_seq6, x_nil, x_if, x_if1, x_if2, x_if3, x_ret, x_ret1, x_ret2, x_ret3, x_retN, x_asg, x_asg1, x_asg2, x_asg3, x_asg4, x_asg5, x_gN, x_drop, x_drop1, x_drop2, x_bk, x_ct, x_raise, x_tZ, x_tZ1, x_tZ2, x_tE, x_tE1, x_tE2, x_tE3, x_tAnd, x_tAnd1, x_tAnd2, x_tAnd3, x_tOr, x_tOr1, x_tOr2, x_tOr3, x_tNot, x_tNot1, x_tNot2, x_tNot3, x_tTrue, x_z2, x_z21, x_z1, x_z11, x_zC, x_zC1, x_za, x_za1, x_za0, x_zV, x_zK, x_ch, x_ch1, x_ch2, x_eZ, x_eZ1, x_eZ2, x_eV, x_eV1, x_eM, x_eM1, x_b1, x_b2, x_b3, x_s1, x_s2, x_s3, x_oO, x_oO2, x_e2, x_e1, x_eC, x_aN, x_aC, x_tup, x_lst, x_call, x_oC1, x_oC2, x_call0, x_call01, x_eAnd, x_eAnd1, x_eOr, x_eOr1, x_eNot, x_eNot1, x_eIf, x_eIf1, x_fz_int, x_fr_int, x_fz_bl, x_fr_bl, x_fz_str, x_fr_str, x_fz_ty, x_fr_ty, x_fz_tup, x_fr_tup, x_fz_cst, x_fr_cst, x_fz_lst_false, x_fr_lst_false, x_fz_non, x_fr_non, x_fz_lt, x_fr_lt, x_fL0, x_fL1, x_cF, x_cR1, x_cR2, x_cR3, x_iL, x_iL1, x_iT, x_iT1, x_iS, x_iS1, x_iR1, x_iR11, x_iR2, x_iR21, x_iE, x_iE1, x_iV, x_iV1, x_iZ, x_iZ1, x_for, x_fo0, x_fo1, x_fo2, x_fo3, x_fo4, x_fo5, x_fo6, x_fo7, x_gT, x_gC, x_gC0, x_try, x_try1, x_try2, x_try3, x_try4, x_try5, x_nx1, x_nx2, x_try6, x_try7, x_nx3, x_nx4, x_app, x_app1, x_app2, x_lc, x_lcE, x_lc0, x_lc1, x_lcG, x_w0, x_w1, vMinL4, vMaxL4, vAll3, vAny3, vAll4, vAny4, x_wh1, x_wh2, x_wh0, x_abs, vI_ii, vI_ib, vI_it, vI_il, vI_is, vI_bb, vI_bi, vI_tt, vI_tl, vI_ti, vI_ll, vI_lt, vI_ss, vEqB, vNeB, x_ta, x_ta1, x_ta2, x_ta3, x_ta4, x_ta5, x_is, nc_0, nc_1, nc_2, nc_3, nc_4, nc_5, nc_6, nc_7, nc_8, nc_9, nc_10, nc_11, vMax2, vMin2, vIsN0, vIsN1, vNotN0, vNotN1, vIsN2, vNotN2, x_lo, x_lo1, x_lo2, vAll2, vAny2, x_sl, x_sl1, x_sl2, x_pn, x_ps, x_ps1, x_cutL, x_cutC, vEqS, vNeS, x_fz_obj, x_fr_obj, x_make, x_meth, x_meth2, x_meth3, x_isO, x_isO1, x_cat, x_cat1, x_methZ, x_methZ2, x_methZ3, x_callZ, x_callZ1, x_lend1, x_lend2, x_cl_int, x_cl_bl, x_cl_str, x_cl_non, x_cl_tup, x_cl0, x_cl1, x_cl_lst, x_setIx, x_setIx1, x_setIx2, Option.map_some, List.getD_cons_zero, List.getD_cons_succ, List.set_cons_zero, List.set_cons_succ, List.map_cons, List.map_nil, List.replicate_zero, List.replicate_succ, List.length_cons, List.length_nil, List.cons_append, List.nil_append, Option.bind_some, if_true, if_false, Bool.false_eq_true, Nat.reduceSub, Nat.reduceAdd, Nat.reduceLeDiff, Nat.reduceLT, vAdd, vSub, vLt, vLe, vGt, vGe, vNeg, vEq, vNe, vEq2, vNe2, vMod, vDiv, vMul, vPow, Int.reduceToNat, vIx0, vIx1, vLenT, vLenC, vLenL, reduceIte, decide_true, decide_false, Bool.not_true, Bool.not_false, beq_self_eq_true, Bool.and_true, Bool.true_and, Bool.and_self, Bool.and_false, Bool.false_and]
/-- the way back of a sum or a difference -/
def back1 (plus : Bool) (z x y : Int × Int) : Int × Int := if plus = true then subS z y else addS z y
def back2 (plus : Bool) (z x y : Int × Int) : Int × Int := if plus = true then subS z x else subS x z
def bk (plus same : Bool) (z x y : Int × Int) : Option ((Int × Int) × (Int × Int)) := match mt x (back1 plus z x y) with
  | none => none
  | some x' => match mt (if same = true then x' else y) (back2 plus z x' y) with
    | none => none
    | some y' => some (x', y')
def bkD (i j : Int) : Option ((Int × Int) × (Int × Int)) → D
  | none => .non
  | some (x, y) => .lst true [.tup [.int i, spD x], .tup [.int j, spD y]]
theorem back2_y {plus : Bool} {z x y y' : Int × Int} : back2 plus z x y = back2 plus z x y' := rfl
def Nd.sum (plus : Bool) (i j : Int) : Nd := if plus = true then .plus i j else .minus i j
theorem fz_sp1 (p : Int × Int) : isFz (spD p) = true := rfl
theorem fr_sp1 (p : Int × Int) : freeze (spD p) = spD p := rfl
theorem sp0 (p : Int × Int) : gIx (spD p) (.int 0) = some (.int p.1) := rfl
theorem sp1 (p : Int × Int) : gIx (spD p) (.int 1) = some (.int p.2) := rfl
theorem isn_sp (p : Int × Int) : gIsN (spD p) .non = some (.bl false) := rfl
theorem law_back_ok {plus : Bool} {S : List D} {m : Bool} {i j : Int} {x y z : Int × Int} (e1 : gIx (.lst m S) (.int i) = some (spD x)) (e2 : gIx (.lst m S) (.int j) = some (spD y)) :
    f__law_back_sum [(Nd.sum plus i j).d, .lst m S, spD z] = .ok (bkD i j (bk plus (i == j) z x y)) := by
  have cm := fun p q => (common_ok p q).2
  have tup : ∀ a b : Int, D.tup [.int a, .int b] = spD (a, b) := fun _ _ => rfl
  have frt : ∀ (i : Int) (p : Int × Int), freeze (.tup [.int i, spD p]) = .tup [.int i, spD p] := fun _ _ => rfl
  have go : ∀ (plus : Bool) (w : PySem.Str), gEq (.str w) (.str "plus") = some (.bl plus) → (Nd.sum plus i j).d = .tup [.str w, .int i, .int j] → f__law_back_sum [.tup [.str w, .int i, .int j], .lst m S, spD z] = .ok (bkD i j (bk plus (i == j) z x y)) := by
    intro plus w hw _
    unfold bk
    cases plus with
    | true =>
      rw [show back1 true z x y = (z.1 - y.2, z.2 - y.1) from rfl]
      cases h1 : mt x (z.1 - y.2, z.2 - y.1) with
      | none => cases m <;> simp (disch := decide) only [f__law_back_sum, m__law_back_sum, u__law_back_sum_1, u__law_back_sum_2, u__law_back_sum_3, vIxT2, hw, x_seq, x_seq1, x_seq2, x_seq3, x_seq4, x_seq5, x_seq6, x_nil, x_if, x_if1, x_if2, x_if3, x_ret, x_ret1, x_ret2, x_ret3, x_retN, x_asg, x_asg1, x_asg2, x_asg3, x_asg4, x_asg5, x_gN, x_drop, x_drop1, x_drop2, x_bk, x_ct, x_raise, x_tZ, x_tZ1, x_tZ2, x_tE, x_tE1, x_tE2, x_tE3, x_tAnd, x_tAnd1, x_tAnd2, x_tAnd3, x_tOr, x_tOr1, x_tOr2, x_tOr3, x_tNot, x_tNot1, x_tNot2, x_tNot3, x_tTrue, x_z2, x_z21, x_z1, x_z11, x_zC, x_zC1, x_za, x_za1, x_za0, x_zV, x_zK, x_ch, x_ch1, x_ch2, x_eZ, x_eZ1, x_eZ2, x_eV, x_eV1, x_eM, x_eM1, x_b1, x_b2, x_b3, x_s1, x_s2, x_s3, x_oO, x_oO2, x_e2, x_e1, x_eC, x_aN, x_aC, x_tup, x_lst, x_call, x_oC1, x_oC2, x_call0, x_call01, x_eAnd, x_eAnd1, x_eOr, x_eOr1, x_eNot, x_eNot1, x_eIf, x_eIf1, x_fz_int, x_fr_int, x_fz_bl, x_fr_bl, x_fz_str, x_fr_str, x_fz_ty, x_fr_ty, x_fz_tup, x_fr_tup, x_fz_cst, x_fr_cst, x_fz_lst_false, x_fr_lst_false, x_fz_non, x_fr_non, x_fz_lt, x_fr_lt, x_fL0, x_fL1, x_cF, x_cR1, x_cR2, x_cR3, x_iL, x_iL1, x_iT, x_iT1, x_iS, x_iS1, x_iR1, x_iR11, x_iR2, x_iR21, x_iE, x_iE1, x_iV, x_iV1, x_iZ, x_iZ1, x_for, x_fo0, x_fo1, x_fo2, x_fo3, x_fo4, x_fo5, x_fo6, x_fo7, x_gT, x_gC, x_gC0, x_try, x_try1, x_try2, x_try3, x_try4, x_try5, x_nx1, x_nx2, x_try6, x_try7, x_nx3, x_nx4, x_app, x_app1, x_app2, x_lc, x_lcE, x_lc0, x_lc1, x_lcG, x_w0, x_w1, vMinL4, vMaxL4, vAll3, vAny3, vAll4, vAny4, x_wh1, x_wh2, x_wh0, x_abs, vI_ii, vI_ib, vI_it, vI_il, vI_is, vI_bb, vI_bi, vI_tt, vI_tl, vI_ti, vI_ll, vI_lt, vI_ss, vEqB, vNeB, x_ta, x_ta1, x_ta2, x_ta3, x_ta4, x_ta5, x_is, nc_0, nc_1, nc_2, nc_3, nc_4, nc_5, nc_6, nc_7, nc_8, nc_9, nc_10, nc_11, vMax2, vMin2, vIsN0, vIsN1, vNotN0, vNotN1, vIsN2, vNotN2, x_lo, x_lo1, x_lo2, vAll2, vAny2, x_sl, x_sl1, x_sl2, x_pn, x_ps, x_ps1, x_cutL, x_cutC, vEqS, vNeS, x_fz_obj, x_fr_obj, x_make, x_meth, x_meth2, x_meth3, x_isO, x_isO1, x_cat, x_cat1, x_methZ, x_methZ2, x_methZ3, x_callZ, x_callZ1, x_lend1, x_lend2, x_cl_int, x_cl_bl, x_cl_str, x_cl_non, x_cl_tup, x_cl0, x_cl1, x_cl_lst, x_setIx, x_setIx1, x_setIx2, Option.map_some, List.getD_cons_zero, List.getD_cons_succ, List.set_cons_zero, List.set_cons_succ, List.map_cons, List.map_nil, List.replicate_zero, List.replicate_succ, List.length_cons, List.length_nil, List.cons_append, List.nil_append, Option.bind_some, if_true, if_false, Bool.false_eq_true, Nat.reduceSub, Nat.reduceAdd, Nat.reduceLeDiff, Nat.reduceLT, vAdd, vSub, vLt, vLe, vGt, vGe, vNeg, vEq, vNe, vEq2, vNe2, vMod, vDiv, vMul, vPow, Int.reduceToNat, vIx0, vIx1, vLenT, vLenC, vLenL, reduceIte, decide_true, decide_false, Bool.not_true, Bool.not_false, beq_self_eq_true, Bool.and_true, Bool.true_and, Bool.and_self, Bool.and_false, Bool.false_and, e1, e2, fz_sp1, fr_sp1, sp0, sp1, tup, cm, h1, oD, bkD]
      | some x' =>
        simp only
        rw [show back2 true z x' y = (z.1 - x'.2, z.2 - x'.1) from rfl]
        cases hs : (i == j) with
        | true =>
          simp only [if_true]
          cases h2 : mt x' (z.1 - x'.2, z.2 - x'.1) with
          | none => cases m <;> simp (disch := decide) only [f__law_back_sum, m__law_back_sum, u__law_back_sum_1, u__law_back_sum_2, u__law_back_sum_3, u__law_back_sum_4, u__law_back_sum_5, u__law_back_sum_6, vIxT2, hw, x_seq, x_seq1, x_seq2, x_seq3, x_seq4, x_seq5, x_seq6, x_nil, x_if, x_if1, x_if2, x_if3, x_ret, x_ret1, x_ret2, x_ret3, x_retN, x_asg, x_asg1, x_asg2, x_asg3, x_asg4, x_asg5, x_gN, x_drop, x_drop1, x_drop2, x_bk, x_ct, x_raise, x_tZ, x_tZ1, x_tZ2, x_tE, x_tE1, x_tE2, x_tE3, x_tAnd, x_tAnd1, x_tAnd2, x_tAnd3, x_tOr, x_tOr1, x_tOr2, x_tOr3, x_tNot, x_tNot1, x_tNot2, x_tNot3, x_tTrue, x_z2, x_z21, x_z1, x_z11, x_zC, x_zC1, x_za, x_za1, x_za0, x_zV, x_zK, x_ch, x_ch1, x_ch2, x_eZ, x_eZ1, x_eZ2, x_eV, x_eV1, x_eM, x_eM1, x_b1, x_b2, x_b3, x_s1, x_s2, x_s3, x_oO, x_oO2, x_e2, x_e1, x_eC, x_aN, x_aC, x_tup, x_lst, x_call, x_oC1, x_oC2, x_call0, x_call01, x_eAnd, x_eAnd1, x_eOr, x_eOr1, x_eNot, x_eNot1, x_eIf, x_eIf1, x_fz_int, x_fr_int, x_fz_bl, x_fr_bl, x_fz_str, x_fr_str, x_fz_ty, x_fr_ty, x_fz_tup, x_fr_tup, x_fz_cst, x_fr_cst, x_fz_lst_false, x_fr_lst_false, x_fz_non, x_fr_non, x_fz_lt, x_fr_lt, x_fL0, x_fL1, x_cF, x_cR1, x_cR2, x_cR3, x_iL, x_iL1, x_iT, x_iT1, x_iS, x_iS1, x_iR1, x_iR11, x_iR2, x_iR21, x_iE, x_iE1, x_iV, x_iV1, x_iZ, x_iZ1, x_for, x_fo0, x_fo1, x_fo2, x_fo3, x_fo4, x_fo5, x_fo6, x_fo7, x_gT, x_gC, x_gC0, x_try, x_try1, x_try2, x_try3, x_try4, x_try5, x_nx1, x_nx2, x_try6, x_try7, x_nx3, x_nx4, x_app, x_app1, x_app2, x_lc, x_lcE, x_lc0, x_lc1, x_lcG, x_w0, x_w1, vMinL4, vMaxL4, vAll3, vAny3, vAll4, vAny4, x_wh1, x_wh2, x_wh0, x_abs, vI_ii, vI_ib, vI_it, vI_il, vI_is, vI_bb, vI_bi, vI_tt, vI_tl, vI_ti, vI_ll, vI_lt, vI_ss, vEqB, vNeB, x_ta, x_ta1, x_ta2, x_ta3, x_ta4, x_ta5, x_is, nc_0, nc_1, nc_2, nc_3, nc_4, nc_5, nc_6, nc_7, nc_8, nc_9, nc_10, nc_11, vMax2, vMin2, vIsN0, vIsN1, vNotN0, vNotN1, vIsN2, vNotN2, x_lo, x_lo1, x_lo2, vAll2, vAny2, x_sl, x_sl1, x_sl2, x_pn, x_ps, x_ps1, x_cutL, x_cutC, vEqS, vNeS, x_fz_obj, x_fr_obj, x_make, x_meth, x_meth2, x_meth3, x_isO, x_isO1, x_cat, x_cat1, x_methZ, x_methZ2, x_methZ3, x_callZ, x_callZ1, x_lend1, x_lend2, x_cl_int, x_cl_bl, x_cl_str, x_cl_non, x_cl_tup, x_cl0, x_cl1, x_cl_lst, x_setIx, x_setIx1, x_setIx2, Option.map_some, List.getD_cons_zero, List.getD_cons_succ, List.set_cons_zero, List.set_cons_succ, List.map_cons, List.map_nil, List.replicate_zero, List.replicate_succ, List.length_cons, List.length_nil, List.cons_append, List.nil_append, Option.bind_some, if_true, if_false, Bool.false_eq_true, Nat.reduceSub, Nat.reduceAdd, Nat.reduceLeDiff, Nat.reduceLT, vAdd, vSub, vLt, vLe, vGt, vGe, vNeg, vEq, vNe, vEq2, vNe2, vMod, vDiv, vMul, vPow, Int.reduceToNat, vIx0, vIx1, vLenT, vLenC, vLenL, reduceIte, decide_true, decide_false, Bool.not_true, Bool.not_false, beq_self_eq_true, Bool.and_true, Bool.true_and, Bool.and_self, Bool.and_false, Bool.false_and, e1, e2, fz_sp1, fr_sp1, sp0, sp1, tup, cm, h1, oD, bkD, isn_sp, hs, h2]
          | some y' => cases m <;> simp (disch := decide) only [f__law_back_sum, m__law_back_sum, u__law_back_sum_1, u__law_back_sum_2, u__law_back_sum_3, u__law_back_sum_4, u__law_back_sum_5, u__law_back_sum_6, u__law_back_sum_7, vIxT2, hw, x_seq, x_seq1, x_seq2, x_seq3, x_seq4, x_seq5, x_seq6, x_nil, x_if, x_if1, x_if2, x_if3, x_ret, x_ret1, x_ret2, x_ret3, x_retN, x_asg, x_asg1, x_asg2, x_asg3, x_asg4, x_asg5, x_gN, x_drop, x_drop1, x_drop2, x_bk, x_ct, x_raise, x_tZ, x_tZ1, x_tZ2, x_tE, x_tE1, x_tE2, x_tE3, x_tAnd, x_tAnd1, x_tAnd2, x_tAnd3, x_tOr, x_tOr1, x_tOr2, x_tOr3, x_tNot, x_tNot1, x_tNot2, x_tNot3, x_tTrue, x_z2, x_z21, x_z1, x_z11, x_zC, x_zC1, x_za, x_za1, x_za0, x_zV, x_zK, x_ch, x_ch1, x_ch2, x_eZ, x_eZ1, x_eZ2, x_eV, x_eV1, x_eM, x_eM1, x_b1, x_b2, x_b3, x_s1, x_s2, x_s3, x_oO, x_oO2, x_e2, x_e1, x_eC, x_aN, x_aC, x_tup, x_lst, x_call, x_oC1, x_oC2, x_call0, x_call01, x_eAnd, x_eAnd1, x_eOr, x_eOr1, x_eNot, x_eNot1, x_eIf, x_eIf1, x_fz_int, x_fr_int, x_fz_bl, x_fr_bl, x_fz_str, x_fr_str, x_fz_ty, x_fr_ty, x_fz_tup, x_fr_tup, x_fz_cst, x_fr_cst, x_fz_lst_false, x_fr_lst_false, x_fz_non, x_fr_non, x_fz_lt, x_fr_lt, x_fL0, x_fL1, x_cF, x_cR1, x_cR2, x_cR3, x_iL, x_iL1, x_iT, x_iT1, x_iS, x_iS1, x_iR1, x_iR11, x_iR2, x_iR21, x_iE, x_iE1, x_iV, x_iV1, x_iZ, x_iZ1, x_for, x_fo0, x_fo1, x_fo2, x_fo3, x_fo4, x_fo5, x_fo6, x_fo7, x_gT, x_gC, x_gC0, x_try, x_try1, x_try2, x_try3, x_try4, x_try5, x_nx1, x_nx2, x_try6, x_try7, x_nx3, x_nx4, x_app, x_app1, x_app2, x_lc, x_lcE, x_lc0, x_lc1, x_lcG, x_w0, x_w1, vMinL4, vMaxL4, vAll3, vAny3, vAll4, vAny4, x_wh1, x_wh2, x_wh0, x_abs, vI_ii, vI_ib, vI_it, vI_il, vI_is, vI_bb, vI_bi, vI_tt, vI_tl, vI_ti, vI_ll, vI_lt, vI_ss, vEqB, vNeB, x_ta, x_ta1, x_ta2, x_ta3, x_ta4, x_ta5, x_is, nc_0, nc_1, nc_2, nc_3, nc_4, nc_5, nc_6, nc_7, nc_8, nc_9, nc_10, nc_11, vMax2, vMin2, vIsN0, vIsN1, vNotN0, vNotN1, vIsN2, vNotN2, x_lo, x_lo1, x_lo2, vAll2, vAny2, x_sl, x_sl1, x_sl2, x_pn, x_ps, x_ps1, x_cutL, x_cutC, vEqS, vNeS, x_fz_obj, x_fr_obj, x_make, x_meth, x_meth2, x_meth3, x_isO, x_isO1, x_cat, x_cat1, x_methZ, x_methZ2, x_methZ3, x_callZ, x_callZ1, x_lend1, x_lend2, x_cl_int, x_cl_bl, x_cl_str, x_cl_non, x_cl_tup, x_cl0, x_cl1, x_cl_lst, x_setIx, x_setIx1, x_setIx2, Option.map_some, List.getD_cons_zero, List.getD_cons_succ, List.set_cons_zero, List.set_cons_succ, List.map_cons, List.map_nil, List.replicate_zero, List.replicate_succ, List.length_cons, List.length_nil, List.cons_append, List.nil_append, Option.bind_some, if_true, if_false, Bool.false_eq_true, Nat.reduceSub, Nat.reduceAdd, Nat.reduceLeDiff, Nat.reduceLT, vAdd, vSub, vLt, vLe, vGt, vGe, vNeg, vEq, vNe, vEq2, vNe2, vMod, vDiv, vMul, vPow, Int.reduceToNat, vIx0, vIx1, vLenT, vLenC, vLenL, reduceIte, decide_true, decide_false, Bool.not_true, Bool.not_false, beq_self_eq_true, Bool.and_true, Bool.true_and, Bool.and_self, Bool.and_false, Bool.false_and, e1, e2, fz_sp1, fr_sp1, sp0, sp1, tup, cm, h1, oD, bkD, isn_sp, hs, h2]
        | false =>
          simp only [Bool.false_eq_true, if_false]
          cases h2 : mt y (z.1 - x'.2, z.2 - x'.1) with
          | none => cases m <;> simp (disch := decide) only [f__law_back_sum, m__law_back_sum, u__law_back_sum_1, u__law_back_sum_2, u__law_back_sum_3, u__law_back_sum_4, u__law_back_sum_5, u__law_back_sum_6, vIxT2, hw, x_seq, x_seq1, x_seq2, x_seq3, x_seq4, x_seq5, x_seq6, x_nil, x_if, x_if1, x_if2, x_if3, x_ret, x_ret1, x_ret2, x_ret3, x_retN, x_asg, x_asg1, x_asg2, x_asg3, x_asg4, x_asg5, x_gN, x_drop, x_drop1, x_drop2, x_bk, x_ct, x_raise, x_tZ, x_tZ1, x_tZ2, x_tE, x_tE1, x_tE2, x_tE3, x_tAnd, x_tAnd1, x_tAnd2, x_tAnd3, x_tOr, x_tOr1, x_tOr2, x_tOr3, x_tNot, x_tNot1, x_tNot2, x_tNot3, x_tTrue, x_z2, x_z21, x_z1, x_z11, x_zC, x_zC1, x_za, x_za1, x_za0, x_zV, x_zK, x_ch, x_ch1, x_ch2, x_eZ, x_eZ1, x_eZ2, x_eV, x_eV1, x_eM, x_eM1, x_b1, x_b2, x_b3, x_s1, x_s2, x_s3, x_oO, x_oO2, x_e2, x_e1, x_eC, x_aN, x_aC, x_tup, x_lst, x_call, x_oC1, x_oC2, x_call0, x_call01, x_eAnd, x_eAnd1, x_eOr, x_eOr1, x_eNot, x_eNot1, x_eIf, x_eIf1, x_fz_int, x_fr_int, x_fz_bl, x_fr_bl, x_fz_str, x_fr_str, x_fz_ty, x_fr_ty, x_fz_tup, x_fr_tup, x_fz_cst, x_fr_cst, x_fz_lst_false, x_fr_lst_false, x_fz_non, x_fr_non, x_fz_lt, x_fr_lt, x_fL0, x_fL1, x_cF, x_cR1, x_cR2, x_cR3, x_iL, x_iL1, x_iT, x_iT1, x_iS, x_iS1, x_iR1, x_iR11, x_iR2, x_iR21, x_iE, x_iE1, x_iV, x_iV1, x_iZ, x_iZ1, x_for, x_fo0, x_fo1, x_fo2, x_fo3, x_fo4, x_fo5, x_fo6, x_fo7, x_gT, x_gC, x_gC0, x_try, x_try1, x_try2, x_try3, x_try4, x_try5, x_nx1, x_nx2, x_try6, x_try7, x_nx3, x_nx4, x_app, x_app1, x_app2, x_lc, x_lcE, x_lc0, x_lc1, x_lcG, x_w0, x_w1, vMinL4, vMaxL4, vAll3, vAny3, vAll4, vAny4, x_wh1, x_wh2, x_wh0, x_abs, vI_ii, vI_ib, vI_it, vI_il, vI_is, vI_bb, vI_bi, vI_tt, vI_tl, vI_ti, vI_ll, vI_lt, vI_ss, vEqB, vNeB, x_ta, x_ta1, x_ta2, x_ta3, x_ta4, x_ta5, x_is, nc_0, nc_1, nc_2, nc_3, nc_4, nc_5, nc_6, nc_7, nc_8, nc_9, nc_10, nc_11, vMax2, vMin2, vIsN0, vIsN1, vNotN0, vNotN1, vIsN2, vNotN2, x_lo, x_lo1, x_lo2, vAll2, vAny2, x_sl, x_sl1, x_sl2, x_pn, x_ps, x_ps1, x_cutL, x_cutC, vEqS, vNeS, x_fz_obj, x_fr_obj, x_make, x_meth, x_meth2, x_meth3, x_isO, x_isO1, x_cat, x_cat1, x_methZ, x_methZ2, x_methZ3, x_callZ, x_callZ1, x_lend1, x_lend2, x_cl_int, x_cl_bl, x_cl_str, x_cl_non, x_cl_tup, x_cl0, x_cl1, x_cl_lst, x_setIx, x_setIx1, x_setIx2, Option.map_some, List.getD_cons_zero, List.getD_cons_succ, List.set_cons_zero, List.set_cons_succ, List.map_cons, List.map_nil, List.replicate_zero, List.replicate_succ, List.length_cons, List.length_nil, List.cons_append, List.nil_append, Option.bind_some, if_true, if_false, Bool.false_eq_true, Nat.reduceSub, Nat.reduceAdd, Nat.reduceLeDiff, Nat.reduceLT, vAdd, vSub, vLt, vLe, vGt, vGe, vNeg, vEq, vNe, vEq2, vNe2, vMod, vDiv, vMul, vPow, Int.reduceToNat, vIx0, vIx1, vLenT, vLenC, vLenL, reduceIte, decide_true, decide_false, Bool.not_true, Bool.not_false, beq_self_eq_true, Bool.and_true, Bool.true_and, Bool.and_self, Bool.and_false, Bool.false_and, e1, e2, fz_sp1, fr_sp1, sp0, sp1, tup, cm, h1, oD, bkD, isn_sp, hs, h2]
          | some y' => cases m <;> simp (disch := decide) only [f__law_back_sum, m__law_back_sum, u__law_back_sum_1, u__law_back_sum_2, u__law_back_sum_3, u__law_back_sum_4, u__law_back_sum_5, u__law_back_sum_6, u__law_back_sum_7, vIxT2, hw, x_seq, x_seq1, x_seq2, x_seq3, x_seq4, x_seq5, x_seq6, x_nil, x_if, x_if1, x_if2, x_if3, x_ret, x_ret1, x_ret2, x_ret3, x_retN, x_asg, x_asg1, x_asg2, x_asg3, x_asg4, x_asg5, x_gN, x_drop, x_drop1, x_drop2, x_bk, x_ct, x_raise, x_tZ, x_tZ1, x_tZ2, x_tE, x_tE1, x_tE2, x_tE3, x_tAnd, x_tAnd1, x_tAnd2, x_tAnd3, x_tOr, x_tOr1, x_tOr2, x_tOr3, x_tNot, x_tNot1, x_tNot2, x_tNot3, x_tTrue, x_z2, x_z21, x_z1, x_z11, x_zC, x_zC1, x_za, x_za1, x_za0, x_zV, x_zK, x_ch, x_ch1, x_ch2, x_eZ, x_eZ1, x_eZ2, x_eV, x_eV1, x_eM, x_eM1, x_b1, x_b2, x_b3, x_s1, x_s2, x_s3, x_oO, x_oO2, x_e2, x_e1, x_eC, x_aN, x_aC, x_tup, x_lst, x_call, x_oC1, x_oC2, x_call0, x_call01, x_eAnd, x_eAnd1, x_eOr, x_eOr1, x_eNot, x_eNot1, x_eIf, x_eIf1, x_fz_int, x_fr_int, x_fz_bl, x_fr_bl, x_fz_str, x_fr_str, x_fz_ty, x_fr_ty, x_fz_tup, x_fr_tup, x_fz_cst, x_fr_cst, x_fz_lst_false, x_fr_lst_false, x_fz_non, x_fr_non, x_fz_lt, x_fr_lt, x_fL0, x_fL1, x_cF, x_cR1, x_cR2, x_cR3, x_iL, x_iL1, x_iT, x_iT1, x_iS, x_iS1, x_iR1, x_iR11, x_iR2, x_iR21, x_iE, x_iE1, x_iV, x_iV1, x_iZ, x_iZ1, x_for, x_fo0, x_fo1, x_fo2, x_fo3, x_fo4, x_fo5, x_fo6, x_fo7, x_gT, x_gC, x_gC0, x_try, x_try1, x_try2, x_try3, x_try4, x_try5, x_nx1, x_nx2, x_try6, x_try7, x_nx3, x_nx4, x_app, x_app1, x_app2, x_lc, x_lcE, x_lc0, x_lc1, x_lcG, x_w0, x_w1, vMinL4, vMaxL4, vAll3, vAny3, vAll4, vAny4, x_wh1, x_wh2, x_wh0, x_abs, vI_ii, vI_ib, vI_it, vI_il, vI_is, vI_bb, vI_bi, vI_tt, vI_tl, vI_ti, vI_ll, vI_lt, vI_ss, vEqB, vNeB, x_ta, x_ta1, x_ta2, x_ta3, x_ta4, x_ta5, x_is, nc_0, nc_1, nc_2, nc_3, nc_4, nc_5, nc_6, nc_7, nc_8, nc_9, nc_10, nc_11, vMax2, vMin2, vIsN0, vIsN1, vNotN0, vNotN1, vIsN2, vNotN2, x_lo, x_lo1, x_lo2, vAll2, vAny2, x_sl, x_sl1, x_sl2, x_pn, x_ps, x_ps1, x_cutL, x_cutC, vEqS, vNeS, x_fz_obj, x_fr_obj, x_make, x_meth, x_meth2, x_meth3, x_isO, x_isO1, x_cat, x_cat1, x_methZ, x_methZ2, x_methZ3, x_callZ, x_callZ1, x_lend1, x_lend2, x_cl_int, x_cl_bl, x_cl_str, x_cl_non, x_cl_tup, x_cl0, x_cl1, x_cl_lst, x_setIx, x_setIx1, x_setIx2, Option.map_some, List.getD_cons_zero, List.getD_cons_succ, List.set_cons_zero, List.set_cons_succ, List.map_cons, List.map_nil, List.replicate_zero, List.replicate_succ, List.length_cons, List.length_nil, List.cons_append, List.nil_append, Option.bind_some, if_true, if_false, Bool.false_eq_true, Nat.reduceSub, Nat.reduceAdd, Nat.reduceLeDiff, Nat.reduceLT, vAdd, vSub, vLt, vLe, vGt, vGe, vNeg, vEq, vNe, vEq2, vNe2, vMod, vDiv, vMul, vPow, Int.reduceToNat, vIx0, vIx1, vLenT, vLenC, vLenL, reduceIte, decide_true, decide_false, Bool.not_true, Bool.not_false, beq_self_eq_true, Bool.and_true, Bool.true_and, Bool.and_self, Bool.and_false, Bool.false_and, e1, e2, fz_sp1, fr_sp1, sp0, sp1, tup, cm, h1, oD, bkD, isn_sp, hs, h2]
    | false =>
      rw [show back1 false z x y = (z.1 + y.1, z.2 + y.2) from rfl]
      cases h1 : mt x (z.1 + y.1, z.2 + y.2) with
      | none => cases m <;> simp (disch := decide) only [f__law_back_sum, m__law_back_sum, u__law_back_sum_1, u__law_back_sum_2, u__law_back_sum_3, vIxT2, hw, x_seq, x_seq1, x_seq2, x_seq3, x_seq4, x_seq5, x_seq6, x_nil, x_if, x_if1, x_if2, x_if3, x_ret, x_ret1, x_ret2, x_ret3, x_retN, x_asg, x_asg1, x_asg2, x_asg3, x_asg4, x_asg5, x_gN, x_drop, x_drop1, x_drop2, x_bk, x_ct, x_raise, x_tZ, x_tZ1, x_tZ2, x_tE, x_tE1, x_tE2, x_tE3, x_tAnd, x_tAnd1, x_tAnd2, x_tAnd3, x_tOr, x_tOr1, x_tOr2, x_tOr3, x_tNot, x_tNot1, x_tNot2, x_tNot3, x_tTrue, x_z2, x_z21, x_z1, x_z11, x_zC, x_zC1, x_za, x_za1, x_za0, x_zV, x_zK, x_ch, x_ch1, x_ch2, x_eZ, x_eZ1, x_eZ2, x_eV, x_eV1, x_eM, x_eM1, x_b1, x_b2, x_b3, x_s1, x_s2, x_s3, x_oO, x_oO2, x_e2, x_e1, x_eC, x_aN, x_aC, x_tup, x_lst, x_call, x_oC1, x_oC2, x_call0, x_call01, x_eAnd, x_eAnd1, x_eOr, x_eOr1, x_eNot, x_eNot1, x_eIf, x_eIf1, x_fz_int, x_fr_int, x_fz_bl, x_fr_bl, x_fz_str, x_fr_str, x_fz_ty, x_fr_ty, x_fz_tup, x_fr_tup, x_fz_cst, x_fr_cst, x_fz_lst_false, x_fr_lst_false, x_fz_non, x_fr_non, x_fz_lt, x_fr_lt, x_fL0, x_fL1, x_cF, x_cR1, x_cR2, x_cR3, x_iL, x_iL1, x_iT, x_iT1, x_iS, x_iS1, x_iR1, x_iR11, x_iR2, x_iR21, x_iE, x_iE1, x_iV, x_iV1, x_iZ, x_iZ1, x_for, x_fo0, x_fo1, x_fo2, x_fo3, x_fo4, x_fo5, x_fo6, x_fo7, x_gT, x_gC, x_gC0, x_try, x_try1, x_try2, x_try3, x_try4, x_try5, x_nx1, x_nx2, x_try6, x_try7, x_nx3, x_nx4, x_app, x_app1, x_app2, x_lc, x_lcE, x_lc0, x_lc1, x_lcG, x_w0, x_w1, vMinL4, vMaxL4, vAll3, vAny3, vAll4, vAny4, x_wh1, x_wh2, x_wh0, x_abs, vI_ii, vI_ib, vI_it, vI_il, vI_is, vI_bb, vI_bi, vI_tt, vI_tl, vI_ti, vI_ll, vI_lt, vI_ss, vEqB, vNeB, x_ta, x_ta1, x_ta2, x_ta3, x_ta4, x_ta5, x_is, nc_0, nc_1, nc_2, nc_3, nc_4, nc_5, nc_6, nc_7, nc_8, nc_9, nc_10, nc_11, vMax2, vMin2, vIsN0, vIsN1, vNotN0, vNotN1, vIsN2, vNotN2, x_lo, x_lo1, x_lo2, vAll2, vAny2, x_sl, x_sl1, x_sl2, x_pn, x_ps, x_ps1, x_cutL, x_cutC, vEqS, vNeS, x_fz_obj, x_fr_obj, x_make, x_meth, x_meth2, x_meth3, x_isO, x_isO1, x_cat, x_cat1, x_methZ, x_methZ2, x_methZ3, x_callZ, x_callZ1, x_lend1, x_lend2, x_cl_int, x_cl_bl, x_cl_str, x_cl_non, x_cl_tup, x_cl0, x_cl1, x_cl_lst, x_setIx, x_setIx1, x_setIx2, Option.map_some, List.getD_cons_zero, List.getD_cons_succ, List.set_cons_zero, List.set_cons_succ, List.map_cons, List.map_nil, List.replicate_zero, List.replicate_succ, List.length_cons, List.length_nil, List.cons_append, List.nil_append, Option.bind_some, if_true, if_false, Bool.false_eq_true, Nat.reduceSub, Nat.reduceAdd, Nat.reduceLeDiff, Nat.reduceLT, vAdd, vSub, vLt, vLe, vGt, vGe, vNeg, vEq, vNe, vEq2, vNe2, vMod, vDiv, vMul, vPow, Int.reduceToNat, vIx0, vIx1, vLenT, vLenC, vLenL, reduceIte, decide_true, decide_false, Bool.not_true, Bool.not_false, beq_self_eq_true, Bool.and_true, Bool.true_and, Bool.and_self, Bool.and_false, Bool.false_and, e1, e2, fz_sp1, fr_sp1, sp0, sp1, tup, cm, h1, oD, bkD]
      | some x' =>
        simp only
        rw [show back2 false z x' y = (x'.1 - z.2, x'.2 - z.1) from rfl]
        cases hs : (i == j) with
        | true =>
          simp only [if_true]
          cases h2 : mt x' (x'.1 - z.2, x'.2 - z.1) with
          | none => cases m <;> simp (disch := decide) only [f__law_back_sum, m__law_back_sum, u__law_back_sum_1, u__law_back_sum_2, u__law_back_sum_3, u__law_back_sum_4, u__law_back_sum_5, u__law_back_sum_6, vIxT2, hw, x_seq, x_seq1, x_seq2, x_seq3, x_seq4, x_seq5, x_seq6, x_nil, x_if, x_if1, x_if2, x_if3, x_ret, x_ret1, x_ret2, x_ret3, x_retN, x_asg, x_asg1, x_asg2, x_asg3, x_asg4, x_asg5, x_gN, x_drop, x_drop1, x_drop2, x_bk, x_ct, x_raise, x_tZ, x_tZ1, x_tZ2, x_tE, x_tE1, x_tE2, x_tE3, x_tAnd, x_tAnd1, x_tAnd2, x_tAnd3, x_tOr, x_tOr1, x_tOr2, x_tOr3, x_tNot, x_tNot1, x_tNot2, x_tNot3, x_tTrue, x_z2, x_z21, x_z1, x_z11, x_zC, x_zC1, x_za, x_za1, x_za0, x_zV, x_zK, x_ch, x_ch1, x_ch2, x_eZ, x_eZ1, x_eZ2, x_eV, x_eV1, x_eM, x_eM1, x_b1, x_b2, x_b3, x_s1, x_s2, x_s3, x_oO, x_oO2, x_e2, x_e1, x_eC, x_aN, x_aC, x_tup, x_lst, x_call, x_oC1, x_oC2, x_call0, x_call01, x_eAnd, x_eAnd1, x_eOr, x_eOr1, x_eNot, x_eNot1, x_eIf, x_eIf1, x_fz_int, x_fr_int, x_fz_bl, x_fr_bl, x_fz_str, x_fr_str, x_fz_ty, x_fr_ty, x_fz_tup, x_fr_tup, x_fz_cst, x_fr_cst, x_fz_lst_false, x_fr_lst_false, x_fz_non, x_fr_non, x_fz_lt, x_fr_lt, x_fL0, x_fL1, x_cF, x_cR1, x_cR2, x_cR3, x_iL, x_iL1, x_iT, x_iT1, x_iS, x_iS1, x_iR1, x_iR11, x_iR2, x_iR21, x_iE, x_iE1, x_iV, x_iV1, x_iZ, x_iZ1, x_for, x_fo0, x_fo1, x_fo2, x_fo3, x_fo4, x_fo5, x_fo6, x_fo7, x_gT, x_gC, x_gC0, x_try, x_try1, x_try2, x_try3, x_try4, x_try5, x_nx1, x_nx2, x_try6, x_try7, x_nx3, x_nx4, x_app, x_app1, x_app2, x_lc, x_lcE, x_lc0, x_lc1, x_lcG, x_w0, x_w1, vMinL4, vMaxL4, vAll3, vAny3, vAll4, vAny4, x_wh1, x_wh2, x_wh0, x_abs, vI_ii, vI_ib, vI_it, vI_il, vI_is, vI_bb, vI_bi, vI_tt, vI_tl, vI_ti, vI_ll, vI_lt, vI_ss, vEqB, vNeB, x_ta, x_ta1, x_ta2, x_ta3, x_ta4, x_ta5, x_is, nc_0, nc_1, nc_2, nc_3, nc_4, nc_5, nc_6, nc_7, nc_8, nc_9, nc_10, nc_11, vMax2, vMin2, vIsN0, vIsN1, vNotN0, vNotN1, vIsN2, vNotN2, x_lo, x_lo1, x_lo2, vAll2, vAny2, x_sl, x_sl1, x_sl2, x_pn, x_ps, x_ps1, x_cutL, x_cutC, vEqS, vNeS, x_fz_obj, x_fr_obj, x_make, x_meth, x_meth2, x_meth3, x_isO, x_isO1, x_cat, x_cat1, x_methZ, x_methZ2, x_methZ3, x_callZ, x_callZ1, x_lend1, x_lend2, x_cl_int, x_cl_bl, x_cl_str, x_cl_non, x_cl_tup, x_cl0, x_cl1, x_cl_lst, x_setIx, x_setIx1, x_setIx2, Option.map_some, List.getD_cons_zero, List.getD_cons_succ, List.set_cons_zero, List.set_cons_succ, List.map_cons, List.map_nil, List.replicate_zero, List.replicate_succ, List.length_cons, List.length_nil, List.cons_append, List.nil_append, Option.bind_some, if_true, if_false, Bool.false_eq_true, Nat.reduceSub, Nat.reduceAdd, Nat.reduceLeDiff, Nat.reduceLT, vAdd, vSub, vLt, vLe, vGt, vGe, vNeg, vEq, vNe, vEq2, vNe2, vMod, vDiv, vMul, vPow, Int.reduceToNat, vIx0, vIx1, vLenT, vLenC, vLenL, reduceIte, decide_true, decide_false, Bool.not_true, Bool.not_false, beq_self_eq_true, Bool.and_true, Bool.true_and, Bool.and_self, Bool.and_false, Bool.false_and, e1, e2, fz_sp1, fr_sp1, sp0, sp1, tup, cm, h1, oD, bkD, isn_sp, hs, h2]
          | some y' => cases m <;> simp (disch := decide) only [f__law_back_sum, m__law_back_sum, u__law_back_sum_1, u__law_back_sum_2, u__law_back_sum_3, u__law_back_sum_4, u__law_back_sum_5, u__law_back_sum_6, u__law_back_sum_7, vIxT2, hw, x_seq, x_seq1, x_seq2, x_seq3, x_seq4, x_seq5, x_seq6, x_nil, x_if, x_if1, x_if2, x_if3, x_ret, x_ret1, x_ret2, x_ret3, x_retN, x_asg, x_asg1, x_asg2, x_asg3, x_asg4, x_asg5, x_gN, x_drop, x_drop1, x_drop2, x_bk, x_ct, x_raise, x_tZ, x_tZ1, x_tZ2, x_tE, x_tE1, x_tE2, x_tE3, x_tAnd, x_tAnd1, x_tAnd2, x_tAnd3, x_tOr, x_tOr1, x_tOr2, x_tOr3, x_tNot, x_tNot1, x_tNot2, x_tNot3, x_tTrue, x_z2, x_z21, x_z1, x_z11, x_zC, x_zC1, x_za, x_za1, x_za0, x_zV, x_zK, x_ch, x_ch1, x_ch2, x_eZ, x_eZ1, x_eZ2, x_eV, x_eV1, x_eM, x_eM1, x_b1, x_b2, x_b3, x_s1, x_s2, x_s3, x_oO, x_oO2, x_e2, x_e1, x_eC, x_aN, x_aC, x_tup, x_lst, x_call, x_oC1, x_oC2, x_call0, x_call01, x_eAnd, x_eAnd1, x_eOr, x_eOr1, x_eNot, x_eNot1, x_eIf, x_eIf1, x_fz_int, x_fr_int, x_fz_bl, x_fr_bl, x_fz_str, x_fr_str, x_fz_ty, x_fr_ty, x_fz_tup, x_fr_tup, x_fz_cst, x_fr_cst, x_fz_lst_false, x_fr_lst_false, x_fz_non, x_fr_non, x_fz_lt, x_fr_lt, x_fL0, x_fL1, x_cF, x_cR1, x_cR2, x_cR3, x_iL, x_iL1, x_iT, x_iT1, x_iS, x_iS1, x_iR1, x_iR11, x_iR2, x_iR21, x_iE, x_iE1, x_iV, x_iV1, x_iZ, x_iZ1, x_for, x_fo0, x_fo1, x_fo2, x_fo3, x_fo4, x_fo5, x_fo6, x_fo7, x_gT, x_gC, x_gC0, x_try, x_try1, x_try2, x_try3, x_try4, x_try5, x_nx1, x_nx2, x_try6, x_try7, x_nx3, x_nx4, x_app, x_app1, x_app2, x_lc, x_lcE, x_lc0, x_lc1, x_lcG, x_w0, x_w1, vMinL4, vMaxL4, vAll3, vAny3, vAll4, vAny4, x_wh1, x_wh2, x_wh0, x_abs, vI_ii, vI_ib, vI_it, vI_il, vI_is, vI_bb, vI_bi, vI_tt, vI_tl, vI_ti, vI_ll, vI_lt, vI_ss, vEqB, vNeB, x_ta, x_ta1, x_ta2, x_ta3, x_ta4, x_ta5, x_is, nc_0, nc_1, nc_2, nc_3, nc_4, nc_5, nc_6, nc_7, nc_8, nc_9, nc_10, nc_11, vMax2, vMin2, vIsN0, vIsN1, vNotN0, vNotN1, vIsN2, vNotN2, x_lo, x_lo1, x_lo2, vAll2, vAny2, x_sl, x_sl1, x_sl2, x_pn, x_ps, x_ps1, x_cutL, x_cutC, vEqS, vNeS, x_fz_obj, x_fr_obj, x_make, x_meth, x_meth2, x_meth3, x_isO, x_isO1, x_cat, x_cat1, x_methZ, x_methZ2, x_methZ3, x_callZ, x_callZ1, x_lend1, x_lend2, x_cl_int, x_cl_bl, x_cl_str, x_cl_non, x_cl_tup, x_cl0, x_cl1, x_cl_lst, x_setIx, x_setIx1, x_setIx2, Option.map_some, List.getD_cons_zero, List.getD_cons_succ, List.set_cons_zero, List.set_cons_succ, List.map_cons, List.map_nil, List.replicate_zero, List.replicate_succ, List.length_cons, List.length_nil, List.cons_append, List.nil_append, Option.bind_some, if_true, if_false, Bool.false_eq_true, Nat.reduceSub, Nat.reduceAdd, Nat.reduceLeDiff, Nat.reduceLT, vAdd, vSub, vLt, vLe, vGt, vGe, vNeg, vEq, vNe, vEq2, vNe2, vMod, vDiv, vMul, vPow, Int.reduceToNat, vIx0, vIx1, vLenT, vLenC, vLenL, reduceIte, decide_true, decide_false, Bool.not_true, Bool.not_false, beq_self_eq_true, Bool.and_true, Bool.true_and, Bool.and_self, Bool.and_false, Bool.false_and, e1, e2, fz_sp1, fr_sp1, sp0, sp1, tup, cm, h1, oD, bkD, isn_sp, hs, h2]
        | false =>
          simp only [Bool.false_eq_true, if_false]
          cases h2 : mt y (x'.1 - z.2, x'.2 - z.1) with
          | none => cases m <;> simp (disch := decide) only [f__law_back_sum, m__law_back_sum, u__law_back_sum_1, u__law_back_sum_2, u__law_back_sum_3, u__law_back_sum_4, u__law_back_sum_5, u__law_back_sum_6, vIxT2, hw, x_seq, x_seq1, x_seq2, x_seq3, x_seq4, x_seq5, x_seq6, x_nil, x_if, x_if1, x_if2, x_if3, x_ret, x_ret1, x_ret2, x_ret3, x_retN, x_asg, x_asg1, x_asg2, x_asg3, x_asg4, x_asg5, x_gN, x_drop, x_drop1, x_drop2, x_bk, x_ct, x_raise, x_tZ, x_tZ1, x_tZ2, x_tE, x_tE1, x_tE2, x_tE3, x_tAnd, x_tAnd1, x_tAnd2, x_tAnd3, x_tOr, x_tOr1, x_tOr2, x_tOr3, x_tNot, x_tNot1, x_tNot2, x_tNot3, x_tTrue, x_z2, x_z21, x_z1, x_z11, x_zC, x_zC1, x_za, x_za1, x_za0, x_zV, x_zK, x_ch, x_ch1, x_ch2, x_eZ, x_eZ1, x_eZ2, x_eV, x_eV1, x_eM, x_eM1, x_b1, x_b2, x_b3, x_s1, x_s2, x_s3, x_oO, x_oO2, x_e2, x_e1, x_eC, x_aN, x_aC, x_tup, x_lst, x_call, x_oC1, x_oC2, x_call0, x_call01, x_eAnd, x_eAnd1, x_eOr, x_eOr1, x_eNot, x_eNot1, x_eIf, x_eIf1, x_fz_int, x_fr_int, x_fz_bl, x_fr_bl, x_fz_str, x_fr_str, x_fz_ty, x_fr_ty, x_fz_tup, x_fr_tup, x_fz_cst, x_fr_cst, x_fz_lst_false, x_fr_lst_false, x_fz_non, x_fr_non, x_fz_lt, x_fr_lt, x_fL0, x_fL1, x_cF, x_cR1, x_cR2, x_cR3, x_iL, x_iL1, x_iT, x_iT1, x_iS, x_iS1, x_iR1, x_iR11, x_iR2, x_iR21, x_iE, x_iE1, x_iV, x_iV1, x_iZ, x_iZ1, x_for, x_fo0, x_fo1, x_fo2, x_fo3, x_fo4, x_fo5, x_fo6, x_fo7, x_gT, x_gC, x_gC0, x_try, x_try1, x_try2, x_try3, x_try4, x_try5, x_nx1, x_nx2, x_try6, x_try7, x_nx3, x_nx4, x_app, x_app1, x_app2, x_lc, x_lcE, x_lc0, x_lc1, x_lcG, x_w0, x_w1, vMinL4, vMaxL4, vAll3, vAny3, vAll4, vAny4, x_wh1, x_wh2, x_wh0, x_abs, vI_ii, vI_ib, vI_it, vI_il, vI_is, vI_bb, vI_bi, vI_tt, vI_tl, vI_ti, vI_ll, vI_lt, vI_ss, vEqB, vNeB, x_ta, x_ta1, x_ta2, x_ta3, x_ta4, x_ta5, x_is, nc_0, nc_1, nc_2, nc_3, nc_4, nc_5, nc_6, nc_7, nc_8, nc_9, nc_10, nc_11, vMax2, vMin2, vIsN0, vIsN1, vNotN0, vNotN1, vIsN2, vNotN2, x_lo, x_lo1, x_lo2, vAll2, vAny2, x_sl, x_sl1, x_sl2, x_pn, x_ps, x_ps1, x_cutL, x_cutC, vEqS, vNeS, x_fz_obj, x_fr_obj, x_make, x_meth, x_meth2, x_meth3, x_isO, x_isO1, x_cat, x_cat1, x_methZ, x_methZ2, x_methZ3, x_callZ, x_callZ1, x_lend1, x_lend2, x_cl_int, x_cl_bl, x_cl_str, x_cl_non, x_cl_tup, x_cl0, x_cl1, x_cl_lst, x_setIx, x_setIx1, x_setIx2, Option.map_some, List.getD_cons_zero, List.getD_cons_succ, List.set_cons_zero, List.set_cons_succ, List.map_cons, List.map_nil, List.replicate_zero, List.replicate_succ, List.length_cons, List.length_nil, List.cons_append, List.nil_append, Option.bind_some, if_true, if_false, Bool.false_eq_true, Nat.reduceSub, Nat.reduceAdd, Nat.reduceLeDiff, Nat.reduceLT, vAdd, vSub, vLt, vLe, vGt, vGe, vNeg, vEq, vNe, vEq2, vNe2, vMod, vDiv, vMul, vPow, Int.reduceToNat, vIx0, vIx1, vLenT, vLenC, vLenL, reduceIte, decide_true, decide_false, Bool.not_true, Bool.not_false, beq_self_eq_true, Bool.and_true, Bool.true_and, Bool.and_self, Bool.and_false, Bool.false_and, e1, e2, fz_sp1, fr_sp1, sp0, sp1, tup, cm, h1, oD, bkD, isn_sp, hs, h2]
          | some y' => cases m <;> simp (disch := decide) only [f__law_back_sum, m__law_back_sum, u__law_back_sum_1, u__law_back_sum_2, u__law_back_sum_3, u__law_back_sum_4, u__law_back_sum_5, u__law_back_sum_6, u__law_back_sum_7, vIxT2, hw, x_seq, x_seq1, x_seq2, x_seq3, x_seq4, x_seq5, x_seq6, x_nil, x_if, x_if1, x_if2, x_if3, x_ret, x_ret1, x_ret2, x_ret3, x_retN, x_asg, x_asg1, x_asg2, x_asg3, x_asg4, x_asg5, x_gN, x_drop, x_drop1, x_drop2, x_bk, x_ct, x_raise, x_tZ, x_tZ1, x_tZ2, x_tE, x_tE1, x_tE2, x_tE3, x_tAnd, x_tAnd1, x_tAnd2, x_tAnd3, x_tOr, x_tOr1, x_tOr2, x_tOr3, x_tNot, x_tNot1, x_tNot2, x_tNot3, x_tTrue, x_z2, x_z21, x_z1, x_z11, x_zC, x_zC1, x_za, x_za1, x_za0, x_zV, x_zK, x_ch, x_ch1, x_ch2, x_eZ, x_eZ1, x_eZ2, x_eV, x_eV1, x_eM, x_eM1, x_b1, x_b2, x_b3, x_s1, x_s2, x_s3, x_oO, x_oO2, x_e2, x_e1, x_eC, x_aN, x_aC, x_tup, x_lst, x_call, x_oC1, x_oC2, x_call0, x_call01, x_eAnd, x_eAnd1, x_eOr, x_eOr1, x_eNot, x_eNot1, x_eIf, x_eIf1, x_fz_int, x_fr_int, x_fz_bl, x_fr_bl, x_fz_str, x_fr_str, x_fz_ty, x_fr_ty, x_fz_tup, x_fr_tup, x_fz_cst, x_fr_cst, x_fz_lst_false, x_fr_lst_false, x_fz_non, x_fr_non, x_fz_lt, x_fr_lt, x_fL0, x_fL1, x_cF, x_cR1, x_cR2, x_cR3, x_iL, x_iL1, x_iT, x_iT1, x_iS, x_iS1, x_iR1, x_iR11, x_iR2, x_iR21, x_iE, x_iE1, x_iV, x_iV1, x_iZ, x_iZ1, x_for, x_fo0, x_fo1, x_fo2, x_fo3, x_fo4, x_fo5, x_fo6, x_fo7, x_gT, x_gC, x_gC0, x_try, x_try1, x_try2, x_try3, x_try4, x_try5, x_nx1, x_nx2, x_try6, x_try7, x_nx3, x_nx4, x_app, x_app1, x_app2, x_lc, x_lcE, x_lc0, x_lc1, x_lcG, x_w0, x_w1, vMinL4, vMaxL4, vAll3, vAny3, vAll4, vAny4, x_wh1, x_wh2, x_wh0, x_abs, vI_ii, vI_ib, vI_it, vI_il, vI_is, vI_bb, vI_bi, vI_tt, vI_tl, vI_ti, vI_ll, vI_lt, vI_ss, vEqB, vNeB, x_ta, x_ta1, x_ta2, x_ta3, x_ta4, x_ta5, x_is, nc_0, nc_1, nc_2, nc_3, nc_4, nc_5, nc_6, nc_7, nc_8, nc_9, nc_10, nc_11, vMax2, vMin2, vIsN0, vIsN1, vNotN0, vNotN1, vIsN2, vNotN2, x_lo, x_lo1, x_lo2, vAll2, vAny2, x_sl, x_sl1, x_sl2, x_pn, x_ps, x_ps1, x_cutL, x_cutC, vEqS, vNeS, x_fz_obj, x_fr_obj, x_make, x_meth, x_meth2, x_meth3, x_isO, x_isO1, x_cat, x_cat1, x_methZ, x_methZ2, x_methZ3, x_callZ, x_callZ1, x_lend1, x_lend2, x_cl_int, x_cl_bl, x_cl_str, x_cl_non, x_cl_tup, x_cl0, x_cl1, x_cl_lst, x_setIx, x_setIx1, x_setIx2, Option.map_some, List.getD_cons_zero, List.getD_cons_succ, List.set_cons_zero, List.set_cons_succ, List.map_cons, List.map_nil, List.replicate_zero, List.replicate_succ, List.length_cons, List.length_nil, List.cons_append, List.nil_append, Option.bind_some, if_true, if_false, Bool.false_eq_true, Nat.reduceSub, Nat.reduceAdd, Nat.reduceLeDiff, Nat.reduceLT, vAdd, vSub, vLt, vLe, vGt, vGe, vNeg, vEq, vNe, vEq2, vNe2, vMod, vDiv, vMul, vPow, Int.reduceToNat, vIx0, vIx1, vLenT, vLenC, vLenL, reduceIte, decide_true, decide_false, Bool.not_true, Bool.not_false, beq_self_eq_true, Bool.and_true, Bool.true_and, Bool.and_self, Bool.and_false, Bool.false_and, e1, e2, fz_sp1, fr_sp1, sp0, sp1, tup, cm, h1, oD, bkD, isn_sp, hs, h2]
  cases plus with
  | true => exact go true "plus" we_plus_plus rfl
  | false => exact go false "minus" we_minus_plus rfl
/-- the program's way -/
theorem pair_ok {i0 j0 : Int} {plus : Bool} {ob : D} (hob : (plus = true ∧ ob = .obj false "Plus" ["one", "other"] [.int i0, .int j0]) ∨ (plus = false ∧ ob = .obj false "Minus" ["one", "other"] [.int i0, .int j0])) {S : List D} {i j g : Int} {x y z : Int × Int} (e1 : gIx (.lst false S) (.int i) = some (spD x)) (e2 : gIx (.lst false S) (.int j) = some (spD y)) :
    f_Node_pair_back [ob, .lst false S, spD z, .int g, .int i, .int j] = .ok (bkD i j (bk plus (i == j) z x y)) := by
  have cm := fun p q => (common_ok p q).1
  unfold bk
  rcases hob with ⟨rfl, rfl⟩ | ⟨rfl, rfl⟩
  · rw [show back1 true z x y = subS z y from rfl]
    cases h1 : mt x (subS z y) with
    | none => simp (disch := decide) only [f_Node_pair_back, m_Node_pair_back, x_seq, x_seq1, x_seq2, x_seq3, x_seq4, x_seq5, x_seq6, x_nil, x_if, x_if1, x_if2, x_if3, x_ret, x_ret1, x_ret2, x_ret3, x_retN, x_asg, x_asg1, x_asg2, x_asg3, x_asg4, x_asg5, x_gN, x_drop, x_drop1, x_drop2, x_bk, x_ct, x_raise, x_tZ, x_tZ1, x_tZ2, x_tE, x_tE1, x_tE2, x_tE3, x_tAnd, x_tAnd1, x_tAnd2, x_tAnd3, x_tOr, x_tOr1, x_tOr2, x_tOr3, x_tNot, x_tNot1, x_tNot2, x_tNot3, x_tTrue, x_z2, x_z21, x_z1, x_z11, x_zC, x_zC1, x_za, x_za1, x_za0, x_zV, x_zK, x_ch, x_ch1, x_ch2, x_eZ, x_eZ1, x_eZ2, x_eV, x_eV1, x_eM, x_eM1, x_b1, x_b2, x_b3, x_s1, x_s2, x_s3, x_oO, x_oO2, x_e2, x_e1, x_eC, x_aN, x_aC, x_tup, x_lst, x_call, x_oC1, x_oC2, x_call0, x_call01, x_eAnd, x_eAnd1, x_eOr, x_eOr1, x_eNot, x_eNot1, x_eIf, x_eIf1, x_fz_int, x_fr_int, x_fz_bl, x_fr_bl, x_fz_str, x_fr_str, x_fz_ty, x_fr_ty, x_fz_tup, x_fr_tup, x_fz_cst, x_fr_cst, x_fz_lst_false, x_fr_lst_false, x_fz_non, x_fr_non, x_fz_lt, x_fr_lt, x_fL0, x_fL1, x_cF, x_cR1, x_cR2, x_cR3, x_iL, x_iL1, x_iT, x_iT1, x_iS, x_iS1, x_iR1, x_iR11, x_iR2, x_iR21, x_iE, x_iE1, x_iV, x_iV1, x_iZ, x_iZ1, x_for, x_fo0, x_fo1, x_fo2, x_fo3, x_fo4, x_fo5, x_fo6, x_fo7, x_gT, x_gC, x_gC0, x_try, x_try1, x_try2, x_try3, x_try4, x_try5, x_nx1, x_nx2, x_try6, x_try7, x_nx3, x_nx4, x_app, x_app1, x_app2, x_lc, x_lcE, x_lc0, x_lc1, x_lcG, x_w0, x_w1, vMinL4, vMaxL4, vAll3, vAny3, vAll4, vAny4, x_wh1, x_wh2, x_wh0, x_abs, vI_ii, vI_ib, vI_it, vI_il, vI_is, vI_bb, vI_bi, vI_tt, vI_tl, vI_ti, vI_ll, vI_lt, vI_ss, vEqB, vNeB, x_ta, x_ta1, x_ta2, x_ta3, x_ta4, x_ta5, x_is, nc_0, nc_1, nc_2, nc_3, nc_4, nc_5, nc_6, nc_7, nc_8, nc_9, nc_10, nc_11, vMax2, vMin2, vIsN0, vIsN1, vNotN0, vNotN1, vIsN2, vNotN2, x_lo, x_lo1, x_lo2, vAll2, vAny2, x_sl, x_sl1, x_sl2, x_pn, x_ps, x_ps1, x_cutL, x_cutC, vEqS, vNeS, x_fz_obj, x_fr_obj, x_make, x_meth, x_meth2, x_meth3, x_isO, x_isO1, x_cat, x_cat1, x_methZ, x_methZ2, x_methZ3, x_callZ, x_callZ1, x_lend1, x_lend2, x_cl_int, x_cl_bl, x_cl_str, x_cl_non, x_cl_tup, x_cl0, x_cl1, x_cl_lst, x_setIx, x_setIx1, x_setIx2, Option.map_some, List.getD_cons_zero, List.getD_cons_succ, List.set_cons_zero, List.set_cons_succ, List.map_cons, List.map_nil, List.replicate_zero, List.replicate_succ, List.length_cons, List.length_nil, List.cons_append, List.nil_append, Option.bind_some, if_true, if_false, Bool.false_eq_true, Nat.reduceSub, Nat.reduceAdd, Nat.reduceLeDiff, Nat.reduceLT, vAdd, vSub, vLt, vLe, vGt, vGe, vNeg, vEq, vNe, vEq2, vNe2, vMod, vDiv, vMul, vPow, Int.reduceToNat, vIx0, vIx1, vLenT, vLenC, vLenL, reduceIte, decide_true, decide_false, Bool.not_true, Bool.not_false, beq_self_eq_true, Bool.and_true, Bool.true_and, Bool.and_self, Bool.and_false, Bool.false_and, e1, e2, fz_sp1, fr_sp1, al_first_back_Plus, nm_Plus_first_back, f_Plus_first_back, m_Plus_first_back, take_ok, cm, h1, oD, bkD]
    | some x' =>
      simp only
      rw [show back2 true z x' y = subS z x' from rfl]
      cases hs : (i == j) with
      | true =>
        simp only [if_true]
        cases h2 : mt x' (subS z x') with
        | none => simp (disch := decide) only [f_Node_pair_back, m_Node_pair_back, x_seq, x_seq1, x_seq2, x_seq3, x_seq4, x_seq5, x_seq6, x_nil, x_if, x_if1, x_if2, x_if3, x_ret, x_ret1, x_ret2, x_ret3, x_retN, x_asg, x_asg1, x_asg2, x_asg3, x_asg4, x_asg5, x_gN, x_drop, x_drop1, x_drop2, x_bk, x_ct, x_raise, x_tZ, x_tZ1, x_tZ2, x_tE, x_tE1, x_tE2, x_tE3, x_tAnd, x_tAnd1, x_tAnd2, x_tAnd3, x_tOr, x_tOr1, x_tOr2, x_tOr3, x_tNot, x_tNot1, x_tNot2, x_tNot3, x_tTrue, x_z2, x_z21, x_z1, x_z11, x_zC, x_zC1, x_za, x_za1, x_za0, x_zV, x_zK, x_ch, x_ch1, x_ch2, x_eZ, x_eZ1, x_eZ2, x_eV, x_eV1, x_eM, x_eM1, x_b1, x_b2, x_b3, x_s1, x_s2, x_s3, x_oO, x_oO2, x_e2, x_e1, x_eC, x_aN, x_aC, x_tup, x_lst, x_call, x_oC1, x_oC2, x_call0, x_call01, x_eAnd, x_eAnd1, x_eOr, x_eOr1, x_eNot, x_eNot1, x_eIf, x_eIf1, x_fz_int, x_fr_int, x_fz_bl, x_fr_bl, x_fz_str, x_fr_str, x_fz_ty, x_fr_ty, x_fz_tup, x_fr_tup, x_fz_cst, x_fr_cst, x_fz_lst_false, x_fr_lst_false, x_fz_non, x_fr_non, x_fz_lt, x_fr_lt, x_fL0, x_fL1, x_cF, x_cR1, x_cR2, x_cR3, x_iL, x_iL1, x_iT, x_iT1, x_iS, x_iS1, x_iR1, x_iR11, x_iR2, x_iR21, x_iE, x_iE1, x_iV, x_iV1, x_iZ, x_iZ1, x_for, x_fo0, x_fo1, x_fo2, x_fo3, x_fo4, x_fo5, x_fo6, x_fo7, x_gT, x_gC, x_gC0, x_try, x_try1, x_try2, x_try3, x_try4, x_try5, x_nx1, x_nx2, x_try6, x_try7, x_nx3, x_nx4, x_app, x_app1, x_app2, x_lc, x_lcE, x_lc0, x_lc1, x_lcG, x_w0, x_w1, vMinL4, vMaxL4, vAll3, vAny3, vAll4, vAny4, x_wh1, x_wh2, x_wh0, x_abs, vI_ii, vI_ib, vI_it, vI_il, vI_is, vI_bb, vI_bi, vI_tt, vI_tl, vI_ti, vI_ll, vI_lt, vI_ss, vEqB, vNeB, x_ta, x_ta1, x_ta2, x_ta3, x_ta4, x_ta5, x_is, nc_0, nc_1, nc_2, nc_3, nc_4, nc_5, nc_6, nc_7, nc_8, nc_9, nc_10, nc_11, vMax2, vMin2, vIsN0, vIsN1, vNotN0, vNotN1, vIsN2, vNotN2, x_lo, x_lo1, x_lo2, vAll2, vAny2, x_sl, x_sl1, x_sl2, x_pn, x_ps, x_ps1, x_cutL, x_cutC, vEqS, vNeS, x_fz_obj, x_fr_obj, x_make, x_meth, x_meth2, x_meth3, x_isO, x_isO1, x_cat, x_cat1, x_methZ, x_methZ2, x_methZ3, x_callZ, x_callZ1, x_lend1, x_lend2, x_cl_int, x_cl_bl, x_cl_str, x_cl_non, x_cl_tup, x_cl0, x_cl1, x_cl_lst, x_setIx, x_setIx1, x_setIx2, Option.map_some, List.getD_cons_zero, List.getD_cons_succ, List.set_cons_zero, List.set_cons_succ, List.map_cons, List.map_nil, List.replicate_zero, List.replicate_succ, List.length_cons, List.length_nil, List.cons_append, List.nil_append, Option.bind_some, if_true, if_false, Bool.false_eq_true, Nat.reduceSub, Nat.reduceAdd, Nat.reduceLeDiff, Nat.reduceLT, vAdd, vSub, vLt, vLe, vGt, vGe, vNeg, vEq, vNe, vEq2, vNe2, vMod, vDiv, vMul, vPow, Int.reduceToNat, vIx0, vIx1, vLenT, vLenC, vLenL, reduceIte, decide_true, decide_false, Bool.not_true, Bool.not_false, beq_self_eq_true, Bool.and_true, Bool.true_and, Bool.and_self, Bool.and_false, Bool.false_and, e1, e2, fz_sp1, fr_sp1, al_first_back_Plus, nm_Plus_first_back, f_Plus_first_back, m_Plus_first_back, al_second_back_Plus, nm_Plus_second_back, f_Plus_second_back, m_Plus_second_back, take_ok, cm, h1, oD, bkD, isn_sp, hs, h2]
        | some y' => simp (disch := decide) only [f_Node_pair_back, m_Node_pair_back, x_seq, x_seq1, x_seq2, x_seq3, x_seq4, x_seq5, x_seq6, x_nil, x_if, x_if1, x_if2, x_if3, x_ret, x_ret1, x_ret2, x_ret3, x_retN, x_asg, x_asg1, x_asg2, x_asg3, x_asg4, x_asg5, x_gN, x_drop, x_drop1, x_drop2, x_bk, x_ct, x_raise, x_tZ, x_tZ1, x_tZ2, x_tE, x_tE1, x_tE2, x_tE3, x_tAnd, x_tAnd1, x_tAnd2, x_tAnd3, x_tOr, x_tOr1, x_tOr2, x_tOr3, x_tNot, x_tNot1, x_tNot2, x_tNot3, x_tTrue, x_z2, x_z21, x_z1, x_z11, x_zC, x_zC1, x_za, x_za1, x_za0, x_zV, x_zK, x_ch, x_ch1, x_ch2, x_eZ, x_eZ1, x_eZ2, x_eV, x_eV1, x_eM, x_eM1, x_b1, x_b2, x_b3, x_s1, x_s2, x_s3, x_oO, x_oO2, x_e2, x_e1, x_eC, x_aN, x_aC, x_tup, x_lst, x_call, x_oC1, x_oC2, x_call0, x_call01, x_eAnd, x_eAnd1, x_eOr, x_eOr1, x_eNot, x_eNot1, x_eIf, x_eIf1, x_fz_int, x_fr_int, x_fz_bl, x_fr_bl, x_fz_str, x_fr_str, x_fz_ty, x_fr_ty, x_fz_tup, x_fr_tup, x_fz_cst, x_fr_cst, x_fz_lst_false, x_fr_lst_false, x_fz_non, x_fr_non, x_fz_lt, x_fr_lt, x_fL0, x_fL1, x_cF, x_cR1, x_cR2, x_cR3, x_iL, x_iL1, x_iT, x_iT1, x_iS, x_iS1, x_iR1, x_iR11, x_iR2, x_iR21, x_iE, x_iE1, x_iV, x_iV1, x_iZ, x_iZ1, x_for, x_fo0, x_fo1, x_fo2, x_fo3, x_fo4, x_fo5, x_fo6, x_fo7, x_gT, x_gC, x_gC0, x_try, x_try1, x_try2, x_try3, x_try4, x_try5, x_nx1, x_nx2, x_try6, x_try7, x_nx3, x_nx4, x_app, x_app1, x_app2, x_lc, x_lcE, x_lc0, x_lc1, x_lcG, x_w0, x_w1, vMinL4, vMaxL4, vAll3, vAny3, vAll4, vAny4, x_wh1, x_wh2, x_wh0, x_abs, vI_ii, vI_ib, vI_it, vI_il, vI_is, vI_bb, vI_bi, vI_tt, vI_tl, vI_ti, vI_ll, vI_lt, vI_ss, vEqB, vNeB, x_ta, x_ta1, x_ta2, x_ta3, x_ta4, x_ta5, x_is, nc_0, nc_1, nc_2, nc_3, nc_4, nc_5, nc_6, nc_7, nc_8, nc_9, nc_10, nc_11, vMax2, vMin2, vIsN0, vIsN1, vNotN0, vNotN1, vIsN2, vNotN2, x_lo, x_lo1, x_lo2, vAll2, vAny2, x_sl, x_sl1, x_sl2, x_pn, x_ps, x_ps1, x_cutL, x_cutC, vEqS, vNeS, x_fz_obj, x_fr_obj, x_make, x_meth, x_meth2, x_meth3, x_isO, x_isO1, x_cat, x_cat1, x_methZ, x_methZ2, x_methZ3, x_callZ, x_callZ1, x_lend1, x_lend2, x_cl_int, x_cl_bl, x_cl_str, x_cl_non, x_cl_tup, x_cl0, x_cl1, x_cl_lst, x_setIx, x_setIx1, x_setIx2, Option.map_some, List.getD_cons_zero, List.getD_cons_succ, List.set_cons_zero, List.set_cons_succ, List.map_cons, List.map_nil, List.replicate_zero, List.replicate_succ, List.length_cons, List.length_nil, List.cons_append, List.nil_append, Option.bind_some, if_true, if_false, Bool.false_eq_true, Nat.reduceSub, Nat.reduceAdd, Nat.reduceLeDiff, Nat.reduceLT, vAdd, vSub, vLt, vLe, vGt, vGe, vNeg, vEq, vNe, vEq2, vNe2, vMod, vDiv, vMul, vPow, Int.reduceToNat, vIx0, vIx1, vLenT, vLenC, vLenL, reduceIte, decide_true, decide_false, Bool.not_true, Bool.not_false, beq_self_eq_true, Bool.and_true, Bool.true_and, Bool.and_self, Bool.and_false, Bool.false_and, e1, e2, fz_sp1, fr_sp1, al_first_back_Plus, nm_Plus_first_back, f_Plus_first_back, m_Plus_first_back, al_second_back_Plus, nm_Plus_second_back, f_Plus_second_back, m_Plus_second_back, take_ok, cm, h1, oD, bkD, isn_sp, hs, h2]
      | false =>
        simp only [Bool.false_eq_true, if_false]
        cases h2 : mt y (subS z x') with
        | none => simp (disch := decide) only [f_Node_pair_back, m_Node_pair_back, x_seq, x_seq1, x_seq2, x_seq3, x_seq4, x_seq5, x_seq6, x_nil, x_if, x_if1, x_if2, x_if3, x_ret, x_ret1, x_ret2, x_ret3, x_retN, x_asg, x_asg1, x_asg2, x_asg3, x_asg4, x_asg5, x_gN, x_drop, x_drop1, x_drop2, x_bk, x_ct, x_raise, x_tZ, x_tZ1, x_tZ2, x_tE, x_tE1, x_tE2, x_tE3, x_tAnd, x_tAnd1, x_tAnd2, x_tAnd3, x_tOr, x_tOr1, x_tOr2, x_tOr3, x_tNot, x_tNot1, x_tNot2, x_tNot3, x_tTrue, x_z2, x_z21, x_z1, x_z11, x_zC, x_zC1, x_za, x_za1, x_za0, x_zV, x_zK, x_ch, x_ch1, x_ch2, x_eZ, x_eZ1, x_eZ2, x_eV, x_eV1, x_eM, x_eM1, x_b1, x_b2, x_b3, x_s1, x_s2, x_s3, x_oO, x_oO2, x_e2, x_e1, x_eC, x_aN, x_aC, x_tup, x_lst, x_call, x_oC1, x_oC2, x_call0, x_call01, x_eAnd, x_eAnd1, x_eOr, x_eOr1, x_eNot, x_eNot1, x_eIf, x_eIf1, x_fz_int, x_fr_int, x_fz_bl, x_fr_bl, x_fz_str, x_fr_str, x_fz_ty, x_fr_ty, x_fz_tup, x_fr_tup, x_fz_cst, x_fr_cst, x_fz_lst_false, x_fr_lst_false, x_fz_non, x_fr_non, x_fz_lt, x_fr_lt, x_fL0, x_fL1, x_cF, x_cR1, x_cR2, x_cR3, x_iL, x_iL1, x_iT, x_iT1, x_iS, x_iS1, x_iR1, x_iR11, x_iR2, x_iR21, x_iE, x_iE1, x_iV, x_iV1, x_iZ, x_iZ1, x_for, x_fo0, x_fo1, x_fo2, x_fo3, x_fo4, x_fo5, x_fo6, x_fo7, x_gT, x_gC, x_gC0, x_try, x_try1, x_try2, x_try3, x_try4, x_try5, x_nx1, x_nx2, x_try6, x_try7, x_nx3, x_nx4, x_app, x_app1, x_app2, x_lc, x_lcE, x_lc0, x_lc1, x_lcG, x_w0, x_w1, vMinL4, vMaxL4, vAll3, vAny3, vAll4, vAny4, x_wh1, x_wh2, x_wh0, x_abs, vI_ii, vI_ib, vI_it, vI_il, vI_is, vI_bb, vI_bi, vI_tt, vI_tl, vI_ti, vI_ll, vI_lt, vI_ss, vEqB, vNeB, x_ta, x_ta1, x_ta2, x_ta3, x_ta4, x_ta5, x_is, nc_0, nc_1, nc_2, nc_3, nc_4, nc_5, nc_6, nc_7, nc_8, nc_9, nc_10, nc_11, vMax2, vMin2, vIsN0, vIsN1, vNotN0, vNotN1, vIsN2, vNotN2, x_lo, x_lo1, x_lo2, vAll2, vAny2, x_sl, x_sl1, x_sl2, x_pn, x_ps, x_ps1, x_cutL, x_cutC, vEqS, vNeS, x_fz_obj, x_fr_obj, x_make, x_meth, x_meth2, x_meth3, x_isO, x_isO1, x_cat, x_cat1, x_methZ, x_methZ2, x_methZ3, x_callZ, x_callZ1, x_lend1, x_lend2, x_cl_int, x_cl_bl, x_cl_str, x_cl_non, x_cl_tup, x_cl0, x_cl1, x_cl_lst, x_setIx, x_setIx1, x_setIx2, Option.map_some, List.getD_cons_zero, List.getD_cons_succ, List.set_cons_zero, List.set_cons_succ, List.map_cons, List.map_nil, List.replicate_zero, List.replicate_succ, List.length_cons, List.length_nil, List.cons_append, List.nil_append, Option.bind_some, if_true, if_false, Bool.false_eq_true, Nat.reduceSub, Nat.reduceAdd, Nat.reduceLeDiff, Nat.reduceLT, vAdd, vSub, vLt, vLe, vGt, vGe, vNeg, vEq, vNe, vEq2, vNe2, vMod, vDiv, vMul, vPow, Int.reduceToNat, vIx0, vIx1, vLenT, vLenC, vLenL, reduceIte, decide_true, decide_false, Bool.not_true, Bool.not_false, beq_self_eq_true, Bool.and_true, Bool.true_and, Bool.and_self, Bool.and_false, Bool.false_and, e1, e2, fz_sp1, fr_sp1, al_first_back_Plus, nm_Plus_first_back, f_Plus_first_back, m_Plus_first_back, al_second_back_Plus, nm_Plus_second_back, f_Plus_second_back, m_Plus_second_back, take_ok, cm, h1, oD, bkD, isn_sp, hs, h2]
        | some y' => simp (disch := decide) only [f_Node_pair_back, m_Node_pair_back, x_seq, x_seq1, x_seq2, x_seq3, x_seq4, x_seq5, x_seq6, x_nil, x_if, x_if1, x_if2, x_if3, x_ret, x_ret1, x_ret2, x_ret3, x_retN, x_asg, x_asg1, x_asg2, x_asg3, x_asg4, x_asg5, x_gN, x_drop, x_drop1, x_drop2, x_bk, x_ct, x_raise, x_tZ, x_tZ1, x_tZ2, x_tE, x_tE1, x_tE2, x_tE3, x_tAnd, x_tAnd1, x_tAnd2, x_tAnd3, x_tOr, x_tOr1, x_tOr2, x_tOr3, x_tNot, x_tNot1, x_tNot2, x_tNot3, x_tTrue, x_z2, x_z21, x_z1, x_z11, x_zC, x_zC1, x_za, x_za1, x_za0, x_zV, x_zK, x_ch, x_ch1, x_ch2, x_eZ, x_eZ1, x_eZ2, x_eV, x_eV1, x_eM, x_eM1, x_b1, x_b2, x_b3, x_s1, x_s2, x_s3, x_oO, x_oO2, x_e2, x_e1, x_eC, x_aN, x_aC, x_tup, x_lst, x_call, x_oC1, x_oC2, x_call0, x_call01, x_eAnd, x_eAnd1, x_eOr, x_eOr1, x_eNot, x_eNot1, x_eIf, x_eIf1, x_fz_int, x_fr_int, x_fz_bl, x_fr_bl, x_fz_str, x_fr_str, x_fz_ty, x_fr_ty, x_fz_tup, x_fr_tup, x_fz_cst, x_fr_cst, x_fz_lst_false, x_fr_lst_false, x_fz_non, x_fr_non, x_fz_lt, x_fr_lt, x_fL0, x_fL1, x_cF, x_cR1, x_cR2, x_cR3, x_iL, x_iL1, x_iT, x_iT1, x_iS, x_iS1, x_iR1, x_iR11, x_iR2, x_iR21, x_iE, x_iE1, x_iV, x_iV1, x_iZ, x_iZ1, x_for, x_fo0, x_fo1, x_fo2, x_fo3, x_fo4, x_fo5, x_fo6, x_fo7, x_gT, x_gC, x_gC0, x_try, x_try1, x_try2, x_try3, x_try4, x_try5, x_nx1, x_nx2, x_try6, x_try7, x_nx3, x_nx4, x_app, x_app1, x_app2, x_lc, x_lcE, x_lc0, x_lc1, x_lcG, x_w0, x_w1, vMinL4, vMaxL4, vAll3, vAny3, vAll4, vAny4, x_wh1, x_wh2, x_wh0, x_abs, vI_ii, vI_ib, vI_it, vI_il, vI_is, vI_bb, vI_bi, vI_tt, vI_tl, vI_ti, vI_ll, vI_lt, vI_ss, vEqB, vNeB, x_ta, x_ta1, x_ta2, x_ta3, x_ta4, x_ta5, x_is, nc_0, nc_1, nc_2, nc_3, nc_4, nc_5, nc_6, nc_7, nc_8, nc_9, nc_10, nc_11, vMax2, vMin2, vIsN0, vIsN1, vNotN0, vNotN1, vIsN2, vNotN2, x_lo, x_lo1, x_lo2, vAll2, vAny2, x_sl, x_sl1, x_sl2, x_pn, x_ps, x_ps1, x_cutL, x_cutC, vEqS, vNeS, x_fz_obj, x_fr_obj, x_make, x_meth, x_meth2, x_meth3, x_isO, x_isO1, x_cat, x_cat1, x_methZ, x_methZ2, x_methZ3, x_callZ, x_callZ1, x_lend1, x_lend2, x_cl_int, x_cl_bl, x_cl_str, x_cl_non, x_cl_tup, x_cl0, x_cl1, x_cl_lst, x_setIx, x_setIx1, x_setIx2, Option.map_some, List.getD_cons_zero, List.getD_cons_succ, List.set_cons_zero, List.set_cons_succ, List.map_cons, List.map_nil, List.replicate_zero, List.replicate_succ, List.length_cons, List.length_nil, List.cons_append, List.nil_append, Option.bind_some, if_true, if_false, Bool.false_eq_true, Nat.reduceSub, Nat.reduceAdd, Nat.reduceLeDiff, Nat.reduceLT, vAdd, vSub, vLt, vLe, vGt, vGe, vNeg, vEq, vNe, vEq2, vNe2, vMod, vDiv, vMul, vPow, Int.reduceToNat, vIx0, vIx1, vLenT, vLenC, vLenL, reduceIte, decide_true, decide_false, Bool.not_true, Bool.not_false, beq_self_eq_true, Bool.and_true, Bool.true_and, Bool.and_self, Bool.and_false, Bool.false_and, e1, e2, fz_sp1, fr_sp1, al_first_back_Plus, nm_Plus_first_back, f_Plus_first_back, m_Plus_first_back, al_second_back_Plus, nm_Plus_second_back, f_Plus_second_back, m_Plus_second_back, take_ok, cm, h1, oD, bkD, isn_sp, hs, h2]
  · rw [show back1 false z x y = addS z y from rfl]
    cases h1 : mt x (addS z y) with
    | none => simp (disch := decide) only [f_Node_pair_back, m_Node_pair_back, x_seq, x_seq1, x_seq2, x_seq3, x_seq4, x_seq5, x_seq6, x_nil, x_if, x_if1, x_if2, x_if3, x_ret, x_ret1, x_ret2, x_ret3, x_retN, x_asg, x_asg1, x_asg2, x_asg3, x_asg4, x_asg5, x_gN, x_drop, x_drop1, x_drop2, x_bk, x_ct, x_raise, x_tZ, x_tZ1, x_tZ2, x_tE, x_tE1, x_tE2, x_tE3, x_tAnd, x_tAnd1, x_tAnd2, x_tAnd3, x_tOr, x_tOr1, x_tOr2, x_tOr3, x_tNot, x_tNot1, x_tNot2, x_tNot3, x_tTrue, x_z2, x_z21, x_z1, x_z11, x_zC, x_zC1, x_za, x_za1, x_za0, x_zV, x_zK, x_ch, x_ch1, x_ch2, x_eZ, x_eZ1, x_eZ2, x_eV, x_eV1, x_eM, x_eM1, x_b1, x_b2, x_b3, x_s1, x_s2, x_s3, x_oO, x_oO2, x_e2, x_e1, x_eC, x_aN, x_aC, x_tup, x_lst, x_call, x_oC1, x_oC2, x_call0, x_call01, x_eAnd, x_eAnd1, x_eOr, x_eOr1, x_eNot, x_eNot1, x_eIf, x_eIf1, x_fz_int, x_fr_int, x_fz_bl, x_fr_bl, x_fz_str, x_fr_str, x_fz_ty, x_fr_ty, x_fz_tup, x_fr_tup, x_fz_cst, x_fr_cst, x_fz_lst_false, x_fr_lst_false, x_fz_non, x_fr_non, x_fz_lt, x_fr_lt, x_fL0, x_fL1, x_cF, x_cR1, x_cR2, x_cR3, x_iL, x_iL1, x_iT, x_iT1, x_iS, x_iS1, x_iR1, x_iR11, x_iR2, x_iR21, x_iE, x_iE1, x_iV, x_iV1, x_iZ, x_iZ1, x_for, x_fo0, x_fo1, x_fo2, x_fo3, x_fo4, x_fo5, x_fo6, x_fo7, x_gT, x_gC, x_gC0, x_try, x_try1, x_try2, x_try3, x_try4, x_try5, x_nx1, x_nx2, x_try6, x_try7, x_nx3, x_nx4, x_app, x_app1, x_app2, x_lc, x_lcE, x_lc0, x_lc1, x_lcG, x_w0, x_w1, vMinL4, vMaxL4, vAll3, vAny3, vAll4, vAny4, x_wh1, x_wh2, x_wh0, x_abs, vI_ii, vI_ib, vI_it, vI_il, vI_is, vI_bb, vI_bi, vI_tt, vI_tl, vI_ti, vI_ll, vI_lt, vI_ss, vEqB, vNeB, x_ta, x_ta1, x_ta2, x_ta3, x_ta4, x_ta5, x_is, nc_0, nc_1, nc_2, nc_3, nc_4, nc_5, nc_6, nc_7, nc_8, nc_9, nc_10, nc_11, vMax2, vMin2, vIsN0, vIsN1, vNotN0, vNotN1, vIsN2, vNotN2, x_lo, x_lo1, x_lo2, vAll2, vAny2, x_sl, x_sl1, x_sl2, x_pn, x_ps, x_ps1, x_cutL, x_cutC, vEqS, vNeS, x_fz_obj, x_fr_obj, x_make, x_meth, x_meth2, x_meth3, x_isO, x_isO1, x_cat, x_cat1, x_methZ, x_methZ2, x_methZ3, x_callZ, x_callZ1, x_lend1, x_lend2, x_cl_int, x_cl_bl, x_cl_str, x_cl_non, x_cl_tup, x_cl0, x_cl1, x_cl_lst, x_setIx, x_setIx1, x_setIx2, Option.map_some, List.getD_cons_zero, List.getD_cons_succ, List.set_cons_zero, List.set_cons_succ, List.map_cons, List.map_nil, List.replicate_zero, List.replicate_succ, List.length_cons, List.length_nil, List.cons_append, List.nil_append, Option.bind_some, if_true, if_false, Bool.false_eq_true, Nat.reduceSub, Nat.reduceAdd, Nat.reduceLeDiff, Nat.reduceLT, vAdd, vSub, vLt, vLe, vGt, vGe, vNeg, vEq, vNe, vEq2, vNe2, vMod, vDiv, vMul, vPow, Int.reduceToNat, vIx0, vIx1, vLenT, vLenC, vLenL, reduceIte, decide_true, decide_false, Bool.not_true, Bool.not_false, beq_self_eq_true, Bool.and_true, Bool.true_and, Bool.and_self, Bool.and_false, Bool.false_and, e1, e2, fz_sp1, fr_sp1, al_first_back_Minus, nm_Minus_first_back, f_Minus_first_back, m_Minus_first_back, addsp_ok, cm, h1, oD, bkD]
    | some x' =>
      simp only
      rw [show back2 false z x' y = subS x' z from rfl]
      cases hs : (i == j) with
      | true =>
        simp only [if_true]
        cases h2 : mt x' (subS x' z) with
        | none => simp (disch := decide) only [f_Node_pair_back, m_Node_pair_back, x_seq, x_seq1, x_seq2, x_seq3, x_seq4, x_seq5, x_seq6, x_nil, x_if, x_if1, x_if2, x_if3, x_ret, x_ret1, x_ret2, x_ret3, x_retN, x_asg, x_asg1, x_asg2, x_asg3, x_asg4, x_asg5, x_gN, x_drop, x_drop1, x_drop2, x_bk, x_ct, x_raise, x_tZ, x_tZ1, x_tZ2, x_tE, x_tE1, x_tE2, x_tE3, x_tAnd, x_tAnd1, x_tAnd2, x_tAnd3, x_tOr, x_tOr1, x_tOr2, x_tOr3, x_tNot, x_tNot1, x_tNot2, x_tNot3, x_tTrue, x_z2, x_z21, x_z1, x_z11, x_zC, x_zC1, x_za, x_za1, x_za0, x_zV, x_zK, x_ch, x_ch1, x_ch2, x_eZ, x_eZ1, x_eZ2, x_eV, x_eV1, x_eM, x_eM1, x_b1, x_b2, x_b3, x_s1, x_s2, x_s3, x_oO, x_oO2, x_e2, x_e1, x_eC, x_aN, x_aC, x_tup, x_lst, x_call, x_oC1, x_oC2, x_call0, x_call01, x_eAnd, x_eAnd1, x_eOr, x_eOr1, x_eNot, x_eNot1, x_eIf, x_eIf1, x_fz_int, x_fr_int, x_fz_bl, x_fr_bl, x_fz_str, x_fr_str, x_fz_ty, x_fr_ty, x_fz_tup, x_fr_tup, x_fz_cst, x_fr_cst, x_fz_lst_false, x_fr_lst_false, x_fz_non, x_fr_non, x_fz_lt, x_fr_lt, x_fL0, x_fL1, x_cF, x_cR1, x_cR2, x_cR3, x_iL, x_iL1, x_iT, x_iT1, x_iS, x_iS1, x_iR1, x_iR11, x_iR2, x_iR21, x_iE, x_iE1, x_iV, x_iV1, x_iZ, x_iZ1, x_for, x_fo0, x_fo1, x_fo2, x_fo3, x_fo4, x_fo5, x_fo6, x_fo7, x_gT, x_gC, x_gC0, x_try, x_try1, x_try2, x_try3, x_try4, x_try5, x_nx1, x_nx2, x_try6, x_try7, x_nx3, x_nx4, x_app, x_app1, x_app2, x_lc, x_lcE, x_lc0, x_lc1, x_lcG, x_w0, x_w1, vMinL4, vMaxL4, vAll3, vAny3, vAll4, vAny4, x_wh1, x_wh2, x_wh0, x_abs, vI_ii, vI_ib, vI_it, vI_il, vI_is, vI_bb, vI_bi, vI_tt, vI_tl, vI_ti, vI_ll, vI_lt, vI_ss, vEqB, vNeB, x_ta, x_ta1, x_ta2, x_ta3, x_ta4, x_ta5, x_is, nc_0, nc_1, nc_2, nc_3, nc_4, nc_5, nc_6, nc_7, nc_8, nc_9, nc_10, nc_11, vMax2, vMin2, vIsN0, vIsN1, vNotN0, vNotN1, vIsN2, vNotN2, x_lo, x_lo1, x_lo2, vAll2, vAny2, x_sl, x_sl1, x_sl2, x_pn, x_ps, x_ps1, x_cutL, x_cutC, vEqS, vNeS, x_fz_obj, x_fr_obj, x_make, x_meth, x_meth2, x_meth3, x_isO, x_isO1, x_cat, x_cat1, x_methZ, x_methZ2, x_methZ3, x_callZ, x_callZ1, x_lend1, x_lend2, x_cl_int, x_cl_bl, x_cl_str, x_cl_non, x_cl_tup, x_cl0, x_cl1, x_cl_lst, x_setIx, x_setIx1, x_setIx2, Option.map_some, List.getD_cons_zero, List.getD_cons_succ, List.set_cons_zero, List.set_cons_succ, List.map_cons, List.map_nil, List.replicate_zero, List.replicate_succ, List.length_cons, List.length_nil, List.cons_append, List.nil_append, Option.bind_some, if_true, if_false, Bool.false_eq_true, Nat.reduceSub, Nat.reduceAdd, Nat.reduceLeDiff, Nat.reduceLT, vAdd, vSub, vLt, vLe, vGt, vGe, vNeg, vEq, vNe, vEq2, vNe2, vMod, vDiv, vMul, vPow, Int.reduceToNat, vIx0, vIx1, vLenT, vLenC, vLenL, reduceIte, decide_true, decide_false, Bool.not_true, Bool.not_false, beq_self_eq_true, Bool.and_true, Bool.true_and, Bool.and_self, Bool.and_false, Bool.false_and, e1, e2, fz_sp1, fr_sp1, al_first_back_Minus, nm_Minus_first_back, f_Minus_first_back, m_Minus_first_back, al_second_back_Minus, nm_Minus_second_back, f_Minus_second_back, m_Minus_second_back, take_ok, addsp_ok, cm, h1, oD, bkD, isn_sp, hs, h2]
        | some y' => simp (disch := decide) only [f_Node_pair_back, m_Node_pair_back, x_seq, x_seq1, x_seq2, x_seq3, x_seq4, x_seq5, x_seq6, x_nil, x_if, x_if1, x_if2, x_if3, x_ret, x_ret1, x_ret2, x_ret3, x_retN, x_asg, x_asg1, x_asg2, x_asg3, x_asg4, x_asg5, x_gN, x_drop, x_drop1, x_drop2, x_bk, x_ct, x_raise, x_tZ, x_tZ1, x_tZ2, x_tE, x_tE1, x_tE2, x_tE3, x_tAnd, x_tAnd1, x_tAnd2, x_tAnd3, x_tOr, x_tOr1, x_tOr2, x_tOr3, x_tNot, x_tNot1, x_tNot2, x_tNot3, x_tTrue, x_z2, x_z21, x_z1, x_z11, x_zC, x_zC1, x_za, x_za1, x_za0, x_zV, x_zK, x_ch, x_ch1, x_ch2, x_eZ, x_eZ1, x_eZ2, x_eV, x_eV1, x_eM, x_eM1, x_b1, x_b2, x_b3, x_s1, x_s2, x_s3, x_oO, x_oO2, x_e2, x_e1, x_eC, x_aN, x_aC, x_tup, x_lst, x_call, x_oC1, x_oC2, x_call0, x_call01, x_eAnd, x_eAnd1, x_eOr, x_eOr1, x_eNot, x_eNot1, x_eIf, x_eIf1, x_fz_int, x_fr_int, x_fz_bl, x_fr_bl, x_fz_str, x_fr_str, x_fz_ty, x_fr_ty, x_fz_tup, x_fr_tup, x_fz_cst, x_fr_cst, x_fz_lst_false, x_fr_lst_false, x_fz_non, x_fr_non, x_fz_lt, x_fr_lt, x_fL0, x_fL1, x_cF, x_cR1, x_cR2, x_cR3, x_iL, x_iL1, x_iT, x_iT1, x_iS, x_iS1, x_iR1, x_iR11, x_iR2, x_iR21, x_iE, x_iE1, x_iV, x_iV1, x_iZ, x_iZ1, x_for, x_fo0, x_fo1, x_fo2, x_fo3, x_fo4, x_fo5, x_fo6, x_fo7, x_gT, x_gC, x_gC0, x_try, x_try1, x_try2, x_try3, x_try4, x_try5, x_nx1, x_nx2, x_try6, x_try7, x_nx3, x_nx4, x_app, x_app1, x_app2, x_lc, x_lcE, x_lc0, x_lc1, x_lcG, x_w0, x_w1, vMinL4, vMaxL4, vAll3, vAny3, vAll4, vAny4, x_wh1, x_wh2, x_wh0, x_abs, vI_ii, vI_ib, vI_it, vI_il, vI_is, vI_bb, vI_bi, vI_tt, vI_tl, vI_ti, vI_ll, vI_lt, vI_ss, vEqB, vNeB, x_ta, x_ta1, x_ta2, x_ta3, x_ta4, x_ta5, x_is, nc_0, nc_1, nc_2, nc_3, nc_4, nc_5, nc_6, nc_7, nc_8, nc_9, nc_10, nc_11, vMax2, vMin2, vIsN0, vIsN1, vNotN0, vNotN1, vIsN2, vNotN2, x_lo, x_lo1, x_lo2, vAll2, vAny2, x_sl, x_sl1, x_sl2, x_pn, x_ps, x_ps1, x_cutL, x_cutC, vEqS, vNeS, x_fz_obj, x_fr_obj, x_make, x_meth, x_meth2, x_meth3, x_isO, x_isO1, x_cat, x_cat1, x_methZ, x_methZ2, x_methZ3, x_callZ, x_callZ1, x_lend1, x_lend2, x_cl_int, x_cl_bl, x_cl_str, x_cl_non, x_cl_tup, x_cl0, x_cl1, x_cl_lst, x_setIx, x_setIx1, x_setIx2, Option.map_some, List.getD_cons_zero, List.getD_cons_succ, List.set_cons_zero, List.set_cons_succ, List.map_cons, List.map_nil, List.replicate_zero, List.replicate_succ, List.length_cons, List.length_nil, List.cons_append, List.nil_append, Option.bind_some, if_true, if_false, Bool.false_eq_true, Nat.reduceSub, Nat.reduceAdd, Nat.reduceLeDiff, Nat.reduceLT, vAdd, vSub, vLt, vLe, vGt, vGe, vNeg, vEq, vNe, vEq2, vNe2, vMod, vDiv, vMul, vPow, Int.reduceToNat, vIx0, vIx1, vLenT, vLenC, vLenL, reduceIte, decide_true, decide_false, Bool.not_true, Bool.not_false, beq_self_eq_true, Bool.and_true, Bool.true_and, Bool.and_self, Bool.and_false, Bool.false_and, e1, e2, fz_sp1, fr_sp1, al_first_back_Minus, nm_Minus_first_back, f_Minus_first_back, m_Minus_first_back, al_second_back_Minus, nm_Minus_second_back, f_Minus_second_back, m_Minus_second_back, take_ok, addsp_ok, cm, h1, oD, bkD, isn_sp, hs, h2]
      | false =>
        simp only [Bool.false_eq_true, if_false]
        cases h2 : mt y (subS x' z) with
        | none => simp (disch := decide) only [f_Node_pair_back, m_Node_pair_back, x_seq, x_seq1, x_seq2, x_seq3, x_seq4, x_seq5, x_seq6, x_nil, x_if, x_if1, x_if2, x_if3, x_ret, x_ret1, x_ret2, x_ret3, x_retN, x_asg, x_asg1, x_asg2, x_asg3, x_asg4, x_asg5, x_gN, x_drop, x_drop1, x_drop2, x_bk, x_ct, x_raise, x_tZ, x_tZ1, x_tZ2, x_tE, x_tE1, x_tE2, x_tE3, x_tAnd, x_tAnd1, x_tAnd2, x_tAnd3, x_tOr, x_tOr1, x_tOr2, x_tOr3, x_tNot, x_tNot1, x_tNot2, x_tNot3, x_tTrue, x_z2, x_z21, x_z1, x_z11, x_zC, x_zC1, x_za, x_za1, x_za0, x_zV, x_zK, x_ch, x_ch1, x_ch2, x_eZ, x_eZ1, x_eZ2, x_eV, x_eV1, x_eM, x_eM1, x_b1, x_b2, x_b3, x_s1, x_s2, x_s3, x_oO, x_oO2, x_e2, x_e1, x_eC, x_aN, x_aC, x_tup, x_lst, x_call, x_oC1, x_oC2, x_call0, x_call01, x_eAnd, x_eAnd1, x_eOr, x_eOr1, x_eNot, x_eNot1, x_eIf, x_eIf1, x_fz_int, x_fr_int, x_fz_bl, x_fr_bl, x_fz_str, x_fr_str, x_fz_ty, x_fr_ty, x_fz_tup, x_fr_tup, x_fz_cst, x_fr_cst, x_fz_lst_false, x_fr_lst_false, x_fz_non, x_fr_non, x_fz_lt, x_fr_lt, x_fL0, x_fL1, x_cF, x_cR1, x_cR2, x_cR3, x_iL, x_iL1, x_iT, x_iT1, x_iS, x_iS1, x_iR1, x_iR11, x_iR2, x_iR21, x_iE, x_iE1, x_iV, x_iV1, x_iZ, x_iZ1, x_for, x_fo0, x_fo1, x_fo2, x_fo3, x_fo4, x_fo5, x_fo6, x_fo7, x_gT, x_gC, x_gC0, x_try, x_try1, x_try2, x_try3, x_try4, x_try5, x_nx1, x_nx2, x_try6, x_try7, x_nx3, x_nx4, x_app, x_app1, x_app2, x_lc, x_lcE, x_lc0, x_lc1, x_lcG, x_w0, x_w1, vMinL4, vMaxL4, vAll3, vAny3, vAll4, vAny4, x_wh1, x_wh2, x_wh0, x_abs, vI_ii, vI_ib, vI_it, vI_il, vI_is, vI_bb, vI_bi, vI_tt, vI_tl, vI_ti, vI_ll, vI_lt, vI_ss, vEqB, vNeB, x_ta, x_ta1, x_ta2, x_ta3, x_ta4, x_ta5, x_is, nc_0, nc_1, nc_2, nc_3, nc_4, nc_5, nc_6, nc_7, nc_8, nc_9, nc_10, nc_11, vMax2, vMin2, vIsN0, vIsN1, vNotN0, vNotN1, vIsN2, vNotN2, x_lo, x_lo1, x_lo2, vAll2, vAny2, x_sl, x_sl1, x_sl2, x_pn, x_ps, x_ps1, x_cutL, x_cutC, vEqS, vNeS, x_fz_obj, x_fr_obj, x_make, x_meth, x_meth2, x_meth3, x_isO, x_isO1, x_cat, x_cat1, x_methZ, x_methZ2, x_methZ3, x_callZ, x_callZ1, x_lend1, x_lend2, x_cl_int, x_cl_bl, x_cl_str, x_cl_non, x_cl_tup, x_cl0, x_cl1, x_cl_lst, x_setIx, x_setIx1, x_setIx2, Option.map_some, List.getD_cons_zero, List.getD_cons_succ, List.set_cons_zero, List.set_cons_succ, List.map_cons, List.map_nil, List.replicate_zero, List.replicate_succ, List.length_cons, List.length_nil, List.cons_append, List.nil_append, Option.bind_some, if_true, if_false, Bool.false_eq_true, Nat.reduceSub, Nat.reduceAdd, Nat.reduceLeDiff, Nat.reduceLT, vAdd, vSub, vLt, vLe, vGt, vGe, vNeg, vEq, vNe, vEq2, vNe2, vMod, vDiv, vMul, vPow, Int.reduceToNat, vIx0, vIx1, vLenT, vLenC, vLenL, reduceIte, decide_true, decide_false, Bool.not_true, Bool.not_false, beq_self_eq_true, Bool.and_true, Bool.true_and, Bool.and_self, Bool.and_false, Bool.false_and, e1, e2, fz_sp1, fr_sp1, al_first_back_Minus, nm_Minus_first_back, f_Minus_first_back, m_Minus_first_back, al_second_back_Minus, nm_Minus_second_back, f_Minus_second_back, m_Minus_second_back, take_ok, addsp_ok, cm, h1, oD, bkD, isn_sp, hs, h2]
        | some y' => simp (disch := decide) only [f_Node_pair_back, m_Node_pair_back, x_seq, x_seq1, x_seq2, x_seq3, x_seq4, x_seq5, x_seq6, x_nil, x_if, x_if1, x_if2, x_if3, x_ret, x_ret1, x_ret2, x_ret3, x_retN, x_asg, x_asg1, x_asg2, x_asg3, x_asg4, x_asg5, x_gN, x_drop, x_drop1, x_drop2, x_bk, x_ct, x_raise, x_tZ, x_tZ1, x_tZ2, x_tE, x_tE1, x_tE2, x_tE3, x_tAnd, x_tAnd1, x_tAnd2, x_tAnd3, x_tOr, x_tOr1, x_tOr2, x_tOr3, x_tNot, x_tNot1, x_tNot2, x_tNot3, x_tTrue, x_z2, x_z21, x_z1, x_z11, x_zC, x_zC1, x_za, x_za1, x_za0, x_zV, x_zK, x_ch, x_ch1, x_ch2, x_eZ, x_eZ1, x_eZ2, x_eV, x_eV1, x_eM, x_eM1, x_b1, x_b2, x_b3, x_s1, x_s2, x_s3, x_oO, x_oO2, x_e2, x_e1, x_eC, x_aN, x_aC, x_tup, x_lst, x_call, x_oC1, x_oC2, x_call0, x_call01, x_eAnd, x_eAnd1, x_eOr, x_eOr1, x_eNot, x_eNot1, x_eIf, x_eIf1, x_fz_int, x_fr_int, x_fz_bl, x_fr_bl, x_fz_str, x_fr_str, x_fz_ty, x_fr_ty, x_fz_tup, x_fr_tup, x_fz_cst, x_fr_cst, x_fz_lst_false, x_fr_lst_false, x_fz_non, x_fr_non, x_fz_lt, x_fr_lt, x_fL0, x_fL1, x_cF, x_cR1, x_cR2, x_cR3, x_iL, x_iL1, x_iT, x_iT1, x_iS, x_iS1, x_iR1, x_iR11, x_iR2, x_iR21, x_iE, x_iE1, x_iV, x_iV1, x_iZ, x_iZ1, x_for, x_fo0, x_fo1, x_fo2, x_fo3, x_fo4, x_fo5, x_fo6, x_fo7, x_gT, x_gC, x_gC0, x_try, x_try1, x_try2, x_try3, x_try4, x_try5, x_nx1, x_nx2, x_try6, x_try7, x_nx3, x_nx4, x_app, x_app1, x_app2, x_lc, x_lcE, x_lc0, x_lc1, x_lcG, x_w0, x_w1, vMinL4, vMaxL4, vAll3, vAny3, vAll4, vAny4, x_wh1, x_wh2, x_wh0, x_abs, vI_ii, vI_ib, vI_it, vI_il, vI_is, vI_bb, vI_bi, vI_tt, vI_tl, vI_ti, vI_ll, vI_lt, vI_ss, vEqB, vNeB, x_ta, x_ta1, x_ta2, x_ta3, x_ta4, x_ta5, x_is, nc_0, nc_1, nc_2, nc_3, nc_4, nc_5, nc_6, nc_7, nc_8, nc_9, nc_10, nc_11, vMax2, vMin2, vIsN0, vIsN1, vNotN0, vNotN1, vIsN2, vNotN2, x_lo, x_lo1, x_lo2, vAll2, vAny2, x_sl, x_sl1, x_sl2, x_pn, x_ps, x_ps1, x_cutL, x_cutC, vEqS, vNeS, x_fz_obj, x_fr_obj, x_make, x_meth, x_meth2, x_meth3, x_isO, x_isO1, x_cat, x_cat1, x_methZ, x_methZ2, x_methZ3, x_callZ, x_callZ1, x_lend1, x_lend2, x_cl_int, x_cl_bl, x_cl_str, x_cl_non, x_cl_tup, x_cl0, x_cl1, x_cl_lst, x_setIx, x_setIx1, x_setIx2, Option.map_some, List.getD_cons_zero, List.getD_cons_succ, List.set_cons_zero, List.set_cons_succ, List.map_cons, List.map_nil, List.replicate_zero, List.replicate_succ, List.length_cons, List.length_nil, List.cons_append, List.nil_append, Option.bind_some, if_true, if_false, Bool.false_eq_true, Nat.reduceSub, Nat.reduceAdd, Nat.reduceLeDiff, Nat.reduceLT, vAdd, vSub, vLt, vLe, vGt, vGe, vNeg, vEq, vNe, vEq2, vNe2, vMod, vDiv, vMul, vPow, Int.reduceToNat, vIx0, vIx1, vLenT, vLenC, vLenL, reduceIte, decide_true, decide_false, Bool.not_true, Bool.not_false, beq_self_eq_true, Bool.and_true, Bool.true_and, Bool.and_self, Bool.and_false, Bool.false_and, e1, e2, fz_sp1, fr_sp1, al_first_back_Minus, nm_Minus_first_back, f_Minus_first_back, m_Minus_first_back, al_second_back_Minus, nm_Minus_second_back, f_Minus_second_back, m_Minus_second_back, take_ok, addsp_ok, cm, h1, oD, bkD, isn_sp, hs, h2]
def tD (q : Int × (Int × Int)) : D := .tup [.int q.1, spD q.2]
theorem tD_ok (q : Int × (Int × Int)) : Bn.Ok 2 (tD q) := ok_tup fun x hx => by
  simp only [List.mem_cons, List.not_mem_nil, or_false] at hx
  rcases hx with rfl | rfl
  · exact ok_int _
  · exact ok_tup fun x hx => by
      simp only [List.mem_cons, List.not_mem_nil, or_false] at hx
      rcases hx with rfl | rfl
      · exact ok_int _
      · exact ok_int _
theorem isspan_ok {p : Int × Int} (h : p.1 ≤ p.2) : f__law_span_is [spD p] = .ok (.bl true) := by
  have e : decide (p.1 ≤ p.2) = true := decide_eq_true h
  have w : ∀ a, f__law_whole [.int a] = .ok (.bl true) := fun _ => rfl
  simp (disch := decide) only [spD, f__law_span_is, m__law_span_is, x_seq, x_seq1, x_seq2, x_seq3, x_seq4, x_seq5, x_seq6, x_nil, x_if, x_if1, x_if2, x_if3, x_ret, x_ret1, x_ret2, x_ret3, x_retN, x_asg, x_asg1, x_asg2, x_asg3, x_asg4, x_asg5, x_gN, x_drop, x_drop1, x_drop2, x_bk, x_ct, x_raise, x_tZ, x_tZ1, x_tZ2, x_tE, x_tE1, x_tE2, x_tE3, x_tAnd, x_tAnd1, x_tAnd2, x_tAnd3, x_tOr, x_tOr1, x_tOr2, x_tOr3, x_tNot, x_tNot1, x_tNot2, x_tNot3, x_tTrue, x_z2, x_z21, x_z1, x_z11, x_zC, x_zC1, x_za, x_za1, x_za0, x_zV, x_zK, x_ch, x_ch1, x_ch2, x_eZ, x_eZ1, x_eZ2, x_eV, x_eV1, x_eM, x_eM1, x_b1, x_b2, x_b3, x_s1, x_s2, x_s3, x_oO, x_oO2, x_e2, x_e1, x_eC, x_aN, x_aC, x_tup, x_lst, x_call, x_oC1, x_oC2, x_call0, x_call01, x_eAnd, x_eAnd1, x_eOr, x_eOr1, x_eNot, x_eNot1, x_eIf, x_eIf1, x_fz_int, x_fr_int, x_fz_bl, x_fr_bl, x_fz_str, x_fr_str, x_fz_ty, x_fr_ty, x_fz_tup, x_fr_tup, x_fz_cst, x_fr_cst, x_fz_lst_false, x_fr_lst_false, x_fz_non, x_fr_non, x_fz_lt, x_fr_lt, x_fL0, x_fL1, x_cF, x_cR1, x_cR2, x_cR3, x_iL, x_iL1, x_iT, x_iT1, x_iS, x_iS1, x_iR1, x_iR11, x_iR2, x_iR21, x_iE, x_iE1, x_iV, x_iV1, x_iZ, x_iZ1, x_for, x_fo0, x_fo1, x_fo2, x_fo3, x_fo4, x_fo5, x_fo6, x_fo7, x_gT, x_gC, x_gC0, x_try, x_try1, x_try2, x_try3, x_try4, x_try5, x_nx1, x_nx2, x_try6, x_try7, x_nx3, x_nx4, x_app, x_app1, x_app2, x_lc, x_lcE, x_lc0, x_lc1, x_lcG, x_w0, x_w1, vMinL4, vMaxL4, vAll3, vAny3, vAll4, vAny4, x_wh1, x_wh2, x_wh0, x_abs, vI_ii, vI_ib, vI_it, vI_il, vI_is, vI_bb, vI_bi, vI_tt, vI_tl, vI_ti, vI_ll, vI_lt, vI_ss, vEqB, vNeB, x_ta, x_ta1, x_ta2, x_ta3, x_ta4, x_ta5, x_is, nc_0, nc_1, nc_2, nc_3, nc_4, nc_5, nc_6, nc_7, nc_8, nc_9, nc_10, nc_11, vMax2, vMin2, vIsN0, vIsN1, vNotN0, vNotN1, vIsN2, vNotN2, x_lo, x_lo1, x_lo2, vAll2, vAny2, x_sl, x_sl1, x_sl2, x_pn, x_ps, x_ps1, x_cutL, x_cutC, vEqS, vNeS, x_fz_obj, x_fr_obj, x_make, x_meth, x_meth2, x_meth3, x_isO, x_isO1, x_cat, x_cat1, x_methZ, x_methZ2, x_methZ3, x_callZ, x_callZ1, x_lend1, x_lend2, x_cl_int, x_cl_bl, x_cl_str, x_cl_non, x_cl_tup, x_cl0, x_cl1, x_cl_lst, x_setIx, x_setIx1, x_setIx2, Option.map_some, List.getD_cons_zero, List.getD_cons_succ, List.set_cons_zero, List.set_cons_succ, List.map_cons, List.map_nil, List.replicate_zero, List.replicate_succ, List.length_cons, List.length_nil, List.cons_append, List.nil_append, Option.bind_some, if_true, if_false, Bool.false_eq_true, Nat.reduceSub, Nat.reduceAdd, Nat.reduceLeDiff, Nat.reduceLT, vAdd, vSub, vLt, vLe, vGt, vGe, vNeg, vEq, vNe, vEq2, vNe2, vMod, vDiv, vMul, vPow, Int.reduceToNat, vIx0, vIx1, vLenT, vLenC, vLenL, reduceIte, decide_true, decide_false, Bool.not_true, Bool.not_false, beq_self_eq_true, Bool.and_true, Bool.true_and, Bool.and_self, Bool.and_false, Bool.false_and, w, e]
theorem isn_lst (b : Bool) (ds : List D) : gIsN (.lst b ds) .non = some (.bl false) := rfl
theorem parts_non : f__law_parts_are [.non, .non] = .ok (.bl true) := by
  simp (disch := decide) only [f__law_parts_are, m__law_parts_are, x_seq, x_seq1, x_seq2, x_seq3, x_seq4, x_seq5, x_seq6, x_nil, x_if, x_if1, x_if2, x_if3, x_ret, x_ret1, x_ret2, x_ret3, x_retN, x_asg, x_asg1, x_asg2, x_asg3, x_asg4, x_asg5, x_gN, x_drop, x_drop1, x_drop2, x_bk, x_ct, x_raise, x_tZ, x_tZ1, x_tZ2, x_tE, x_tE1, x_tE2, x_tE3, x_tAnd, x_tAnd1, x_tAnd2, x_tAnd3, x_tOr, x_tOr1, x_tOr2, x_tOr3, x_tNot, x_tNot1, x_tNot2, x_tNot3, x_tTrue, x_z2, x_z21, x_z1, x_z11, x_zC, x_zC1, x_za, x_za1, x_za0, x_zV, x_zK, x_ch, x_ch1, x_ch2, x_eZ, x_eZ1, x_eZ2, x_eV, x_eV1, x_eM, x_eM1, x_b1, x_b2, x_b3, x_s1, x_s2, x_s3, x_oO, x_oO2, x_e2, x_e1, x_eC, x_aN, x_aC, x_tup, x_lst, x_call, x_oC1, x_oC2, x_call0, x_call01, x_eAnd, x_eAnd1, x_eOr, x_eOr1, x_eNot, x_eNot1, x_eIf, x_eIf1, x_fz_int, x_fr_int, x_fz_bl, x_fr_bl, x_fz_str, x_fr_str, x_fz_ty, x_fr_ty, x_fz_tup, x_fr_tup, x_fz_cst, x_fr_cst, x_fz_lst_false, x_fr_lst_false, x_fz_non, x_fr_non, x_fz_lt, x_fr_lt, x_fL0, x_fL1, x_cF, x_cR1, x_cR2, x_cR3, x_iL, x_iL1, x_iT, x_iT1, x_iS, x_iS1, x_iR1, x_iR11, x_iR2, x_iR21, x_iE, x_iE1, x_iV, x_iV1, x_iZ, x_iZ1, x_for, x_fo0, x_fo1, x_fo2, x_fo3, x_fo4, x_fo5, x_fo6, x_fo7, x_gT, x_gC, x_gC0, x_try, x_try1, x_try2, x_try3, x_try4, x_try5, x_nx1, x_nx2, x_try6, x_try7, x_nx3, x_nx4, x_app, x_app1, x_app2, x_lc, x_lcE, x_lc0, x_lc1, x_lcG, x_w0, x_w1, vMinL4, vMaxL4, vAll3, vAny3, vAll4, vAny4, x_wh1, x_wh2, x_wh0, x_abs, vI_ii, vI_ib, vI_it, vI_il, vI_is, vI_bb, vI_bi, vI_tt, vI_tl, vI_ti, vI_ll, vI_lt, vI_ss, vEqB, vNeB, x_ta, x_ta1, x_ta2, x_ta3, x_ta4, x_ta5, x_is, nc_0, nc_1, nc_2, nc_3, nc_4, nc_5, nc_6, nc_7, nc_8, nc_9, nc_10, nc_11, vMax2, vMin2, vIsN0, vIsN1, vNotN0, vNotN1, vIsN2, vNotN2, x_lo, x_lo1, x_lo2, vAll2, vAny2, x_sl, x_sl1, x_sl2, x_pn, x_ps, x_ps1, x_cutL, x_cutC, vEqS, vNeS, x_fz_obj, x_fr_obj, x_make, x_meth, x_meth2, x_meth3, x_isO, x_isO1, x_cat, x_cat1, x_methZ, x_methZ2, x_methZ3, x_callZ, x_callZ1, x_lend1, x_lend2, x_cl_int, x_cl_bl, x_cl_str, x_cl_non, x_cl_tup, x_cl0, x_cl1, x_cl_lst, x_setIx, x_setIx1, x_setIx2, Option.map_some, List.getD_cons_zero, List.getD_cons_succ, List.set_cons_zero, List.set_cons_succ, List.map_cons, List.map_nil, List.replicate_zero, List.replicate_succ, List.length_cons, List.length_nil, List.cons_append, List.nil_append, Option.bind_some, if_true, if_false, Bool.false_eq_true, Nat.reduceSub, Nat.reduceAdd, Nat.reduceLeDiff, Nat.reduceLT, vAdd, vSub, vLt, vLe, vGt, vGe, vNeg, vEq, vNe, vEq2, vNe2, vMod, vDiv, vMul, vPow, Int.reduceToNat, vIx0, vIx1, vLenT, vLenC, vLenL, reduceIte, decide_true, decide_false, Bool.not_true, Bool.not_false, beq_self_eq_true, Bool.and_true, Bool.true_and, Bool.and_self, Bool.and_false, Bool.false_and]
theorem parts_lst {qs : List (Int × (Int × Int))} (h : ∀ q ∈ qs, q.2.1 ≤ q.2.2) (hl : qs.length ≤ 10) : f__law_parts_are [.lst false (qs.map tD), .lst false (qs.map tD)] = .ok (.bl true) := by
  obtain ⟨N, hN⟩ : ∃ N : Int, (qs.length : Int) = N := ⟨_, rfl⟩
  obtain ⟨n, hn⟩ : ∃ n, qs.length = n := ⟨_, rfl⟩
  have lS : gLen [.lst false (qs.map tD)] = some (.int N) := by rw [vLenL, List.length_map, hN]
  have wh : ∀ a, f__law_whole [.int a] = .ok (.bl true) := fun _ => rfl
  obtain ⟨τ', e, x2, x3, rfl⟩ := for_inv (g := gN 2) (b := l__law_parts_are_1) (fun τ => ∃ x2 x3, τ = [some (.lst false (qs.map tD)), some (.lst false (qs.map tD)), x2, x3]) (rangeD 0 n) [some (.lst false (qs.map tD)), some (.lst false (qs.map tD)), none, none] (fun d hd τ hI => by
    obtain ⟨k, hk, rfl⟩ := mem_rangeD hd
    obtain ⟨x2, x3, rfl⟩ := hI
    have k1 : k < qs.length := by omega
    have e1 : gIx (.lst false (qs.map tD)) (.int (0 + (k : Nat))) = some (tD qs[k]) := by
      rw [Int.zero_add, vIxL, List.getElem?_map, List.getElem?_eq_getElem k1]; rfl
    have hq := h _ (List.getElem_mem k1)
    generalize qs[k] = q at *
    have sp := isspan_ok hq
    have ne : gNe (tD q) (tD q) = some (.bl false) := vNeX (tD_ok q) (tD_ok q) rfl
    refine ⟨_, [some (.lst false (qs.map tD)), some (.lst false (qs.map tD)), some (.int (0 + (k : Nat))), some (tD q)], x_gN, .inl ?_, _, _, rfl⟩
    generalize qs.map tD = V at *
    generalize 0 + ((k : Nat) : Int) = kk at *
    have i0 : gIx (tD q) (.int 0) = some (.int q.1) := rfl
    have i1 : gIx (tD q) (.int 1) = some (spD q.2) := rfl
    have z1 : isFz (tD q) = true := rfl
    have z2 := fz_sp1 q.2
    have z3 := fr_sp1 q.2
    have z4 : gIsi [tD q, .ty "tuple"] = some (.bl true) := rfl
    have z5 : gLen [tD q] = some (.int 2) := rfl
    generalize tD q = t at *
    simp (disch := decide) only [l__law_parts_are_1, x_seq, x_seq1, x_seq2, x_seq3, x_seq4, x_seq5, x_seq6, x_nil, x_if, x_if1, x_if2, x_if3, x_ret, x_ret1, x_ret2, x_ret3, x_retN, x_asg, x_asg1, x_asg2, x_asg3, x_asg4, x_asg5, x_gN, x_drop, x_drop1, x_drop2, x_bk, x_ct, x_raise, x_tZ, x_tZ1, x_tZ2, x_tE, x_tE1, x_tE2, x_tE3, x_tAnd, x_tAnd1, x_tAnd2, x_tAnd3, x_tOr, x_tOr1, x_tOr2, x_tOr3, x_tNot, x_tNot1, x_tNot2, x_tNot3, x_tTrue, x_z2, x_z21, x_z1, x_z11, x_zC, x_zC1, x_za, x_za1, x_za0, x_zV, x_zK, x_ch, x_ch1, x_ch2, x_eZ, x_eZ1, x_eZ2, x_eV, x_eV1, x_eM, x_eM1, x_b1, x_b2, x_b3, x_s1, x_s2, x_s3, x_oO, x_oO2, x_e2, x_e1, x_eC, x_aN, x_aC, x_tup, x_lst, x_call, x_oC1, x_oC2, x_call0, x_call01, x_eAnd, x_eAnd1, x_eOr, x_eOr1, x_eNot, x_eNot1, x_eIf, x_eIf1, x_fz_int, x_fr_int, x_fz_bl, x_fr_bl, x_fz_str, x_fr_str, x_fz_ty, x_fr_ty, x_fz_tup, x_fr_tup, x_fz_cst, x_fr_cst, x_fz_lst_false, x_fr_lst_false, x_fz_non, x_fr_non, x_fz_lt, x_fr_lt, x_fL0, x_fL1, x_cF, x_cR1, x_cR2, x_cR3, x_iL, x_iL1, x_iT, x_iT1, x_iS, x_iS1, x_iR1, x_iR11, x_iR2, x_iR21, x_iE, x_iE1, x_iV, x_iV1, x_iZ, x_iZ1, x_for, x_fo0, x_fo1, x_fo2, x_fo3, x_fo4, x_fo5, x_fo6, x_fo7, x_gT, x_gC, x_gC0, x_try, x_try1, x_try2, x_try3, x_try4, x_try5, x_nx1, x_nx2, x_try6, x_try7, x_nx3, x_nx4, x_app, x_app1, x_app2, x_lc, x_lcE, x_lc0, x_lc1, x_lcG, x_w0, x_w1, vMinL4, vMaxL4, vAll3, vAny3, vAll4, vAny4, x_wh1, x_wh2, x_wh0, x_abs, vI_ii, vI_ib, vI_it, vI_il, vI_is, vI_bb, vI_bi, vI_tt, vI_tl, vI_ti, vI_ll, vI_lt, vI_ss, vEqB, vNeB, x_ta, x_ta1, x_ta2, x_ta3, x_ta4, x_ta5, x_is, nc_0, nc_1, nc_2, nc_3, nc_4, nc_5, nc_6, nc_7, nc_8, nc_9, nc_10, nc_11, vMax2, vMin2, vIsN0, vIsN1, vNotN0, vNotN1, vIsN2, vNotN2, x_lo, x_lo1, x_lo2, vAll2, vAny2, x_sl, x_sl1, x_sl2, x_pn, x_ps, x_ps1, x_cutL, x_cutC, vEqS, vNeS, x_fz_obj, x_fr_obj, x_make, x_meth, x_meth2, x_meth3, x_isO, x_isO1, x_cat, x_cat1, x_methZ, x_methZ2, x_methZ3, x_callZ, x_callZ1, x_lend1, x_lend2, x_cl_int, x_cl_bl, x_cl_str, x_cl_non, x_cl_tup, x_cl0, x_cl1, x_cl_lst, x_setIx, x_setIx1, x_setIx2, Option.map_some, List.getD_cons_zero, List.getD_cons_succ, List.set_cons_zero, List.set_cons_succ, List.map_cons, List.map_nil, List.replicate_zero, List.replicate_succ, List.length_cons, List.length_nil, List.cons_append, List.nil_append, Option.bind_some, if_true, if_false, Bool.false_eq_true, Nat.reduceSub, Nat.reduceAdd, Nat.reduceLeDiff, Nat.reduceLT, vAdd, vSub, vLt, vLe, vGt, vGe, vNeg, vEq, vNe, vEq2, vNe2, vMod, vDiv, vMul, vPow, Int.reduceToNat, vIx0, vIx1, vLenT, vLenC, vLenL, reduceIte, decide_true, decide_false, Bool.not_true, Bool.not_false, beq_self_eq_true, Bool.and_true, Bool.true_and, Bool.and_self, Bool.and_false, Bool.false_and, e1, i0, i1, wh, sp, ne, z1, z2, z3, z4, z5]) ⟨none, none, rfl⟩
  generalize qs.map tD = V at *
  have hfor : sFor (iR1 (aCons (eZ (zC' gLen (zaCons (zVar 1) zaNil))) aNil)) (gN 2) l__law_parts_are_1 [some (.lst false V), some (.lst false V), none, none] = .nx [some (.lst false V), some (.lst false V), x2, x3] := by
    rw [x_for_range (N := N) (n := n) (τ1 := [some (.lst false V), some (.lst false V), none, none]) (by simp only [x_seq, x_seq1, x_seq2, x_seq3, x_seq4, x_seq5, x_seq6, x_nil, x_if, x_if1, x_if2, x_if3, x_ret, x_ret1, x_ret2, x_ret3, x_retN, x_asg, x_asg1, x_asg2, x_asg3, x_asg4, x_asg5, x_gN, x_drop, x_drop1, x_drop2, x_bk, x_ct, x_raise, x_tZ, x_tZ1, x_tZ2, x_tE, x_tE1, x_tE2, x_tE3, x_tAnd, x_tAnd1, x_tAnd2, x_tAnd3, x_tOr, x_tOr1, x_tOr2, x_tOr3, x_tNot, x_tNot1, x_tNot2, x_tNot3, x_tTrue, x_z2, x_z21, x_z1, x_z11, x_zC, x_zC1, x_za, x_za1, x_za0, x_zV, x_zK, x_ch, x_ch1, x_ch2, x_eZ, x_eZ1, x_eZ2, x_eV, x_eV1, x_eM, x_eM1, x_b1, x_b2, x_b3, x_s1, x_s2, x_s3, x_oO, x_oO2, x_e2, x_e1, x_eC, x_aN, x_aC, x_tup, x_lst, x_call, x_oC1, x_oC2, x_call0, x_call01, x_eAnd, x_eAnd1, x_eOr, x_eOr1, x_eNot, x_eNot1, x_eIf, x_eIf1, x_fz_int, x_fr_int, x_fz_bl, x_fr_bl, x_fz_str, x_fr_str, x_fz_ty, x_fr_ty, x_fz_tup, x_fr_tup, x_fz_cst, x_fr_cst, x_fz_lst_false, x_fr_lst_false, x_fz_non, x_fr_non, x_fz_lt, x_fr_lt, x_fL0, x_fL1, x_cF, x_cR1, x_cR2, x_cR3, x_iL, x_iL1, x_iT, x_iT1, x_iS, x_iS1, x_iR1, x_iR11, x_iR2, x_iR21, x_iE, x_iE1, x_iV, x_iV1, x_iZ, x_iZ1, x_for, x_fo0, x_fo1, x_fo2, x_fo3, x_fo4, x_fo5, x_fo6, x_fo7, x_gT, x_gC, x_gC0, x_try, x_try1, x_try2, x_try3, x_try4, x_try5, x_nx1, x_nx2, x_try6, x_try7, x_nx3, x_nx4, x_app, x_app1, x_app2, x_lc, x_lcE, x_lc0, x_lc1, x_lcG, x_w0, x_w1, vMinL4, vMaxL4, vAll3, vAny3, vAll4, vAny4, x_wh1, x_wh2, x_wh0, x_abs, vI_ii, vI_ib, vI_it, vI_il, vI_is, vI_bb, vI_bi, vI_tt, vI_tl, vI_ti, vI_ll, vI_lt, vI_ss, vEqB, vNeB, x_ta, x_ta1, x_ta2, x_ta3, x_ta4, x_ta5, x_is, nc_0, nc_1, nc_2, nc_3, nc_4, nc_5, nc_6, nc_7, nc_8, nc_9, nc_10, nc_11, vMax2, vMin2, vIsN0, vIsN1, vNotN0, vNotN1, vIsN2, vNotN2, x_lo, x_lo1, x_lo2, vAll2, vAny2, x_sl, x_sl1, x_sl2, x_pn, x_ps, x_ps1, x_cutL, x_cutC, vEqS, vNeS, x_fz_obj, x_fr_obj, x_make, x_meth, x_meth2, x_meth3, x_isO, x_isO1, x_cat, x_cat1, x_methZ, x_methZ2, x_methZ3, x_callZ, x_callZ1, x_lend1, x_lend2, x_cl_int, x_cl_bl, x_cl_str, x_cl_non, x_cl_tup, x_cl0, x_cl1, x_cl_lst, x_setIx, x_setIx1, x_setIx2, Option.map_some, List.getD_cons_zero, List.getD_cons_succ, List.set_cons_zero, List.set_cons_succ, List.map_cons, List.map_nil, List.replicate_zero, List.replicate_succ, List.length_cons, List.length_nil, List.cons_append, List.nil_append, Option.bind_some, if_true, if_false, Bool.false_eq_true, Nat.reduceSub, Nat.reduceAdd, Nat.reduceLeDiff, Nat.reduceLT, vAdd, vSub, vLt, vLe, vGt, vGe, vNeg, vEq, vNe, vEq2, vNe2, vMod, vDiv, vMul, vPow, Int.reduceToNat, vIx0, vIx1, vLenT, vLenC, vLenL, reduceIte, decide_true, decide_false, Bool.not_true, Bool.not_false, beq_self_eq_true, Bool.and_true, Bool.true_and, Bool.and_self, Bool.and_false, Bool.false_and, lS]) (by omega) (by omega) (by omega)]
    exact e
  have e0 : m__law_parts_are [some (.lst false V), some (.lst false V), none, none] = .rt (.bl true) [some (.lst false V), some (.lst false V), x2, x3] := by
    refine x_seq_ok (τ1 := [some (.lst false V), some (.lst false V), none, none]) ?_ (x_seq_ok (τ1 := [some (.lst false V), some (.lst false V), none, none]) ?_ (x_seq_ok hfor rfl))
    · simp (disch := decide) only [x_seq, x_seq1, x_seq2, x_seq3, x_seq4, x_seq5, x_seq6, x_nil, x_if, x_if1, x_if2, x_if3, x_ret, x_ret1, x_ret2, x_ret3, x_retN, x_asg, x_asg1, x_asg2, x_asg3, x_asg4, x_asg5, x_gN, x_drop, x_drop1, x_drop2, x_bk, x_ct, x_raise, x_tZ, x_tZ1, x_tZ2, x_tE, x_tE1, x_tE2, x_tE3, x_tAnd, x_tAnd1, x_tAnd2, x_tAnd3, x_tOr, x_tOr1, x_tOr2, x_tOr3, x_tNot, x_tNot1, x_tNot2, x_tNot3, x_tTrue, x_z2, x_z21, x_z1, x_z11, x_zC, x_zC1, x_za, x_za1, x_za0, x_zV, x_zK, x_ch, x_ch1, x_ch2, x_eZ, x_eZ1, x_eZ2, x_eV, x_eV1, x_eM, x_eM1, x_b1, x_b2, x_b3, x_s1, x_s2, x_s3, x_oO, x_oO2, x_e2, x_e1, x_eC, x_aN, x_aC, x_tup, x_lst, x_call, x_oC1, x_oC2, x_call0, x_call01, x_eAnd, x_eAnd1, x_eOr, x_eOr1, x_eNot, x_eNot1, x_eIf, x_eIf1, x_fz_int, x_fr_int, x_fz_bl, x_fr_bl, x_fz_str, x_fr_str, x_fz_ty, x_fr_ty, x_fz_tup, x_fr_tup, x_fz_cst, x_fr_cst, x_fz_lst_false, x_fr_lst_false, x_fz_non, x_fr_non, x_fz_lt, x_fr_lt, x_fL0, x_fL1, x_cF, x_cR1, x_cR2, x_cR3, x_iL, x_iL1, x_iT, x_iT1, x_iS, x_iS1, x_iR1, x_iR11, x_iR2, x_iR21, x_iE, x_iE1, x_iV, x_iV1, x_iZ, x_iZ1, x_for, x_fo0, x_fo1, x_fo2, x_fo3, x_fo4, x_fo5, x_fo6, x_fo7, x_gT, x_gC, x_gC0, x_try, x_try1, x_try2, x_try3, x_try4, x_try5, x_nx1, x_nx2, x_try6, x_try7, x_nx3, x_nx4, x_app, x_app1, x_app2, x_lc, x_lcE, x_lc0, x_lc1, x_lcG, x_w0, x_w1, vMinL4, vMaxL4, vAll3, vAny3, vAll4, vAny4, x_wh1, x_wh2, x_wh0, x_abs, vI_ii, vI_ib, vI_it, vI_il, vI_is, vI_bb, vI_bi, vI_tt, vI_tl, vI_ti, vI_ll, vI_lt, vI_ss, vEqB, vNeB, x_ta, x_ta1, x_ta2, x_ta3, x_ta4, x_ta5, x_is, nc_0, nc_1, nc_2, nc_3, nc_4, nc_5, nc_6, nc_7, nc_8, nc_9, nc_10, nc_11, vMax2, vMin2, vIsN0, vIsN1, vNotN0, vNotN1, vIsN2, vNotN2, x_lo, x_lo1, x_lo2, vAll2, vAny2, x_sl, x_sl1, x_sl2, x_pn, x_ps, x_ps1, x_cutL, x_cutC, vEqS, vNeS, x_fz_obj, x_fr_obj, x_make, x_meth, x_meth2, x_meth3, x_isO, x_isO1, x_cat, x_cat1, x_methZ, x_methZ2, x_methZ3, x_callZ, x_callZ1, x_lend1, x_lend2, x_cl_int, x_cl_bl, x_cl_str, x_cl_non, x_cl_tup, x_cl0, x_cl1, x_cl_lst, x_setIx, x_setIx1, x_setIx2, Option.map_some, List.getD_cons_zero, List.getD_cons_succ, List.set_cons_zero, List.set_cons_succ, List.map_cons, List.map_nil, List.replicate_zero, List.replicate_succ, List.length_cons, List.length_nil, List.cons_append, List.nil_append, Option.bind_some, if_true, if_false, Bool.false_eq_true, Nat.reduceSub, Nat.reduceAdd, Nat.reduceLeDiff, Nat.reduceLT, vAdd, vSub, vLt, vLe, vGt, vGe, vNeg, vEq, vNe, vEq2, vNe2, vMod, vDiv, vMul, vPow, Int.reduceToNat, vIx0, vIx1, vLenT, vLenC, vLenL, reduceIte, decide_true, decide_false, Bool.not_true, Bool.not_false, beq_self_eq_true, Bool.and_true, Bool.true_and, Bool.and_self, Bool.and_false, Bool.false_and, isn_lst]
    · simp (disch := decide) only [x_seq, x_seq1, x_seq2, x_seq3, x_seq4, x_seq5, x_seq6, x_nil, x_if, x_if1, x_if2, x_if3, x_ret, x_ret1, x_ret2, x_ret3, x_retN, x_asg, x_asg1, x_asg2, x_asg3, x_asg4, x_asg5, x_gN, x_drop, x_drop1, x_drop2, x_bk, x_ct, x_raise, x_tZ, x_tZ1, x_tZ2, x_tE, x_tE1, x_tE2, x_tE3, x_tAnd, x_tAnd1, x_tAnd2, x_tAnd3, x_tOr, x_tOr1, x_tOr2, x_tOr3, x_tNot, x_tNot1, x_tNot2, x_tNot3, x_tTrue, x_z2, x_z21, x_z1, x_z11, x_zC, x_zC1, x_za, x_za1, x_za0, x_zV, x_zK, x_ch, x_ch1, x_ch2, x_eZ, x_eZ1, x_eZ2, x_eV, x_eV1, x_eM, x_eM1, x_b1, x_b2, x_b3, x_s1, x_s2, x_s3, x_oO, x_oO2, x_e2, x_e1, x_eC, x_aN, x_aC, x_tup, x_lst, x_call, x_oC1, x_oC2, x_call0, x_call01, x_eAnd, x_eAnd1, x_eOr, x_eOr1, x_eNot, x_eNot1, x_eIf, x_eIf1, x_fz_int, x_fr_int, x_fz_bl, x_fr_bl, x_fz_str, x_fr_str, x_fz_ty, x_fr_ty, x_fz_tup, x_fr_tup, x_fz_cst, x_fr_cst, x_fz_lst_false, x_fr_lst_false, x_fz_non, x_fr_non, x_fz_lt, x_fr_lt, x_fL0, x_fL1, x_cF, x_cR1, x_cR2, x_cR3, x_iL, x_iL1, x_iT, x_iT1, x_iS, x_iS1, x_iR1, x_iR11, x_iR2, x_iR21, x_iE, x_iE1, x_iV, x_iV1, x_iZ, x_iZ1, x_for, x_fo0, x_fo1, x_fo2, x_fo3, x_fo4, x_fo5, x_fo6, x_fo7, x_gT, x_gC, x_gC0, x_try, x_try1, x_try2, x_try3, x_try4, x_try5, x_nx1, x_nx2, x_try6, x_try7, x_nx3, x_nx4, x_app, x_app1, x_app2, x_lc, x_lcE, x_lc0, x_lc1, x_lcG, x_w0, x_w1, vMinL4, vMaxL4, vAll3, vAny3, vAll4, vAny4, x_wh1, x_wh2, x_wh0, x_abs, vI_ii, vI_ib, vI_it, vI_il, vI_is, vI_bb, vI_bi, vI_tt, vI_tl, vI_ti, vI_ll, vI_lt, vI_ss, vEqB, vNeB, x_ta, x_ta1, x_ta2, x_ta3, x_ta4, x_ta5, x_is, nc_0, nc_1, nc_2, nc_3, nc_4, nc_5, nc_6, nc_7, nc_8, nc_9, nc_10, nc_11, vMax2, vMin2, vIsN0, vIsN1, vNotN0, vNotN1, vIsN2, vNotN2, x_lo, x_lo1, x_lo2, vAll2, vAny2, x_sl, x_sl1, x_sl2, x_pn, x_ps, x_ps1, x_cutL, x_cutC, vEqS, vNeS, x_fz_obj, x_fr_obj, x_make, x_meth, x_meth2, x_meth3, x_isO, x_isO1, x_cat, x_cat1, x_methZ, x_methZ2, x_methZ3, x_callZ, x_callZ1, x_lend1, x_lend2, x_cl_int, x_cl_bl, x_cl_str, x_cl_non, x_cl_tup, x_cl0, x_cl1, x_cl_lst, x_setIx, x_setIx1, x_setIx2, Option.map_some, List.getD_cons_zero, List.getD_cons_succ, List.set_cons_zero, List.set_cons_succ, List.map_cons, List.map_nil, List.replicate_zero, List.replicate_succ, List.length_cons, List.length_nil, List.cons_append, List.nil_append, Option.bind_some, if_true, if_false, Bool.false_eq_true, Nat.reduceSub, Nat.reduceAdd, Nat.reduceLeDiff, Nat.reduceLT, vAdd, vSub, vLt, vLe, vGt, vGe, vNeg, vEq, vNe, vEq2, vNe2, vMod, vDiv, vMul, vPow, Int.reduceToNat, vIx0, vIx1, vLenT, vLenC, vLenL, reduceIte, decide_true, decide_false, Bool.not_true, Bool.not_false, beq_self_eq_true, Bool.and_true, Bool.true_and, Bool.and_self, Bool.and_false, Bool.false_and, lS]
  show callR (m__law_parts_are [some (.lst false V), some (.lst false V), none, none]) = _
  rw [e0, x_cR2]
/-- sums, numbers, unknowns -/
def Nd.sm : Nd → Prop
  | .num _ _ => True | .unk _ => True | .plus _ _ => True | .minus _ _ => True | .pow _ _ => False | .times _ _ => False
def resB (ss : List (Int × Int)) (z : Int × Int) : Nd → D
  | .plus i j => bkD i j (bk true (i == j) z (pt ss i) (pt ss j))
  | .minus i j => bkD i j (bk false (i == j) z (pt ss i) (pt ss j))
  | _ => .lst true []
theorem resB_ok (ss : List (Int × Int)) (z : Int × Int) (n : Nd) : f__law_parts_are [freeze (resB ss z n), freeze (resB ss z n)] = .ok (.bl true) ∧ (resB ss z n = .non ∨ ∃ L, resB ss z n = .lst true L ∧ freezeL L = L) := by
  have go : ∀ (i j : Int) (plus s : Bool) (x y : Int × Int), f__law_parts_are [freeze (bkD i j (bk plus s z x y)), freeze (bkD i j (bk plus s z x y))] = .ok (.bl true) ∧ (bkD i j (bk plus s z x y) = .non ∨ ∃ L, bkD i j (bk plus s z x y) = .lst true L ∧ freezeL L = L) := fun i j plus s x y => by
    unfold bk
    cases h1 : mt x (back1 plus z x y) with
    | none => exact ⟨parts_non, .inl rfl⟩
    | some x' =>
      cases h2 : mt (if s = true then x' else y) (back2 plus z x' y) with
      | none => simp only [h2]; exact ⟨parts_non, .inl rfl⟩
      | some y' =>
        simp only [h2]
        refine ⟨?_, .inr ⟨_, rfl, rfl⟩⟩
        exact parts_lst (qs := [(i, x'), (j, y')]) (fun q hq => by
          simp only [List.mem_cons, List.not_mem_nil, or_false] at hq
          rcases hq with rfl | rfl
          · exact mt_le h1
          · exact mt_le h2) (by simp)
  cases n with
  | plus i j => exact go i j true _ _ _
  | minus i j => exact go i j false _ _ _
  | num t b => exact ⟨parts_lst (qs := []) (by simp) (by decide), .inr ⟨[], rfl, rfl⟩⟩
  | unk j => exact ⟨parts_lst (qs := []) (by simp) (by decide), .inr ⟨[], rfl, rfl⟩⟩
  | pow i j => exact ⟨parts_lst (qs := []) (by simp) (by decide), .inr ⟨[], rfl, rfl⟩⟩
  | times i j => exact ⟨parts_lst (qs := []) (by simp) (by decide), .inr ⟨[], rfl, rfl⟩⟩
/-- the way back by an object's class -/
def fb (n : Nd) : List D → CR := match n with
  | .plus _ _ => f_Plus_back | .minus _ _ => f_Minus_back | _ => f_Node_back
theorem methB_ok {n : Nd} (h : n.sm) {τ : Bn.Env} {ma : MA} : methA al_back "back" n.o ma τ = (ma τ).bind fun ds τ2 => ofC (fb n (n.o :: freezeL ds)) τ2 := by
  cases n with
  | num t b => simp only [Nd.o, x_meth2, al_back_Number, nm_Number_back, x_meth3, fb]
  | unk j => simp only [Nd.o, x_meth2, al_back_Unknown, nm_Unknown_back, x_meth3, fb]
  | plus i j => simp only [Nd.o, x_meth2, al_back_Plus, nm_Plus_back, x_meth3, fb]
  | minus i j => simp only [Nd.o, x_meth2, al_back_Minus, nm_Minus_back, x_meth3, fb]
  | pow i j => exact h.elim
  | times i j => exact h.elim
theorem fb_ok {n : Nd} (h : n.sm) {ss : List (Int × Int)} {M : Int} (hB : n.B ss.length M) {g : Int} {z : Int × Int} : fb n [n.o, .lst false (ss.map spD), spD z, .int g] = .ok (resB ss z n) := by
  have ix := fun {i : Int} (i0 : 0 ≤ i) (i1 : i < ss.length) => ix_pt (ss := ss) i0 i1 false
  cases n with
  | num t b =>
    have fz := fz_sp1 z
    simp (disch := decide) only [Nd.o, fb, resB, f_Node_back, m_Node_back, x_seq, x_seq1, x_seq2, x_seq3, x_seq4, x_seq5, x_seq6, x_nil, x_if, x_if1, x_if2, x_if3, x_ret, x_ret1, x_ret2, x_ret3, x_retN, x_asg, x_asg1, x_asg2, x_asg3, x_asg4, x_asg5, x_gN, x_drop, x_drop1, x_drop2, x_bk, x_ct, x_raise, x_tZ, x_tZ1, x_tZ2, x_tE, x_tE1, x_tE2, x_tE3, x_tAnd, x_tAnd1, x_tAnd2, x_tAnd3, x_tOr, x_tOr1, x_tOr2, x_tOr3, x_tNot, x_tNot1, x_tNot2, x_tNot3, x_tTrue, x_z2, x_z21, x_z1, x_z11, x_zC, x_zC1, x_za, x_za1, x_za0, x_zV, x_zK, x_ch, x_ch1, x_ch2, x_eZ, x_eZ1, x_eZ2, x_eV, x_eV1, x_eM, x_eM1, x_b1, x_b2, x_b3, x_s1, x_s2, x_s3, x_oO, x_oO2, x_e2, x_e1, x_eC, x_aN, x_aC, x_tup, x_lst, x_call, x_oC1, x_oC2, x_call0, x_call01, x_eAnd, x_eAnd1, x_eOr, x_eOr1, x_eNot, x_eNot1, x_eIf, x_eIf1, x_fz_int, x_fr_int, x_fz_bl, x_fr_bl, x_fz_str, x_fr_str, x_fz_ty, x_fr_ty, x_fz_tup, x_fr_tup, x_fz_cst, x_fr_cst, x_fz_lst_false, x_fr_lst_false, x_fz_non, x_fr_non, x_fz_lt, x_fr_lt, x_fL0, x_fL1, x_cF, x_cR1, x_cR2, x_cR3, x_iL, x_iL1, x_iT, x_iT1, x_iS, x_iS1, x_iR1, x_iR11, x_iR2, x_iR21, x_iE, x_iE1, x_iV, x_iV1, x_iZ, x_iZ1, x_for, x_fo0, x_fo1, x_fo2, x_fo3, x_fo4, x_fo5, x_fo6, x_fo7, x_gT, x_gC, x_gC0, x_try, x_try1, x_try2, x_try3, x_try4, x_try5, x_nx1, x_nx2, x_try6, x_try7, x_nx3, x_nx4, x_app, x_app1, x_app2, x_lc, x_lcE, x_lc0, x_lc1, x_lcG, x_w0, x_w1, vMinL4, vMaxL4, vAll3, vAny3, vAll4, vAny4, x_wh1, x_wh2, x_wh0, x_abs, vI_ii, vI_ib, vI_it, vI_il, vI_is, vI_bb, vI_bi, vI_tt, vI_tl, vI_ti, vI_ll, vI_lt, vI_ss, vEqB, vNeB, x_ta, x_ta1, x_ta2, x_ta3, x_ta4, x_ta5, x_is, nc_0, nc_1, nc_2, nc_3, nc_4, nc_5, nc_6, nc_7, nc_8, nc_9, nc_10, nc_11, vMax2, vMin2, vIsN0, vIsN1, vNotN0, vNotN1, vIsN2, vNotN2, x_lo, x_lo1, x_lo2, vAll2, vAny2, x_sl, x_sl1, x_sl2, x_pn, x_ps, x_ps1, x_cutL, x_cutC, vEqS, vNeS, x_fz_obj, x_fr_obj, x_make, x_meth, x_meth2, x_meth3, x_isO, x_isO1, x_cat, x_cat1, x_methZ, x_methZ2, x_methZ3, x_callZ, x_callZ1, x_lend1, x_lend2, x_cl_int, x_cl_bl, x_cl_str, x_cl_non, x_cl_tup, x_cl0, x_cl1, x_cl_lst, x_setIx, x_setIx1, x_setIx2, Option.map_some, List.getD_cons_zero, List.getD_cons_succ, List.set_cons_zero, List.set_cons_succ, List.map_cons, List.map_nil, List.replicate_zero, List.replicate_succ, List.length_cons, List.length_nil, List.cons_append, List.nil_append, Option.bind_some, if_true, if_false, Bool.false_eq_true, Nat.reduceSub, Nat.reduceAdd, Nat.reduceLeDiff, Nat.reduceLT, vAdd, vSub, vLt, vLe, vGt, vGe, vNeg, vEq, vNe, vEq2, vNe2, vMod, vDiv, vMul, vPow, Int.reduceToNat, vIx0, vIx1, vLenT, vLenC, vLenL, reduceIte, decide_true, decide_false, Bool.not_true, Bool.not_false, beq_self_eq_true, Bool.and_true, Bool.true_and, Bool.and_self, Bool.and_false, Bool.false_and]
  | unk j => simp (disch := decide) only [Nd.o, fb, resB, f_Node_back, m_Node_back, x_seq, x_seq1, x_seq2, x_seq3, x_seq4, x_seq5, x_seq6, x_nil, x_if, x_if1, x_if2, x_if3, x_ret, x_ret1, x_ret2, x_ret3, x_retN, x_asg, x_asg1, x_asg2, x_asg3, x_asg4, x_asg5, x_gN, x_drop, x_drop1, x_drop2, x_bk, x_ct, x_raise, x_tZ, x_tZ1, x_tZ2, x_tE, x_tE1, x_tE2, x_tE3, x_tAnd, x_tAnd1, x_tAnd2, x_tAnd3, x_tOr, x_tOr1, x_tOr2, x_tOr3, x_tNot, x_tNot1, x_tNot2, x_tNot3, x_tTrue, x_z2, x_z21, x_z1, x_z11, x_zC, x_zC1, x_za, x_za1, x_za0, x_zV, x_zK, x_ch, x_ch1, x_ch2, x_eZ, x_eZ1, x_eZ2, x_eV, x_eV1, x_eM, x_eM1, x_b1, x_b2, x_b3, x_s1, x_s2, x_s3, x_oO, x_oO2, x_e2, x_e1, x_eC, x_aN, x_aC, x_tup, x_lst, x_call, x_oC1, x_oC2, x_call0, x_call01, x_eAnd, x_eAnd1, x_eOr, x_eOr1, x_eNot, x_eNot1, x_eIf, x_eIf1, x_fz_int, x_fr_int, x_fz_bl, x_fr_bl, x_fz_str, x_fr_str, x_fz_ty, x_fr_ty, x_fz_tup, x_fr_tup, x_fz_cst, x_fr_cst, x_fz_lst_false, x_fr_lst_false, x_fz_non, x_fr_non, x_fz_lt, x_fr_lt, x_fL0, x_fL1, x_cF, x_cR1, x_cR2, x_cR3, x_iL, x_iL1, x_iT, x_iT1, x_iS, x_iS1, x_iR1, x_iR11, x_iR2, x_iR21, x_iE, x_iE1, x_iV, x_iV1, x_iZ, x_iZ1, x_for, x_fo0, x_fo1, x_fo2, x_fo3, x_fo4, x_fo5, x_fo6, x_fo7, x_gT, x_gC, x_gC0, x_try, x_try1, x_try2, x_try3, x_try4, x_try5, x_nx1, x_nx2, x_try6, x_try7, x_nx3, x_nx4, x_app, x_app1, x_app2, x_lc, x_lcE, x_lc0, x_lc1, x_lcG, x_w0, x_w1, vMinL4, vMaxL4, vAll3, vAny3, vAll4, vAny4, x_wh1, x_wh2, x_wh0, x_abs, vI_ii, vI_ib, vI_it, vI_il, vI_is, vI_bb, vI_bi, vI_tt, vI_tl, vI_ti, vI_ll, vI_lt, vI_ss, vEqB, vNeB, x_ta, x_ta1, x_ta2, x_ta3, x_ta4, x_ta5, x_is, nc_0, nc_1, nc_2, nc_3, nc_4, nc_5, nc_6, nc_7, nc_8, nc_9, nc_10, nc_11, vMax2, vMin2, vIsN0, vIsN1, vNotN0, vNotN1, vIsN2, vNotN2, x_lo, x_lo1, x_lo2, vAll2, vAny2, x_sl, x_sl1, x_sl2, x_pn, x_ps, x_ps1, x_cutL, x_cutC, vEqS, vNeS, x_fz_obj, x_fr_obj, x_make, x_meth, x_meth2, x_meth3, x_isO, x_isO1, x_cat, x_cat1, x_methZ, x_methZ2, x_methZ3, x_callZ, x_callZ1, x_lend1, x_lend2, x_cl_int, x_cl_bl, x_cl_str, x_cl_non, x_cl_tup, x_cl0, x_cl1, x_cl_lst, x_setIx, x_setIx1, x_setIx2, Option.map_some, List.getD_cons_zero, List.getD_cons_succ, List.set_cons_zero, List.set_cons_succ, List.map_cons, List.map_nil, List.replicate_zero, List.replicate_succ, List.length_cons, List.length_nil, List.cons_append, List.nil_append, Option.bind_some, if_true, if_false, Bool.false_eq_true, Nat.reduceSub, Nat.reduceAdd, Nat.reduceLeDiff, Nat.reduceLT, vAdd, vSub, vLt, vLe, vGt, vGe, vNeg, vEq, vNe, vEq2, vNe2, vMod, vDiv, vMul, vPow, Int.reduceToNat, vIx0, vIx1, vLenT, vLenC, vLenL, reduceIte, decide_true, decide_false, Bool.not_true, Bool.not_false, beq_self_eq_true, Bool.and_true, Bool.true_and, Bool.and_self, Bool.and_false, Bool.false_and]
  | plus i j =>
    obtain ⟨i0, i1, j0, j1⟩ := hB
    have e := pair_ok (g := g) (z := z) (.inl ⟨rfl, rfl⟩ : (true = true ∧ _ = D.obj false "Plus" ["one", "other"] [.int i, .int j]) ∨ _) (ix i0 i1) (ix j0 j1)
    have fz := fz_sp1 z
    have fr := fr_sp1 z
    have fl : ∀ x, freeze (.lst false x) = .lst false x := fun _ => rfl
    show f_Plus_back _ = .ok (bkD i j (bk true (i == j) z (pt ss i) (pt ss j)))
    generalize bkD i j (bk true (i == j) z (pt ss i) (pt ss j)) = R0 at *
    generalize ss.map spD = S at *
    generalize spD z = Z at *
    simp (disch := decide) only [Nd.o, f_Plus_back, m_Plus_back, x_seq, x_seq1, x_seq2, x_seq3, x_seq4, x_seq5, x_seq6, x_nil, x_if, x_if1, x_if2, x_if3, x_ret, x_ret1, x_ret2, x_ret3, x_retN, x_asg, x_asg1, x_asg2, x_asg3, x_asg4, x_asg5, x_gN, x_drop, x_drop1, x_drop2, x_bk, x_ct, x_raise, x_tZ, x_tZ1, x_tZ2, x_tE, x_tE1, x_tE2, x_tE3, x_tAnd, x_tAnd1, x_tAnd2, x_tAnd3, x_tOr, x_tOr1, x_tOr2, x_tOr3, x_tNot, x_tNot1, x_tNot2, x_tNot3, x_tTrue, x_z2, x_z21, x_z1, x_z11, x_zC, x_zC1, x_za, x_za1, x_za0, x_zV, x_zK, x_ch, x_ch1, x_ch2, x_eZ, x_eZ1, x_eZ2, x_eV, x_eV1, x_eM, x_eM1, x_b1, x_b2, x_b3, x_s1, x_s2, x_s3, x_oO, x_oO2, x_e2, x_e1, x_eC, x_aN, x_aC, x_tup, x_lst, x_call, x_oC1, x_oC2, x_call0, x_call01, x_eAnd, x_eAnd1, x_eOr, x_eOr1, x_eNot, x_eNot1, x_eIf, x_eIf1, x_fz_int, x_fr_int, x_fz_bl, x_fr_bl, x_fz_str, x_fr_str, x_fz_ty, x_fr_ty, x_fz_tup, x_fr_tup, x_fz_cst, x_fr_cst, x_fz_lst_false, x_fr_lst_false, x_fz_non, x_fr_non, x_fz_lt, x_fr_lt, x_fL0, x_fL1, x_cF, x_cR1, x_cR2, x_cR3, x_iL, x_iL1, x_iT, x_iT1, x_iS, x_iS1, x_iR1, x_iR11, x_iR2, x_iR21, x_iE, x_iE1, x_iV, x_iV1, x_iZ, x_iZ1, x_for, x_fo0, x_fo1, x_fo2, x_fo3, x_fo4, x_fo5, x_fo6, x_fo7, x_gT, x_gC, x_gC0, x_try, x_try1, x_try2, x_try3, x_try4, x_try5, x_nx1, x_nx2, x_try6, x_try7, x_nx3, x_nx4, x_app, x_app1, x_app2, x_lc, x_lcE, x_lc0, x_lc1, x_lcG, x_w0, x_w1, vMinL4, vMaxL4, vAll3, vAny3, vAll4, vAny4, x_wh1, x_wh2, x_wh0, x_abs, vI_ii, vI_ib, vI_it, vI_il, vI_is, vI_bb, vI_bi, vI_tt, vI_tl, vI_ti, vI_ll, vI_lt, vI_ss, vEqB, vNeB, x_ta, x_ta1, x_ta2, x_ta3, x_ta4, x_ta5, x_is, nc_0, nc_1, nc_2, nc_3, nc_4, nc_5, nc_6, nc_7, nc_8, nc_9, nc_10, nc_11, vMax2, vMin2, vIsN0, vIsN1, vNotN0, vNotN1, vIsN2, vNotN2, x_lo, x_lo1, x_lo2, vAll2, vAny2, x_sl, x_sl1, x_sl2, x_pn, x_ps, x_ps1, x_cutL, x_cutC, vEqS, vNeS, x_fz_obj, x_fr_obj, x_make, x_meth, x_meth2, x_meth3, x_isO, x_isO1, x_cat, x_cat1, x_methZ, x_methZ2, x_methZ3, x_callZ, x_callZ1, x_lend1, x_lend2, x_cl_int, x_cl_bl, x_cl_str, x_cl_non, x_cl_tup, x_cl0, x_cl1, x_cl_lst, x_setIx, x_setIx1, x_setIx2, Option.map_some, List.getD_cons_zero, List.getD_cons_succ, List.set_cons_zero, List.set_cons_succ, List.map_cons, List.map_nil, List.replicate_zero, List.replicate_succ, List.length_cons, List.length_nil, List.cons_append, List.nil_append, Option.bind_some, if_true, if_false, Bool.false_eq_true, Nat.reduceSub, Nat.reduceAdd, Nat.reduceLeDiff, Nat.reduceLT, vAdd, vSub, vLt, vLe, vGt, vGe, vNeg, vEq, vNe, vEq2, vNe2, vMod, vDiv, vMul, vPow, Int.reduceToNat, vIx0, vIx1, vLenT, vLenC, vLenL, reduceIte, decide_true, decide_false, Bool.not_true, Bool.not_false, beq_self_eq_true, Bool.and_true, Bool.true_and, Bool.and_self, Bool.and_false, Bool.false_and, fz, fr, fl_Plus_one, fl_Plus_other, al_pair_back_Plus, nm_Plus_pair_back, e]
  | minus i j =>
    obtain ⟨i0, i1, j0, j1⟩ := hB
    have e := pair_ok (g := g) (z := z) (.inr ⟨rfl, rfl⟩ : _ ∨ (false = false ∧ _ = D.obj false "Minus" ["one", "other"] [.int i, .int j])) (ix i0 i1) (ix j0 j1)
    have fz := fz_sp1 z
    have fr := fr_sp1 z
    show f_Minus_back _ = .ok (bkD i j (bk false (i == j) z (pt ss i) (pt ss j)))
    generalize bkD i j (bk false (i == j) z (pt ss i) (pt ss j)) = R0 at *
    generalize ss.map spD = S at *
    generalize spD z = Z at *
    simp (disch := decide) only [Nd.o, f_Minus_back, m_Minus_back, x_seq, x_seq1, x_seq2, x_seq3, x_seq4, x_seq5, x_seq6, x_nil, x_if, x_if1, x_if2, x_if3, x_ret, x_ret1, x_ret2, x_ret3, x_retN, x_asg, x_asg1, x_asg2, x_asg3, x_asg4, x_asg5, x_gN, x_drop, x_drop1, x_drop2, x_bk, x_ct, x_raise, x_tZ, x_tZ1, x_tZ2, x_tE, x_tE1, x_tE2, x_tE3, x_tAnd, x_tAnd1, x_tAnd2, x_tAnd3, x_tOr, x_tOr1, x_tOr2, x_tOr3, x_tNot, x_tNot1, x_tNot2, x_tNot3, x_tTrue, x_z2, x_z21, x_z1, x_z11, x_zC, x_zC1, x_za, x_za1, x_za0, x_zV, x_zK, x_ch, x_ch1, x_ch2, x_eZ, x_eZ1, x_eZ2, x_eV, x_eV1, x_eM, x_eM1, x_b1, x_b2, x_b3, x_s1, x_s2, x_s3, x_oO, x_oO2, x_e2, x_e1, x_eC, x_aN, x_aC, x_tup, x_lst, x_call, x_oC1, x_oC2, x_call0, x_call01, x_eAnd, x_eAnd1, x_eOr, x_eOr1, x_eNot, x_eNot1, x_eIf, x_eIf1, x_fz_int, x_fr_int, x_fz_bl, x_fr_bl, x_fz_str, x_fr_str, x_fz_ty, x_fr_ty, x_fz_tup, x_fr_tup, x_fz_cst, x_fr_cst, x_fz_lst_false, x_fr_lst_false, x_fz_non, x_fr_non, x_fz_lt, x_fr_lt, x_fL0, x_fL1, x_cF, x_cR1, x_cR2, x_cR3, x_iL, x_iL1, x_iT, x_iT1, x_iS, x_iS1, x_iR1, x_iR11, x_iR2, x_iR21, x_iE, x_iE1, x_iV, x_iV1, x_iZ, x_iZ1, x_for, x_fo0, x_fo1, x_fo2, x_fo3, x_fo4, x_fo5, x_fo6, x_fo7, x_gT, x_gC, x_gC0, x_try, x_try1, x_try2, x_try3, x_try4, x_try5, x_nx1, x_nx2, x_try6, x_try7, x_nx3, x_nx4, x_app, x_app1, x_app2, x_lc, x_lcE, x_lc0, x_lc1, x_lcG, x_w0, x_w1, vMinL4, vMaxL4, vAll3, vAny3, vAll4, vAny4, x_wh1, x_wh2, x_wh0, x_abs, vI_ii, vI_ib, vI_it, vI_il, vI_is, vI_bb, vI_bi, vI_tt, vI_tl, vI_ti, vI_ll, vI_lt, vI_ss, vEqB, vNeB, x_ta, x_ta1, x_ta2, x_ta3, x_ta4, x_ta5, x_is, nc_0, nc_1, nc_2, nc_3, nc_4, nc_5, nc_6, nc_7, nc_8, nc_9, nc_10, nc_11, vMax2, vMin2, vIsN0, vIsN1, vNotN0, vNotN1, vIsN2, vNotN2, x_lo, x_lo1, x_lo2, vAll2, vAny2, x_sl, x_sl1, x_sl2, x_pn, x_ps, x_ps1, x_cutL, x_cutC, vEqS, vNeS, x_fz_obj, x_fr_obj, x_make, x_meth, x_meth2, x_meth3, x_isO, x_isO1, x_cat, x_cat1, x_methZ, x_methZ2, x_methZ3, x_callZ, x_callZ1, x_lend1, x_lend2, x_cl_int, x_cl_bl, x_cl_str, x_cl_non, x_cl_tup, x_cl0, x_cl1, x_cl_lst, x_setIx, x_setIx1, x_setIx2, Option.map_some, List.getD_cons_zero, List.getD_cons_succ, List.set_cons_zero, List.set_cons_succ, List.map_cons, List.map_nil, List.replicate_zero, List.replicate_succ, List.length_cons, List.length_nil, List.cons_append, List.nil_append, Option.bind_some, if_true, if_false, Bool.false_eq_true, Nat.reduceSub, Nat.reduceAdd, Nat.reduceLeDiff, Nat.reduceLT, vAdd, vSub, vLt, vLe, vGt, vGe, vNeg, vEq, vNe, vEq2, vNe2, vMod, vDiv, vMul, vPow, Int.reduceToNat, vIx0, vIx1, vLenT, vLenC, vLenL, reduceIte, decide_true, decide_false, Bool.not_true, Bool.not_false, beq_self_eq_true, Bool.and_true, Bool.true_and, Bool.and_self, Bool.and_false, Bool.false_and, fz, fr, fl_Minus_one, fl_Minus_other, al_pair_back_Minus, nm_Minus_pair_back, e]
  | pow i j => exact h.elim
  | times i j => exact h.elim
/-! the span for the node itself -/
theorem set_map (ss : List (Int × Int)) (k : Nat) (p : Int × Int) : (ss.map spD).set k (spD p) = (ss.set k p).map spD := (List.map_set).symm
theorem ne_pp : gNe (.str "plus") (.str "power") = some (.bl true) := vNeS (by decide +kernel) (by decide +kernel)
theorem ne_mp : gNe (.str "minus") (.str "power") = some (.bl true) := vNeS (by decide +kernel) (by decide +kernel)
theorem here_ok {n : Nd} (h : n.sm) {ss : List (Int × Int)} {M : Int} (hB : n.B ss.length M) (hs : ∀ p ∈ ss, SpB p) {B : List D} {g c : Int} : ∃ z, f__law_here [n.d, .lst false (ss.map spD), .lst false B, .int g, .int c] = .ok (spD z) := by
  have hp : gPow (.int 10) (.int 40) = some (.int (10 ^ 40)) := rfl
  obtain ⟨c1, hc1⟩ : ∃ x, c % 10 ^ 40 = x := ⟨_, rfl⟩
  have b1 : 0 ≤ c1 := by omega
  have b2 : c1 < 10 ^ 40 := by omega
  have hm : gMod (.int c) (.int (10 ^ 40)) = some (.int c1) := by rw [vMod (by decide), hc1]
  have wd : L2.CMulW c1 48271 := mulW 140 20 (by omega) (by decide) (by decide)
  clear hc1
  obtain ⟨p0, e0, _⟩ := span_ok (c1 / 4)
  have fS := fz_map (f := spD) (fun _ => rfl) ss
  have go : ∀ (w : PySem.Str) (i j : Int), n.d = .tup [.str w, .int i, .int j] → gEq (.str w) (.str "number") = some (.bl false) → gEq (.str w) (.str "unknown") = some (.bl false) → gNe (.str w) (.str "power") = some (.bl true) → 0 ≤ i → i < ss.length → 0 ≤ j → j < ss.length → (∀ ss' : List (Int × Int), ss'.length = ss.length → ∃ a b : Int, f__law_forth [n.d, .lst false (ss'.map spD), .lst false B, .int g] = .ok (.tup [.int a, .int b])) → ∃ z, f__law_here [n.d, .lst false (ss.map spD), .lst false B, .int g, .int c] = .ok (spD z) := by
    intro w i j hd q1 q2 q3 i0 i1 j0 j1 hf
    rw [hd] at hf ⊢
    cases h4 : (c1 % 4 == 0) with
    | true =>
      refine ⟨p0, ?_⟩
      generalize ss.map spD = S at *
      simp (disch := decide) only [f__law_here, m__law_here, u__law_here_1, x_seq, x_seq1, x_seq2, x_seq3, x_seq4, x_seq5, x_seq6, x_nil, x_if, x_if1, x_if2, x_if3, x_ret, x_ret1, x_ret2, x_ret3, x_retN, x_asg, x_asg1, x_asg2, x_asg3, x_asg4, x_asg5, x_gN, x_drop, x_drop1, x_drop2, x_bk, x_ct, x_raise, x_tZ, x_tZ1, x_tZ2, x_tE, x_tE1, x_tE2, x_tE3, x_tAnd, x_tAnd1, x_tAnd2, x_tAnd3, x_tOr, x_tOr1, x_tOr2, x_tOr3, x_tNot, x_tNot1, x_tNot2, x_tNot3, x_tTrue, x_z2, x_z21, x_z1, x_z11, x_zC, x_zC1, x_za, x_za1, x_za0, x_zV, x_zK, x_ch, x_ch1, x_ch2, x_eZ, x_eZ1, x_eZ2, x_eV, x_eV1, x_eM, x_eM1, x_b1, x_b2, x_b3, x_s1, x_s2, x_s3, x_oO, x_oO2, x_e2, x_e1, x_eC, x_aN, x_aC, x_tup, x_lst, x_call, x_oC1, x_oC2, x_call0, x_call01, x_eAnd, x_eAnd1, x_eOr, x_eOr1, x_eNot, x_eNot1, x_eIf, x_eIf1, x_fz_int, x_fr_int, x_fz_bl, x_fr_bl, x_fz_str, x_fr_str, x_fz_ty, x_fr_ty, x_fz_tup, x_fr_tup, x_fz_cst, x_fr_cst, x_fz_lst_false, x_fr_lst_false, x_fz_non, x_fr_non, x_fz_lt, x_fr_lt, x_fL0, x_fL1, x_cF, x_cR1, x_cR2, x_cR3, x_iL, x_iL1, x_iT, x_iT1, x_iS, x_iS1, x_iR1, x_iR11, x_iR2, x_iR21, x_iE, x_iE1, x_iV, x_iV1, x_iZ, x_iZ1, x_for, x_fo0, x_fo1, x_fo2, x_fo3, x_fo4, x_fo5, x_fo6, x_fo7, x_gT, x_gC, x_gC0, x_try, x_try1, x_try2, x_try3, x_try4, x_try5, x_nx1, x_nx2, x_try6, x_try7, x_nx3, x_nx4, x_app, x_app1, x_app2, x_lc, x_lcE, x_lc0, x_lc1, x_lcG, x_w0, x_w1, vMinL4, vMaxL4, vAll3, vAny3, vAll4, vAny4, x_wh1, x_wh2, x_wh0, x_abs, vI_ii, vI_ib, vI_it, vI_il, vI_is, vI_bb, vI_bi, vI_tt, vI_tl, vI_ti, vI_ll, vI_lt, vI_ss, vEqB, vNeB, x_ta, x_ta1, x_ta2, x_ta3, x_ta4, x_ta5, x_is, nc_0, nc_1, nc_2, nc_3, nc_4, nc_5, nc_6, nc_7, nc_8, nc_9, nc_10, nc_11, vMax2, vMin2, vIsN0, vIsN1, vNotN0, vNotN1, vIsN2, vNotN2, x_lo, x_lo1, x_lo2, vAll2, vAny2, x_sl, x_sl1, x_sl2, x_pn, x_ps, x_ps1, x_cutL, x_cutC, vEqS, vNeS, x_fz_obj, x_fr_obj, x_make, x_meth, x_meth2, x_meth3, x_isO, x_isO1, x_cat, x_cat1, x_methZ, x_methZ2, x_methZ3, x_callZ, x_callZ1, x_lend1, x_lend2, x_cl_int, x_cl_bl, x_cl_str, x_cl_non, x_cl_tup, x_cl0, x_cl1, x_cl_lst, x_setIx, x_setIx1, x_setIx2, Option.map_some, List.getD_cons_zero, List.getD_cons_succ, List.set_cons_zero, List.set_cons_succ, List.map_cons, List.map_nil, List.replicate_zero, List.replicate_succ, List.length_cons, List.length_nil, List.cons_append, List.nil_append, Option.bind_some, if_true, if_false, Bool.false_eq_true, Nat.reduceSub, Nat.reduceAdd, Nat.reduceLeDiff, Nat.reduceLT, vAdd, vSub, vLt, vLe, vGt, vGe, vNeg, vEq, vNe, vEq2, vNe2, vMod, vDiv, vMul, vPow, Int.reduceToNat, vIx0, vIx1, vLenT, vLenC, vLenL, reduceIte, decide_true, decide_false, Bool.not_true, Bool.not_false, beq_self_eq_true, Bool.and_true, Bool.true_and, Bool.and_self, Bool.and_false, Bool.false_and, hp, hm, h4, e0, fr_sp1, fz_sp1]
    | false =>
      have mi := pt_mem i0 i1
      have mj := pt_mem j0 j1
      have ii := ix_pt i0 i1 false
      have ij := ix_pt j0 j1 false
      obtain ⟨⟨a, b⟩, hab⟩ : ∃ p, pt ss i = p := ⟨_, rfl⟩
      obtain ⟨⟨a', b'⟩, hab'⟩ : ∃ p, pt ss j = p := ⟨_, rfl⟩
      rw [hab] at mi ii
      rw [hab'] at mj ij
      have s1 := hs _ mi
      have s2 := hs _ mj
      have l1 := s1.le; have l2 := s1.lo; have l3 := s1.hi; have l4 := s2.le; have l5 := s2.lo; have l6 := s2.hi
      simp only at l1 l2 l3 l4 l5 l6
      have w1 : L2.CMulW (b - a) (c1 / 4 % 9) := mulW 60 10 (by omega) (by omega) (by decide)
      have w2 : L2.CMulW (b' - a') (c1 / 36 % 9) := mulW 60 10 (by omega) (by omega) (by decide)
      obtain ⟨u, hu⟩ : ∃ u, a + (b - a) * (c1 / 4 % 9) / 8 = u := ⟨_, rfl⟩
      obtain ⟨v, hv⟩ : ∃ v, a' + (b' - a') * (c1 / 36 % 9) / 8 = v := ⟨_, rfl⟩
      have st1 : setD (ss.map spD) i (.tup [.int u, .int u]) = some ((ss.set i.toNat (u, u)).map spD) := by
        rw [vSetD (j := i.toNat) (by omega) (by rw [List.length_map]; omega)]
        exact congrArg some (set_map ss i.toNat (u, u))
      have st2 : setD ((ss.set i.toNat (u, u)).map spD) j (.tup [.int v, .int v]) = some (((ss.set i.toNat (u, u)).set j.toNat (v, v)).map spD) := by
        rw [vSetD (j := j.toNat) (by omega) (by rw [List.length_map, List.length_set]; omega)]
        exact congrArg some (set_map _ j.toNat (v, v))
      have fin : ∀ (ss' : List (Int × Int)) (x9 x10 : Option D), ss'.length = ss.length → ∃ z τ', u__law_here_7 [some (.tup [.str w, .int i, .int j]), some (.lst false (ss.map spD)), some (.lst false B), some (.int g), some (.int c), some (.int c1), some (.lst true (ss'.map spD)), some (.tup [.int a, .int b]), some (.int u), x9, x10, none] = .rt (spD z) τ' := fun ss' x9 x10 hl => by
        obtain ⟨x, y, e⟩ := hf ss' hl
        have fS' := fz_map (f := spD) (fun _ => rfl) ss'
        obtain ⟨c2, hc2⟩ : ∃ x, c1 * 48271 % 2147483647 = x := ⟨_, rfl⟩
        refine ⟨(x - c2 % 12 / 3, y + c2 / 12 % 12 / 3), [some (.tup [.str w, .int i, .int j]), some (.lst false (ss.map spD)), some (.lst false B), some (.int g), some (.int c), some (.int c2), some (.lst false (ss'.map spD)), some (.tup [.int a, .int b]), some (.int u), x9, x10, some (.tup [.int x, .int y])], ?_⟩
        show _ = SR.rt (.tup [.int (x - c2 % 12 / 3), .int (y + c2 / 12 % 12 / 3)]) _
        generalize ss.map spD = S at *
        generalize ss'.map spD = S' at *
        simp (disch := decide) only [u__law_here_7, u__law_here_8, u__law_here_9, x_seq, x_seq1, x_seq2, x_seq3, x_seq4, x_seq5, x_seq6, x_nil, x_if, x_if1, x_if2, x_if3, x_ret, x_ret1, x_ret2, x_ret3, x_retN, x_asg, x_asg1, x_asg2, x_asg3, x_asg4, x_asg5, x_gN, x_drop, x_drop1, x_drop2, x_bk, x_ct, x_raise, x_tZ, x_tZ1, x_tZ2, x_tE, x_tE1, x_tE2, x_tE3, x_tAnd, x_tAnd1, x_tAnd2, x_tAnd3, x_tOr, x_tOr1, x_tOr2, x_tOr3, x_tNot, x_tNot1, x_tNot2, x_tNot3, x_tTrue, x_z2, x_z21, x_z1, x_z11, x_zC, x_zC1, x_za, x_za1, x_za0, x_zV, x_zK, x_ch, x_ch1, x_ch2, x_eZ, x_eZ1, x_eZ2, x_eV, x_eV1, x_eM, x_eM1, x_b1, x_b2, x_b3, x_s1, x_s2, x_s3, x_oO, x_oO2, x_e2, x_e1, x_eC, x_aN, x_aC, x_tup, x_lst, x_call, x_oC1, x_oC2, x_call0, x_call01, x_eAnd, x_eAnd1, x_eOr, x_eOr1, x_eNot, x_eNot1, x_eIf, x_eIf1, x_fz_int, x_fr_int, x_fz_bl, x_fr_bl, x_fz_str, x_fr_str, x_fz_ty, x_fr_ty, x_fz_tup, x_fr_tup, x_fz_cst, x_fr_cst, x_fz_lst_false, x_fr_lst_false, x_fz_non, x_fr_non, x_fz_lt, x_fr_lt, x_fL0, x_fL1, x_cF, x_cR1, x_cR2, x_cR3, x_iL, x_iL1, x_iT, x_iT1, x_iS, x_iS1, x_iR1, x_iR11, x_iR2, x_iR21, x_iE, x_iE1, x_iV, x_iV1, x_iZ, x_iZ1, x_for, x_fo0, x_fo1, x_fo2, x_fo3, x_fo4, x_fo5, x_fo6, x_fo7, x_gT, x_gC, x_gC0, x_try, x_try1, x_try2, x_try3, x_try4, x_try5, x_nx1, x_nx2, x_try6, x_try7, x_nx3, x_nx4, x_app, x_app1, x_app2, x_lc, x_lcE, x_lc0, x_lc1, x_lcG, x_w0, x_w1, vMinL4, vMaxL4, vAll3, vAny3, vAll4, vAny4, x_wh1, x_wh2, x_wh0, x_abs, vI_ii, vI_ib, vI_it, vI_il, vI_is, vI_bb, vI_bi, vI_tt, vI_tl, vI_ti, vI_ll, vI_lt, vI_ss, vEqB, vNeB, x_ta, x_ta1, x_ta2, x_ta3, x_ta4, x_ta5, x_is, nc_0, nc_1, nc_2, nc_3, nc_4, nc_5, nc_6, nc_7, nc_8, nc_9, nc_10, nc_11, vMax2, vMin2, vIsN0, vIsN1, vNotN0, vNotN1, vIsN2, vNotN2, x_lo, x_lo1, x_lo2, vAll2, vAny2, x_sl, x_sl1, x_sl2, x_pn, x_ps, x_ps1, x_cutL, x_cutC, vEqS, vNeS, x_fz_obj, x_fr_obj, x_make, x_meth, x_meth2, x_meth3, x_isO, x_isO1, x_cat, x_cat1, x_methZ, x_methZ2, x_methZ3, x_callZ, x_callZ1, x_lend1, x_lend2, x_cl_int, x_cl_bl, x_cl_str, x_cl_non, x_cl_tup, x_cl0, x_cl1, x_cl_lst, x_setIx, x_setIx1, x_setIx2, Option.map_some, List.getD_cons_zero, List.getD_cons_succ, List.set_cons_zero, List.set_cons_succ, List.map_cons, List.map_nil, List.replicate_zero, List.replicate_succ, List.length_cons, List.length_nil, List.cons_append, List.nil_append, Option.bind_some, if_true, if_false, Bool.false_eq_true, Nat.reduceSub, Nat.reduceAdd, Nat.reduceLeDiff, Nat.reduceLT, vAdd, vSub, vLt, vLe, vGt, vGe, vNeg, vEq, vNe, vEq2, vNe2, vMod, vDiv, vMul, vPow, Int.reduceToNat, vIx0, vIx1, vLenT, vLenC, vLenL, reduceIte, decide_true, decide_false, Bool.not_true, Bool.not_false, beq_self_eq_true, Bool.and_true, Bool.true_and, Bool.and_self, Bool.and_false, Bool.false_and, fS', e, vMul wd, hc2]
      have e5 : ∃ ss' x9 x10, ss'.length = ss.length ∧ u__law_here_6 [some (.tup [.str w, .int i, .int j]), some (.lst false (ss.map spD)), some (.lst false B), some (.int g), some (.int c), some (.int c1), some (.lst true ((ss.set i.toNat (u, u)).map spD)), some (.tup [.int a, .int b]), some (.int u), none, none, none] = u__law_here_7 [some (.tup [.str w, .int i, .int j]), some (.lst false (ss.map spD)), some (.lst false B), some (.int g), some (.int c), some (.int c1), some (.lst true (List.map spD ss')), some (.tup [.int a, .int b]), some (.int u), x9, x10, none] := by
        cases hij : (j == i) with
        | true =>
          refine ⟨ss.set i.toNat (u, u), none, none, by rw [List.length_set], x_seq_ok ?_ rfl⟩
          generalize (ss.set i.toNat (u, u)).map spD = S1 at *
          generalize ss.map spD = S at *
          simp (disch := decide) only [vIxT2, x_seq, x_seq1, x_seq2, x_seq3, x_seq4, x_seq5, x_seq6, x_nil, x_if, x_if1, x_if2, x_if3, x_ret, x_ret1, x_ret2, x_ret3, x_retN, x_asg, x_asg1, x_asg2, x_asg3, x_asg4, x_asg5, x_gN, x_drop, x_drop1, x_drop2, x_bk, x_ct, x_raise, x_tZ, x_tZ1, x_tZ2, x_tE, x_tE1, x_tE2, x_tE3, x_tAnd, x_tAnd1, x_tAnd2, x_tAnd3, x_tOr, x_tOr1, x_tOr2, x_tOr3, x_tNot, x_tNot1, x_tNot2, x_tNot3, x_tTrue, x_z2, x_z21, x_z1, x_z11, x_zC, x_zC1, x_za, x_za1, x_za0, x_zV, x_zK, x_ch, x_ch1, x_ch2, x_eZ, x_eZ1, x_eZ2, x_eV, x_eV1, x_eM, x_eM1, x_b1, x_b2, x_b3, x_s1, x_s2, x_s3, x_oO, x_oO2, x_e2, x_e1, x_eC, x_aN, x_aC, x_tup, x_lst, x_call, x_oC1, x_oC2, x_call0, x_call01, x_eAnd, x_eAnd1, x_eOr, x_eOr1, x_eNot, x_eNot1, x_eIf, x_eIf1, x_fz_int, x_fr_int, x_fz_bl, x_fr_bl, x_fz_str, x_fr_str, x_fz_ty, x_fr_ty, x_fz_tup, x_fr_tup, x_fz_cst, x_fr_cst, x_fz_lst_false, x_fr_lst_false, x_fz_non, x_fr_non, x_fz_lt, x_fr_lt, x_fL0, x_fL1, x_cF, x_cR1, x_cR2, x_cR3, x_iL, x_iL1, x_iT, x_iT1, x_iS, x_iS1, x_iR1, x_iR11, x_iR2, x_iR21, x_iE, x_iE1, x_iV, x_iV1, x_iZ, x_iZ1, x_for, x_fo0, x_fo1, x_fo2, x_fo3, x_fo4, x_fo5, x_fo6, x_fo7, x_gT, x_gC, x_gC0, x_try, x_try1, x_try2, x_try3, x_try4, x_try5, x_nx1, x_nx2, x_try6, x_try7, x_nx3, x_nx4, x_app, x_app1, x_app2, x_lc, x_lcE, x_lc0, x_lc1, x_lcG, x_w0, x_w1, vMinL4, vMaxL4, vAll3, vAny3, vAll4, vAny4, x_wh1, x_wh2, x_wh0, x_abs, vI_ii, vI_ib, vI_it, vI_il, vI_is, vI_bb, vI_bi, vI_tt, vI_tl, vI_ti, vI_ll, vI_lt, vI_ss, vEqB, vNeB, x_ta, x_ta1, x_ta2, x_ta3, x_ta4, x_ta5, x_is, nc_0, nc_1, nc_2, nc_3, nc_4, nc_5, nc_6, nc_7, nc_8, nc_9, nc_10, nc_11, vMax2, vMin2, vIsN0, vIsN1, vNotN0, vNotN1, vIsN2, vNotN2, x_lo, x_lo1, x_lo2, vAll2, vAny2, x_sl, x_sl1, x_sl2, x_pn, x_ps, x_ps1, x_cutL, x_cutC, vEqS, vNeS, x_fz_obj, x_fr_obj, x_make, x_meth, x_meth2, x_meth3, x_isO, x_isO1, x_cat, x_cat1, x_methZ, x_methZ2, x_methZ3, x_callZ, x_callZ1, x_lend1, x_lend2, x_cl_int, x_cl_bl, x_cl_str, x_cl_non, x_cl_tup, x_cl0, x_cl1, x_cl_lst, x_setIx, x_setIx1, x_setIx2, Option.map_some, List.getD_cons_zero, List.getD_cons_succ, List.set_cons_zero, List.set_cons_succ, List.map_cons, List.map_nil, List.replicate_zero, List.replicate_succ, List.length_cons, List.length_nil, List.cons_append, List.nil_append, Option.bind_some, if_true, if_false, Bool.false_eq_true, Nat.reduceSub, Nat.reduceAdd, Nat.reduceLeDiff, Nat.reduceLT, vAdd, vSub, vLt, vLe, vGt, vGe, vNeg, vEq, vNe, vEq2, vNe2, vMod, vDiv, vMul, vPow, Int.reduceToNat, vIx0, vIx1, vLenT, vLenC, vLenL, reduceIte, decide_true, decide_false, Bool.not_true, Bool.not_false, beq_self_eq_true, Bool.and_true, Bool.true_and, Bool.and_self, Bool.and_false, Bool.false_and, q3, hij]
        | false =>
          refine ⟨(ss.set i.toNat (u, u)).set j.toNat (v, v), some (.tup [.int a', .int b']), some (.int v), by rw [List.length_set, List.length_set], x_seq_ok ?_ rfl⟩
          have ij' : gIx (.lst false (ss.map spD)) (.int j) = some (.tup [.int a', .int b']) := ij
          generalize ((ss.set i.toNat (u, u)).set j.toNat (v, v)).map spD = S2 at *
          generalize (ss.set i.toNat (u, u)).map spD = S1 at *
          generalize ss.map spD = S at *
          simp (disch := decide) only [vIxT2, x_seq, x_seq1, x_seq2, x_seq3, x_seq4, x_seq5, x_seq6, x_nil, x_if, x_if1, x_if2, x_if3, x_ret, x_ret1, x_ret2, x_ret3, x_retN, x_asg, x_asg1, x_asg2, x_asg3, x_asg4, x_asg5, x_gN, x_drop, x_drop1, x_drop2, x_bk, x_ct, x_raise, x_tZ, x_tZ1, x_tZ2, x_tE, x_tE1, x_tE2, x_tE3, x_tAnd, x_tAnd1, x_tAnd2, x_tAnd3, x_tOr, x_tOr1, x_tOr2, x_tOr3, x_tNot, x_tNot1, x_tNot2, x_tNot3, x_tTrue, x_z2, x_z21, x_z1, x_z11, x_zC, x_zC1, x_za, x_za1, x_za0, x_zV, x_zK, x_ch, x_ch1, x_ch2, x_eZ, x_eZ1, x_eZ2, x_eV, x_eV1, x_eM, x_eM1, x_b1, x_b2, x_b3, x_s1, x_s2, x_s3, x_oO, x_oO2, x_e2, x_e1, x_eC, x_aN, x_aC, x_tup, x_lst, x_call, x_oC1, x_oC2, x_call0, x_call01, x_eAnd, x_eAnd1, x_eOr, x_eOr1, x_eNot, x_eNot1, x_eIf, x_eIf1, x_fz_int, x_fr_int, x_fz_bl, x_fr_bl, x_fz_str, x_fr_str, x_fz_ty, x_fr_ty, x_fz_tup, x_fr_tup, x_fz_cst, x_fr_cst, x_fz_lst_false, x_fr_lst_false, x_fz_non, x_fr_non, x_fz_lt, x_fr_lt, x_fL0, x_fL1, x_cF, x_cR1, x_cR2, x_cR3, x_iL, x_iL1, x_iT, x_iT1, x_iS, x_iS1, x_iR1, x_iR11, x_iR2, x_iR21, x_iE, x_iE1, x_iV, x_iV1, x_iZ, x_iZ1, x_for, x_fo0, x_fo1, x_fo2, x_fo3, x_fo4, x_fo5, x_fo6, x_fo7, x_gT, x_gC, x_gC0, x_try, x_try1, x_try2, x_try3, x_try4, x_try5, x_nx1, x_nx2, x_try6, x_try7, x_nx3, x_nx4, x_app, x_app1, x_app2, x_lc, x_lcE, x_lc0, x_lc1, x_lcG, x_w0, x_w1, vMinL4, vMaxL4, vAll3, vAny3, vAll4, vAny4, x_wh1, x_wh2, x_wh0, x_abs, vI_ii, vI_ib, vI_it, vI_il, vI_is, vI_bb, vI_bi, vI_tt, vI_tl, vI_ti, vI_ll, vI_lt, vI_ss, vEqB, vNeB, x_ta, x_ta1, x_ta2, x_ta3, x_ta4, x_ta5, x_is, nc_0, nc_1, nc_2, nc_3, nc_4, nc_5, nc_6, nc_7, nc_8, nc_9, nc_10, nc_11, vMax2, vMin2, vIsN0, vIsN1, vNotN0, vNotN1, vIsN2, vNotN2, x_lo, x_lo1, x_lo2, vAll2, vAny2, x_sl, x_sl1, x_sl2, x_pn, x_ps, x_ps1, x_cutL, x_cutC, vEqS, vNeS, x_fz_obj, x_fr_obj, x_make, x_meth, x_meth2, x_meth3, x_isO, x_isO1, x_cat, x_cat1, x_methZ, x_methZ2, x_methZ3, x_callZ, x_callZ1, x_lend1, x_lend2, x_cl_int, x_cl_bl, x_cl_str, x_cl_non, x_cl_tup, x_cl0, x_cl1, x_cl_lst, x_setIx, x_setIx1, x_setIx2, Option.map_some, List.getD_cons_zero, List.getD_cons_succ, List.set_cons_zero, List.set_cons_succ, List.map_cons, List.map_nil, List.replicate_zero, List.replicate_succ, List.length_cons, List.length_nil, List.cons_append, List.nil_append, Option.bind_some, if_true, if_false, Bool.false_eq_true, Nat.reduceSub, Nat.reduceAdd, Nat.reduceLeDiff, Nat.reduceLT, vAdd, vSub, vLt, vLe, vGt, vGe, vNeg, vEq, vNe, vEq2, vNe2, vMod, vDiv, vMul, vPow, Int.reduceToNat, vIx0, vIx1, vLenT, vLenC, vLenL, reduceIte, decide_true, decide_false, Bool.not_true, Bool.not_false, beq_self_eq_true, Bool.and_true, Bool.true_and, Bool.and_self, Bool.and_false, Bool.false_and, q3, hij, ij', vMul w2, hv, st2]
      obtain ⟨ss', x9, x10, hl, e5⟩ := e5
      obtain ⟨z, τ', e7⟩ := fin ss' x9 x10 hl
      refine ⟨z, ?_⟩
      have ii' : gIx (.lst false (ss.map spD)) (.int i) = some (.tup [.int a, .int b]) := ii
      have e0' : m__law_here [some (.tup [.str w, .int i, .int j]), some (.lst false (ss.map spD)), some (.lst false B), some (.int g), some (.int c), none, none, none, none, none, none, none] = .rt (spD z) τ' := by
        refine Eq.trans ?_ (e5.trans e7)
        clear e5 e7 fin hf mi mj
        generalize (ss.set i.toNat (u, u)).map spD = S1 at *
        generalize ss.map spD = S at *
        refine x_seq_ok (τ1 := [some (.tup [.str w, .int i, .int j]), some (.lst false S), some (.lst false B), some (.int g), some (.int c), some (.int c1), none, none, none, none, none, none]) ?_ (x_seq_ok (τ1 := [some (.tup [.str w, .int i, .int j]), some (.lst false S), some (.lst false B), some (.int g), some (.int c), some (.int c1), none, none, none, none, none, none]) ?_ (x_seq_ok (τ1 := [some (.tup [.str w, .int i, .int j]), some (.lst false S), some (.lst false B), some (.int g), some (.int c), some (.int c1), some (.lst true S), none, none, none, none, none]) ?_ (x_seq_ok (τ1 := [some (.tup [.str w, .int i, .int j]), some (.lst false S), some (.lst false B), some (.int g), some (.int c), some (.int c1), some (.lst true S), some (.tup [.int a, .int b]), none, none, none, none]) ?_ (x_seq_ok (τ1 := [some (.tup [.str w, .int i, .int j]), some (.lst false S), some (.lst false B), some (.int g), some (.int c), some (.int c1), some (.lst true S), some (.tup [.int a, .int b]), some (.int u), none, none, none]) ?_ (x_seq_ok (τ1 := [some (.tup [.str w, .int i, .int j]), some (.lst false S), some (.lst false B), some (.int g), some (.int c), some (.int c1), some (.lst true S1), some (.tup [.int a, .int b]), some (.int u), none, none, none]) ?_ rfl)))))
        · simp (disch := decide) only [x_seq, x_seq1, x_seq2, x_seq3, x_seq4, x_seq5, x_seq6, x_nil, x_if, x_if1, x_if2, x_if3, x_ret, x_ret1, x_ret2, x_ret3, x_retN, x_asg, x_asg1, x_asg2, x_asg3, x_asg4, x_asg5, x_gN, x_drop, x_drop1, x_drop2, x_bk, x_ct, x_raise, x_tZ, x_tZ1, x_tZ2, x_tE, x_tE1, x_tE2, x_tE3, x_tAnd, x_tAnd1, x_tAnd2, x_tAnd3, x_tOr, x_tOr1, x_tOr2, x_tOr3, x_tNot, x_tNot1, x_tNot2, x_tNot3, x_tTrue, x_z2, x_z21, x_z1, x_z11, x_zC, x_zC1, x_za, x_za1, x_za0, x_zV, x_zK, x_ch, x_ch1, x_ch2, x_eZ, x_eZ1, x_eZ2, x_eV, x_eV1, x_eM, x_eM1, x_b1, x_b2, x_b3, x_s1, x_s2, x_s3, x_oO, x_oO2, x_e2, x_e1, x_eC, x_aN, x_aC, x_tup, x_lst, x_call, x_oC1, x_oC2, x_call0, x_call01, x_eAnd, x_eAnd1, x_eOr, x_eOr1, x_eNot, x_eNot1, x_eIf, x_eIf1, x_fz_int, x_fr_int, x_fz_bl, x_fr_bl, x_fz_str, x_fr_str, x_fz_ty, x_fr_ty, x_fz_tup, x_fr_tup, x_fz_cst, x_fr_cst, x_fz_lst_false, x_fr_lst_false, x_fz_non, x_fr_non, x_fz_lt, x_fr_lt, x_fL0, x_fL1, x_cF, x_cR1, x_cR2, x_cR3, x_iL, x_iL1, x_iT, x_iT1, x_iS, x_iS1, x_iR1, x_iR11, x_iR2, x_iR21, x_iE, x_iE1, x_iV, x_iV1, x_iZ, x_iZ1, x_for, x_fo0, x_fo1, x_fo2, x_fo3, x_fo4, x_fo5, x_fo6, x_fo7, x_gT, x_gC, x_gC0, x_try, x_try1, x_try2, x_try3, x_try4, x_try5, x_nx1, x_nx2, x_try6, x_try7, x_nx3, x_nx4, x_app, x_app1, x_app2, x_lc, x_lcE, x_lc0, x_lc1, x_lcG, x_w0, x_w1, vMinL4, vMaxL4, vAll3, vAny3, vAll4, vAny4, x_wh1, x_wh2, x_wh0, x_abs, vI_ii, vI_ib, vI_it, vI_il, vI_is, vI_bb, vI_bi, vI_tt, vI_tl, vI_ti, vI_ll, vI_lt, vI_ss, vEqB, vNeB, x_ta, x_ta1, x_ta2, x_ta3, x_ta4, x_ta5, x_is, nc_0, nc_1, nc_2, nc_3, nc_4, nc_5, nc_6, nc_7, nc_8, nc_9, nc_10, nc_11, vMax2, vMin2, vIsN0, vIsN1, vNotN0, vNotN1, vIsN2, vNotN2, x_lo, x_lo1, x_lo2, vAll2, vAny2, x_sl, x_sl1, x_sl2, x_pn, x_ps, x_ps1, x_cutL, x_cutC, vEqS, vNeS, x_fz_obj, x_fr_obj, x_make, x_meth, x_meth2, x_meth3, x_isO, x_isO1, x_cat, x_cat1, x_methZ, x_methZ2, x_methZ3, x_callZ, x_callZ1, x_lend1, x_lend2, x_cl_int, x_cl_bl, x_cl_str, x_cl_non, x_cl_tup, x_cl0, x_cl1, x_cl_lst, x_setIx, x_setIx1, x_setIx2, Option.map_some, List.getD_cons_zero, List.getD_cons_succ, List.set_cons_zero, List.set_cons_succ, List.map_cons, List.map_nil, List.replicate_zero, List.replicate_succ, List.length_cons, List.length_nil, List.cons_append, List.nil_append, Option.bind_some, if_true, if_false, Bool.false_eq_true, Nat.reduceSub, Nat.reduceAdd, Nat.reduceLeDiff, Nat.reduceLT, vAdd, vSub, vLt, vLe, vGt, vGe, vNeg, vEq, vNe, vEq2, vNe2, vMod, vDiv, vMul, vPow, Int.reduceToNat, vIx0, vIx1, vLenT, vLenC, vLenL, reduceIte, decide_true, decide_false, Bool.not_true, Bool.not_false, beq_self_eq_true, Bool.and_true, Bool.true_and, Bool.and_self, Bool.and_false, Bool.false_and, hp, hm]
        · simp (disch := decide) only [x_seq, x_seq1, x_seq2, x_seq3, x_seq4, x_seq5, x_seq6, x_nil, x_if, x_if1, x_if2, x_if3, x_ret, x_ret1, x_ret2, x_ret3, x_retN, x_asg, x_asg1, x_asg2, x_asg3, x_asg4, x_asg5, x_gN, x_drop, x_drop1, x_drop2, x_bk, x_ct, x_raise, x_tZ, x_tZ1, x_tZ2, x_tE, x_tE1, x_tE2, x_tE3, x_tAnd, x_tAnd1, x_tAnd2, x_tAnd3, x_tOr, x_tOr1, x_tOr2, x_tOr3, x_tNot, x_tNot1, x_tNot2, x_tNot3, x_tTrue, x_z2, x_z21, x_z1, x_z11, x_zC, x_zC1, x_za, x_za1, x_za0, x_zV, x_zK, x_ch, x_ch1, x_ch2, x_eZ, x_eZ1, x_eZ2, x_eV, x_eV1, x_eM, x_eM1, x_b1, x_b2, x_b3, x_s1, x_s2, x_s3, x_oO, x_oO2, x_e2, x_e1, x_eC, x_aN, x_aC, x_tup, x_lst, x_call, x_oC1, x_oC2, x_call0, x_call01, x_eAnd, x_eAnd1, x_eOr, x_eOr1, x_eNot, x_eNot1, x_eIf, x_eIf1, x_fz_int, x_fr_int, x_fz_bl, x_fr_bl, x_fz_str, x_fr_str, x_fz_ty, x_fr_ty, x_fz_tup, x_fr_tup, x_fz_cst, x_fr_cst, x_fz_lst_false, x_fr_lst_false, x_fz_non, x_fr_non, x_fz_lt, x_fr_lt, x_fL0, x_fL1, x_cF, x_cR1, x_cR2, x_cR3, x_iL, x_iL1, x_iT, x_iT1, x_iS, x_iS1, x_iR1, x_iR11, x_iR2, x_iR21, x_iE, x_iE1, x_iV, x_iV1, x_iZ, x_iZ1, x_for, x_fo0, x_fo1, x_fo2, x_fo3, x_fo4, x_fo5, x_fo6, x_fo7, x_gT, x_gC, x_gC0, x_try, x_try1, x_try2, x_try3, x_try4, x_try5, x_nx1, x_nx2, x_try6, x_try7, x_nx3, x_nx4, x_app, x_app1, x_app2, x_lc, x_lcE, x_lc0, x_lc1, x_lcG, x_w0, x_w1, vMinL4, vMaxL4, vAll3, vAny3, vAll4, vAny4, x_wh1, x_wh2, x_wh0, x_abs, vI_ii, vI_ib, vI_it, vI_il, vI_is, vI_bb, vI_bi, vI_tt, vI_tl, vI_ti, vI_ll, vI_lt, vI_ss, vEqB, vNeB, x_ta, x_ta1, x_ta2, x_ta3, x_ta4, x_ta5, x_is, nc_0, nc_1, nc_2, nc_3, nc_4, nc_5, nc_6, nc_7, nc_8, nc_9, nc_10, nc_11, vMax2, vMin2, vIsN0, vIsN1, vNotN0, vNotN1, vIsN2, vNotN2, x_lo, x_lo1, x_lo2, vAll2, vAny2, x_sl, x_sl1, x_sl2, x_pn, x_ps, x_ps1, x_cutL, x_cutC, vEqS, vNeS, x_fz_obj, x_fr_obj, x_make, x_meth, x_meth2, x_meth3, x_isO, x_isO1, x_cat, x_cat1, x_methZ, x_methZ2, x_methZ3, x_callZ, x_callZ1, x_lend1, x_lend2, x_cl_int, x_cl_bl, x_cl_str, x_cl_non, x_cl_tup, x_cl0, x_cl1, x_cl_lst, x_setIx, x_setIx1, x_setIx2, Option.map_some, List.getD_cons_zero, List.getD_cons_succ, List.set_cons_zero, List.set_cons_succ, List.map_cons, List.map_nil, List.replicate_zero, List.replicate_succ, List.length_cons, List.length_nil, List.cons_append, List.nil_append, Option.bind_some, if_true, if_false, Bool.false_eq_true, Nat.reduceSub, Nat.reduceAdd, Nat.reduceLeDiff, Nat.reduceLT, vAdd, vSub, vLt, vLe, vGt, vGe, vNeg, vEq, vNe, vEq2, vNe2, vMod, vDiv, vMul, vPow, Int.reduceToNat, vIx0, vIx1, vLenT, vLenC, vLenL, reduceIte, decide_true, decide_false, Bool.not_true, Bool.not_false, beq_self_eq_true, Bool.and_true, Bool.true_and, Bool.and_self, Bool.and_false, Bool.false_and, h4, q1, q2]
        · simp (disch := decide) only [x_seq, x_seq1, x_seq2, x_seq3, x_seq4, x_seq5, x_seq6, x_nil, x_if, x_if1, x_if2, x_if3, x_ret, x_ret1, x_ret2, x_ret3, x_retN, x_asg, x_asg1, x_asg2, x_asg3, x_asg4, x_asg5, x_gN, x_drop, x_drop1, x_drop2, x_bk, x_ct, x_raise, x_tZ, x_tZ1, x_tZ2, x_tE, x_tE1, x_tE2, x_tE3, x_tAnd, x_tAnd1, x_tAnd2, x_tAnd3, x_tOr, x_tOr1, x_tOr2, x_tOr3, x_tNot, x_tNot1, x_tNot2, x_tNot3, x_tTrue, x_z2, x_z21, x_z1, x_z11, x_zC, x_zC1, x_za, x_za1, x_za0, x_zV, x_zK, x_ch, x_ch1, x_ch2, x_eZ, x_eZ1, x_eZ2, x_eV, x_eV1, x_eM, x_eM1, x_b1, x_b2, x_b3, x_s1, x_s2, x_s3, x_oO, x_oO2, x_e2, x_e1, x_eC, x_aN, x_aC, x_tup, x_lst, x_call, x_oC1, x_oC2, x_call0, x_call01, x_eAnd, x_eAnd1, x_eOr, x_eOr1, x_eNot, x_eNot1, x_eIf, x_eIf1, x_fz_int, x_fr_int, x_fz_bl, x_fr_bl, x_fz_str, x_fr_str, x_fz_ty, x_fr_ty, x_fz_tup, x_fr_tup, x_fz_cst, x_fr_cst, x_fz_lst_false, x_fr_lst_false, x_fz_non, x_fr_non, x_fz_lt, x_fr_lt, x_fL0, x_fL1, x_cF, x_cR1, x_cR2, x_cR3, x_iL, x_iL1, x_iT, x_iT1, x_iS, x_iS1, x_iR1, x_iR11, x_iR2, x_iR21, x_iE, x_iE1, x_iV, x_iV1, x_iZ, x_iZ1, x_for, x_fo0, x_fo1, x_fo2, x_fo3, x_fo4, x_fo5, x_fo6, x_fo7, x_gT, x_gC, x_gC0, x_try, x_try1, x_try2, x_try3, x_try4, x_try5, x_nx1, x_nx2, x_try6, x_try7, x_nx3, x_nx4, x_app, x_app1, x_app2, x_lc, x_lcE, x_lc0, x_lc1, x_lcG, x_w0, x_w1, vMinL4, vMaxL4, vAll3, vAny3, vAll4, vAny4, x_wh1, x_wh2, x_wh0, x_abs, vI_ii, vI_ib, vI_it, vI_il, vI_is, vI_bb, vI_bi, vI_tt, vI_tl, vI_ti, vI_ll, vI_lt, vI_ss, vEqB, vNeB, x_ta, x_ta1, x_ta2, x_ta3, x_ta4, x_ta5, x_is, nc_0, nc_1, nc_2, nc_3, nc_4, nc_5, nc_6, nc_7, nc_8, nc_9, nc_10, nc_11, vMax2, vMin2, vIsN0, vIsN1, vNotN0, vNotN1, vIsN2, vNotN2, x_lo, x_lo1, x_lo2, vAll2, vAny2, x_sl, x_sl1, x_sl2, x_pn, x_ps, x_ps1, x_cutL, x_cutC, vEqS, vNeS, x_fz_obj, x_fr_obj, x_make, x_meth, x_meth2, x_meth3, x_isO, x_isO1, x_cat, x_cat1, x_methZ, x_methZ2, x_methZ3, x_callZ, x_callZ1, x_lend1, x_lend2, x_cl_int, x_cl_bl, x_cl_str, x_cl_non, x_cl_tup, x_cl0, x_cl1, x_cl_lst, x_setIx, x_setIx1, x_setIx2, Option.map_some, List.getD_cons_zero, List.getD_cons_succ, List.set_cons_zero, List.set_cons_succ, List.map_cons, List.map_nil, List.replicate_zero, List.replicate_succ, List.length_cons, List.length_nil, List.cons_append, List.nil_append, Option.bind_some, if_true, if_false, Bool.false_eq_true, Nat.reduceSub, Nat.reduceAdd, Nat.reduceLeDiff, Nat.reduceLT, vAdd, vSub, vLt, vLe, vGt, vGe, vNeg, vEq, vNe, vEq2, vNe2, vMod, vDiv, vMul, vPow, Int.reduceToNat, vIx0, vIx1, vLenT, vLenC, vLenL, reduceIte, decide_true, decide_false, Bool.not_true, Bool.not_false, beq_self_eq_true, Bool.and_true, Bool.true_and, Bool.and_self, Bool.and_false, Bool.false_and, fS]
        · simp (disch := decide) only [x_seq, x_seq1, x_seq2, x_seq3, x_seq4, x_seq5, x_seq6, x_nil, x_if, x_if1, x_if2, x_if3, x_ret, x_ret1, x_ret2, x_ret3, x_retN, x_asg, x_asg1, x_asg2, x_asg3, x_asg4, x_asg5, x_gN, x_drop, x_drop1, x_drop2, x_bk, x_ct, x_raise, x_tZ, x_tZ1, x_tZ2, x_tE, x_tE1, x_tE2, x_tE3, x_tAnd, x_tAnd1, x_tAnd2, x_tAnd3, x_tOr, x_tOr1, x_tOr2, x_tOr3, x_tNot, x_tNot1, x_tNot2, x_tNot3, x_tTrue, x_z2, x_z21, x_z1, x_z11, x_zC, x_zC1, x_za, x_za1, x_za0, x_zV, x_zK, x_ch, x_ch1, x_ch2, x_eZ, x_eZ1, x_eZ2, x_eV, x_eV1, x_eM, x_eM1, x_b1, x_b2, x_b3, x_s1, x_s2, x_s3, x_oO, x_oO2, x_e2, x_e1, x_eC, x_aN, x_aC, x_tup, x_lst, x_call, x_oC1, x_oC2, x_call0, x_call01, x_eAnd, x_eAnd1, x_eOr, x_eOr1, x_eNot, x_eNot1, x_eIf, x_eIf1, x_fz_int, x_fr_int, x_fz_bl, x_fr_bl, x_fz_str, x_fr_str, x_fz_ty, x_fr_ty, x_fz_tup, x_fr_tup, x_fz_cst, x_fr_cst, x_fz_lst_false, x_fr_lst_false, x_fz_non, x_fr_non, x_fz_lt, x_fr_lt, x_fL0, x_fL1, x_cF, x_cR1, x_cR2, x_cR3, x_iL, x_iL1, x_iT, x_iT1, x_iS, x_iS1, x_iR1, x_iR11, x_iR2, x_iR21, x_iE, x_iE1, x_iV, x_iV1, x_iZ, x_iZ1, x_for, x_fo0, x_fo1, x_fo2, x_fo3, x_fo4, x_fo5, x_fo6, x_fo7, x_gT, x_gC, x_gC0, x_try, x_try1, x_try2, x_try3, x_try4, x_try5, x_nx1, x_nx2, x_try6, x_try7, x_nx3, x_nx4, x_app, x_app1, x_app2, x_lc, x_lcE, x_lc0, x_lc1, x_lcG, x_w0, x_w1, vMinL4, vMaxL4, vAll3, vAny3, vAll4, vAny4, x_wh1, x_wh2, x_wh0, x_abs, vI_ii, vI_ib, vI_it, vI_il, vI_is, vI_bb, vI_bi, vI_tt, vI_tl, vI_ti, vI_ll, vI_lt, vI_ss, vEqB, vNeB, x_ta, x_ta1, x_ta2, x_ta3, x_ta4, x_ta5, x_is, nc_0, nc_1, nc_2, nc_3, nc_4, nc_5, nc_6, nc_7, nc_8, nc_9, nc_10, nc_11, vMax2, vMin2, vIsN0, vIsN1, vNotN0, vNotN1, vIsN2, vNotN2, x_lo, x_lo1, x_lo2, vAll2, vAny2, x_sl, x_sl1, x_sl2, x_pn, x_ps, x_ps1, x_cutL, x_cutC, vEqS, vNeS, x_fz_obj, x_fr_obj, x_make, x_meth, x_meth2, x_meth3, x_isO, x_isO1, x_cat, x_cat1, x_methZ, x_methZ2, x_methZ3, x_callZ, x_callZ1, x_lend1, x_lend2, x_cl_int, x_cl_bl, x_cl_str, x_cl_non, x_cl_tup, x_cl0, x_cl1, x_cl_lst, x_setIx, x_setIx1, x_setIx2, Option.map_some, List.getD_cons_zero, List.getD_cons_succ, List.set_cons_zero, List.set_cons_succ, List.map_cons, List.map_nil, List.replicate_zero, List.replicate_succ, List.length_cons, List.length_nil, List.cons_append, List.nil_append, Option.bind_some, if_true, if_false, Bool.false_eq_true, Nat.reduceSub, Nat.reduceAdd, Nat.reduceLeDiff, Nat.reduceLT, vAdd, vSub, vLt, vLe, vGt, vGe, vNeg, vEq, vNe, vEq2, vNe2, vMod, vDiv, vMul, vPow, Int.reduceToNat, vIx0, vIx1, vLenT, vLenC, vLenL, reduceIte, decide_true, decide_false, Bool.not_true, Bool.not_false, beq_self_eq_true, Bool.and_true, Bool.true_and, Bool.and_self, Bool.and_false, Bool.false_and, ii']
        · simp (disch := decide) only [x_seq, x_seq1, x_seq2, x_seq3, x_seq4, x_seq5, x_seq6, x_nil, x_if, x_if1, x_if2, x_if3, x_ret, x_ret1, x_ret2, x_ret3, x_retN, x_asg, x_asg1, x_asg2, x_asg3, x_asg4, x_asg5, x_gN, x_drop, x_drop1, x_drop2, x_bk, x_ct, x_raise, x_tZ, x_tZ1, x_tZ2, x_tE, x_tE1, x_tE2, x_tE3, x_tAnd, x_tAnd1, x_tAnd2, x_tAnd3, x_tOr, x_tOr1, x_tOr2, x_tOr3, x_tNot, x_tNot1, x_tNot2, x_tNot3, x_tTrue, x_z2, x_z21, x_z1, x_z11, x_zC, x_zC1, x_za, x_za1, x_za0, x_zV, x_zK, x_ch, x_ch1, x_ch2, x_eZ, x_eZ1, x_eZ2, x_eV, x_eV1, x_eM, x_eM1, x_b1, x_b2, x_b3, x_s1, x_s2, x_s3, x_oO, x_oO2, x_e2, x_e1, x_eC, x_aN, x_aC, x_tup, x_lst, x_call, x_oC1, x_oC2, x_call0, x_call01, x_eAnd, x_eAnd1, x_eOr, x_eOr1, x_eNot, x_eNot1, x_eIf, x_eIf1, x_fz_int, x_fr_int, x_fz_bl, x_fr_bl, x_fz_str, x_fr_str, x_fz_ty, x_fr_ty, x_fz_tup, x_fr_tup, x_fz_cst, x_fr_cst, x_fz_lst_false, x_fr_lst_false, x_fz_non, x_fr_non, x_fz_lt, x_fr_lt, x_fL0, x_fL1, x_cF, x_cR1, x_cR2, x_cR3, x_iL, x_iL1, x_iT, x_iT1, x_iS, x_iS1, x_iR1, x_iR11, x_iR2, x_iR21, x_iE, x_iE1, x_iV, x_iV1, x_iZ, x_iZ1, x_for, x_fo0, x_fo1, x_fo2, x_fo3, x_fo4, x_fo5, x_fo6, x_fo7, x_gT, x_gC, x_gC0, x_try, x_try1, x_try2, x_try3, x_try4, x_try5, x_nx1, x_nx2, x_try6, x_try7, x_nx3, x_nx4, x_app, x_app1, x_app2, x_lc, x_lcE, x_lc0, x_lc1, x_lcG, x_w0, x_w1, vMinL4, vMaxL4, vAll3, vAny3, vAll4, vAny4, x_wh1, x_wh2, x_wh0, x_abs, vI_ii, vI_ib, vI_it, vI_il, vI_is, vI_bb, vI_bi, vI_tt, vI_tl, vI_ti, vI_ll, vI_lt, vI_ss, vEqB, vNeB, x_ta, x_ta1, x_ta2, x_ta3, x_ta4, x_ta5, x_is, nc_0, nc_1, nc_2, nc_3, nc_4, nc_5, nc_6, nc_7, nc_8, nc_9, nc_10, nc_11, vMax2, vMin2, vIsN0, vIsN1, vNotN0, vNotN1, vIsN2, vNotN2, x_lo, x_lo1, x_lo2, vAll2, vAny2, x_sl, x_sl1, x_sl2, x_pn, x_ps, x_ps1, x_cutL, x_cutC, vEqS, vNeS, x_fz_obj, x_fr_obj, x_make, x_meth, x_meth2, x_meth3, x_isO, x_isO1, x_cat, x_cat1, x_methZ, x_methZ2, x_methZ3, x_callZ, x_callZ1, x_lend1, x_lend2, x_cl_int, x_cl_bl, x_cl_str, x_cl_non, x_cl_tup, x_cl0, x_cl1, x_cl_lst, x_setIx, x_setIx1, x_setIx2, Option.map_some, List.getD_cons_zero, List.getD_cons_succ, List.set_cons_zero, List.set_cons_succ, List.map_cons, List.map_nil, List.replicate_zero, List.replicate_succ, List.length_cons, List.length_nil, List.cons_append, List.nil_append, Option.bind_some, if_true, if_false, Bool.false_eq_true, Nat.reduceSub, Nat.reduceAdd, Nat.reduceLeDiff, Nat.reduceLT, vAdd, vSub, vLt, vLe, vGt, vGe, vNeg, vEq, vNe, vEq2, vNe2, vMod, vDiv, vMul, vPow, Int.reduceToNat, vIx0, vIx1, vLenT, vLenC, vLenL, reduceIte, decide_true, decide_false, Bool.not_true, Bool.not_false, beq_self_eq_true, Bool.and_true, Bool.true_and, Bool.and_self, Bool.and_false, Bool.false_and, vMul w1, hu]
        · simp (disch := decide) only [x_seq, x_seq1, x_seq2, x_seq3, x_seq4, x_seq5, x_seq6, x_nil, x_if, x_if1, x_if2, x_if3, x_ret, x_ret1, x_ret2, x_ret3, x_retN, x_asg, x_asg1, x_asg2, x_asg3, x_asg4, x_asg5, x_gN, x_drop, x_drop1, x_drop2, x_bk, x_ct, x_raise, x_tZ, x_tZ1, x_tZ2, x_tE, x_tE1, x_tE2, x_tE3, x_tAnd, x_tAnd1, x_tAnd2, x_tAnd3, x_tOr, x_tOr1, x_tOr2, x_tOr3, x_tNot, x_tNot1, x_tNot2, x_tNot3, x_tTrue, x_z2, x_z21, x_z1, x_z11, x_zC, x_zC1, x_za, x_za1, x_za0, x_zV, x_zK, x_ch, x_ch1, x_ch2, x_eZ, x_eZ1, x_eZ2, x_eV, x_eV1, x_eM, x_eM1, x_b1, x_b2, x_b3, x_s1, x_s2, x_s3, x_oO, x_oO2, x_e2, x_e1, x_eC, x_aN, x_aC, x_tup, x_lst, x_call, x_oC1, x_oC2, x_call0, x_call01, x_eAnd, x_eAnd1, x_eOr, x_eOr1, x_eNot, x_eNot1, x_eIf, x_eIf1, x_fz_int, x_fr_int, x_fz_bl, x_fr_bl, x_fz_str, x_fr_str, x_fz_ty, x_fr_ty, x_fz_tup, x_fr_tup, x_fz_cst, x_fr_cst, x_fz_lst_false, x_fr_lst_false, x_fz_non, x_fr_non, x_fz_lt, x_fr_lt, x_fL0, x_fL1, x_cF, x_cR1, x_cR2, x_cR3, x_iL, x_iL1, x_iT, x_iT1, x_iS, x_iS1, x_iR1, x_iR11, x_iR2, x_iR21, x_iE, x_iE1, x_iV, x_iV1, x_iZ, x_iZ1, x_for, x_fo0, x_fo1, x_fo2, x_fo3, x_fo4, x_fo5, x_fo6, x_fo7, x_gT, x_gC, x_gC0, x_try, x_try1, x_try2, x_try3, x_try4, x_try5, x_nx1, x_nx2, x_try6, x_try7, x_nx3, x_nx4, x_app, x_app1, x_app2, x_lc, x_lcE, x_lc0, x_lc1, x_lcG, x_w0, x_w1, vMinL4, vMaxL4, vAll3, vAny3, vAll4, vAny4, x_wh1, x_wh2, x_wh0, x_abs, vI_ii, vI_ib, vI_it, vI_il, vI_is, vI_bb, vI_bi, vI_tt, vI_tl, vI_ti, vI_ll, vI_lt, vI_ss, vEqB, vNeB, x_ta, x_ta1, x_ta2, x_ta3, x_ta4, x_ta5, x_is, nc_0, nc_1, nc_2, nc_3, nc_4, nc_5, nc_6, nc_7, nc_8, nc_9, nc_10, nc_11, vMax2, vMin2, vIsN0, vIsN1, vNotN0, vNotN1, vIsN2, vNotN2, x_lo, x_lo1, x_lo2, vAll2, vAny2, x_sl, x_sl1, x_sl2, x_pn, x_ps, x_ps1, x_cutL, x_cutC, vEqS, vNeS, x_fz_obj, x_fr_obj, x_make, x_meth, x_meth2, x_meth3, x_isO, x_isO1, x_cat, x_cat1, x_methZ, x_methZ2, x_methZ3, x_callZ, x_callZ1, x_lend1, x_lend2, x_cl_int, x_cl_bl, x_cl_str, x_cl_non, x_cl_tup, x_cl0, x_cl1, x_cl_lst, x_setIx, x_setIx1, x_setIx2, Option.map_some, List.getD_cons_zero, List.getD_cons_succ, List.set_cons_zero, List.set_cons_succ, List.map_cons, List.map_nil, List.replicate_zero, List.replicate_succ, List.length_cons, List.length_nil, List.cons_append, List.nil_append, Option.bind_some, if_true, if_false, Bool.false_eq_true, Nat.reduceSub, Nat.reduceAdd, Nat.reduceLeDiff, Nat.reduceLT, vAdd, vSub, vLt, vLe, vGt, vGe, vNeg, vEq, vNe, vEq2, vNe2, vMod, vDiv, vMul, vPow, Int.reduceToNat, vIx0, vIx1, vLenT, vLenC, vLenL, reduceIte, decide_true, decide_false, Bool.not_true, Bool.not_false, beq_self_eq_true, Bool.and_true, Bool.true_and, Bool.and_self, Bool.and_false, Bool.false_and, st1]
      show callR (m__law_here [some (.tup [.str w, .int i, .int j]), some (.lst false (ss.map spD)), some (.lst false B), some (.int g), some (.int c), none, none, none, none, none, none, none]) = _
      rw [e0', x_cR2]
  cases n with
  | num t b =>
    refine ⟨p0, ?_⟩
    generalize ss.map spD = S at *
    cases h4 : (c1 % 4 == 0) <;> simp (disch := decide) only [Nd.d, we_number_number, f__law_here, m__law_here, u__law_here_1, x_seq, x_seq1, x_seq2, x_seq3, x_seq4, x_seq5, x_seq6, x_nil, x_if, x_if1, x_if2, x_if3, x_ret, x_ret1, x_ret2, x_ret3, x_retN, x_asg, x_asg1, x_asg2, x_asg3, x_asg4, x_asg5, x_gN, x_drop, x_drop1, x_drop2, x_bk, x_ct, x_raise, x_tZ, x_tZ1, x_tZ2, x_tE, x_tE1, x_tE2, x_tE3, x_tAnd, x_tAnd1, x_tAnd2, x_tAnd3, x_tOr, x_tOr1, x_tOr2, x_tOr3, x_tNot, x_tNot1, x_tNot2, x_tNot3, x_tTrue, x_z2, x_z21, x_z1, x_z11, x_zC, x_zC1, x_za, x_za1, x_za0, x_zV, x_zK, x_ch, x_ch1, x_ch2, x_eZ, x_eZ1, x_eZ2, x_eV, x_eV1, x_eM, x_eM1, x_b1, x_b2, x_b3, x_s1, x_s2, x_s3, x_oO, x_oO2, x_e2, x_e1, x_eC, x_aN, x_aC, x_tup, x_lst, x_call, x_oC1, x_oC2, x_call0, x_call01, x_eAnd, x_eAnd1, x_eOr, x_eOr1, x_eNot, x_eNot1, x_eIf, x_eIf1, x_fz_int, x_fr_int, x_fz_bl, x_fr_bl, x_fz_str, x_fr_str, x_fz_ty, x_fr_ty, x_fz_tup, x_fr_tup, x_fz_cst, x_fr_cst, x_fz_lst_false, x_fr_lst_false, x_fz_non, x_fr_non, x_fz_lt, x_fr_lt, x_fL0, x_fL1, x_cF, x_cR1, x_cR2, x_cR3, x_iL, x_iL1, x_iT, x_iT1, x_iS, x_iS1, x_iR1, x_iR11, x_iR2, x_iR21, x_iE, x_iE1, x_iV, x_iV1, x_iZ, x_iZ1, x_for, x_fo0, x_fo1, x_fo2, x_fo3, x_fo4, x_fo5, x_fo6, x_fo7, x_gT, x_gC, x_gC0, x_try, x_try1, x_try2, x_try3, x_try4, x_try5, x_nx1, x_nx2, x_try6, x_try7, x_nx3, x_nx4, x_app, x_app1, x_app2, x_lc, x_lcE, x_lc0, x_lc1, x_lcG, x_w0, x_w1, vMinL4, vMaxL4, vAll3, vAny3, vAll4, vAny4, x_wh1, x_wh2, x_wh0, x_abs, vI_ii, vI_ib, vI_it, vI_il, vI_is, vI_bb, vI_bi, vI_tt, vI_tl, vI_ti, vI_ll, vI_lt, vI_ss, vEqB, vNeB, x_ta, x_ta1, x_ta2, x_ta3, x_ta4, x_ta5, x_is, nc_0, nc_1, nc_2, nc_3, nc_4, nc_5, nc_6, nc_7, nc_8, nc_9, nc_10, nc_11, vMax2, vMin2, vIsN0, vIsN1, vNotN0, vNotN1, vIsN2, vNotN2, x_lo, x_lo1, x_lo2, vAll2, vAny2, x_sl, x_sl1, x_sl2, x_pn, x_ps, x_ps1, x_cutL, x_cutC, vEqS, vNeS, x_fz_obj, x_fr_obj, x_make, x_meth, x_meth2, x_meth3, x_isO, x_isO1, x_cat, x_cat1, x_methZ, x_methZ2, x_methZ3, x_callZ, x_callZ1, x_lend1, x_lend2, x_cl_int, x_cl_bl, x_cl_str, x_cl_non, x_cl_tup, x_cl0, x_cl1, x_cl_lst, x_setIx, x_setIx1, x_setIx2, Option.map_some, List.getD_cons_zero, List.getD_cons_succ, List.set_cons_zero, List.set_cons_succ, List.map_cons, List.map_nil, List.replicate_zero, List.replicate_succ, List.length_cons, List.length_nil, List.cons_append, List.nil_append, Option.bind_some, if_true, if_false, Bool.false_eq_true, Nat.reduceSub, Nat.reduceAdd, Nat.reduceLeDiff, Nat.reduceLT, vAdd, vSub, vLt, vLe, vGt, vGe, vNeg, vEq, vNe, vEq2, vNe2, vMod, vDiv, vMul, vPow, Int.reduceToNat, vIx0, vIx1, vLenT, vLenC, vLenL, reduceIte, decide_true, decide_false, Bool.not_true, Bool.not_false, beq_self_eq_true, Bool.and_true, Bool.true_and, Bool.and_self, Bool.and_false, Bool.false_and, hp, hm, h4, e0]
  | unk j =>
    refine ⟨p0, ?_⟩
    generalize ss.map spD = S at *
    cases h4 : (c1 % 4 == 0) <;> simp (disch := decide) only [Nd.d, we_unknown_number, we_unknown_unknown, f__law_here, m__law_here, u__law_here_1, x_seq, x_seq1, x_seq2, x_seq3, x_seq4, x_seq5, x_seq6, x_nil, x_if, x_if1, x_if2, x_if3, x_ret, x_ret1, x_ret2, x_ret3, x_retN, x_asg, x_asg1, x_asg2, x_asg3, x_asg4, x_asg5, x_gN, x_drop, x_drop1, x_drop2, x_bk, x_ct, x_raise, x_tZ, x_tZ1, x_tZ2, x_tE, x_tE1, x_tE2, x_tE3, x_tAnd, x_tAnd1, x_tAnd2, x_tAnd3, x_tOr, x_tOr1, x_tOr2, x_tOr3, x_tNot, x_tNot1, x_tNot2, x_tNot3, x_tTrue, x_z2, x_z21, x_z1, x_z11, x_zC, x_zC1, x_za, x_za1, x_za0, x_zV, x_zK, x_ch, x_ch1, x_ch2, x_eZ, x_eZ1, x_eZ2, x_eV, x_eV1, x_eM, x_eM1, x_b1, x_b2, x_b3, x_s1, x_s2, x_s3, x_oO, x_oO2, x_e2, x_e1, x_eC, x_aN, x_aC, x_tup, x_lst, x_call, x_oC1, x_oC2, x_call0, x_call01, x_eAnd, x_eAnd1, x_eOr, x_eOr1, x_eNot, x_eNot1, x_eIf, x_eIf1, x_fz_int, x_fr_int, x_fz_bl, x_fr_bl, x_fz_str, x_fr_str, x_fz_ty, x_fr_ty, x_fz_tup, x_fr_tup, x_fz_cst, x_fr_cst, x_fz_lst_false, x_fr_lst_false, x_fz_non, x_fr_non, x_fz_lt, x_fr_lt, x_fL0, x_fL1, x_cF, x_cR1, x_cR2, x_cR3, x_iL, x_iL1, x_iT, x_iT1, x_iS, x_iS1, x_iR1, x_iR11, x_iR2, x_iR21, x_iE, x_iE1, x_iV, x_iV1, x_iZ, x_iZ1, x_for, x_fo0, x_fo1, x_fo2, x_fo3, x_fo4, x_fo5, x_fo6, x_fo7, x_gT, x_gC, x_gC0, x_try, x_try1, x_try2, x_try3, x_try4, x_try5, x_nx1, x_nx2, x_try6, x_try7, x_nx3, x_nx4, x_app, x_app1, x_app2, x_lc, x_lcE, x_lc0, x_lc1, x_lcG, x_w0, x_w1, vMinL4, vMaxL4, vAll3, vAny3, vAll4, vAny4, x_wh1, x_wh2, x_wh0, x_abs, vI_ii, vI_ib, vI_it, vI_il, vI_is, vI_bb, vI_bi, vI_tt, vI_tl, vI_ti, vI_ll, vI_lt, vI_ss, vEqB, vNeB, x_ta, x_ta1, x_ta2, x_ta3, x_ta4, x_ta5, x_is, nc_0, nc_1, nc_2, nc_3, nc_4, nc_5, nc_6, nc_7, nc_8, nc_9, nc_10, nc_11, vMax2, vMin2, vIsN0, vIsN1, vNotN0, vNotN1, vIsN2, vNotN2, x_lo, x_lo1, x_lo2, vAll2, vAny2, x_sl, x_sl1, x_sl2, x_pn, x_ps, x_ps1, x_cutL, x_cutC, vEqS, vNeS, x_fz_obj, x_fr_obj, x_make, x_meth, x_meth2, x_meth3, x_isO, x_isO1, x_cat, x_cat1, x_methZ, x_methZ2, x_methZ3, x_callZ, x_callZ1, x_lend1, x_lend2, x_cl_int, x_cl_bl, x_cl_str, x_cl_non, x_cl_tup, x_cl0, x_cl1, x_cl_lst, x_setIx, x_setIx1, x_setIx2, Option.map_some, List.getD_cons_zero, List.getD_cons_succ, List.set_cons_zero, List.set_cons_succ, List.map_cons, List.map_nil, List.replicate_zero, List.replicate_succ, List.length_cons, List.length_nil, List.cons_append, List.nil_append, Option.bind_some, if_true, if_false, Bool.false_eq_true, Nat.reduceSub, Nat.reduceAdd, Nat.reduceLeDiff, Nat.reduceLT, vAdd, vSub, vLt, vLe, vGt, vGe, vNeg, vEq, vNe, vEq2, vNe2, vMod, vDiv, vMul, vPow, Int.reduceToNat, vIx0, vIx1, vLenT, vLenC, vLenL, reduceIte, decide_true, decide_false, Bool.not_true, Bool.not_false, beq_self_eq_true, Bool.and_true, Bool.true_and, Bool.and_self, Bool.and_false, Bool.false_and, hp, hm, h4, e0]
  | plus i j =>
    obtain ⟨i0, i1, j0, j1⟩ := hB
    refine go "plus" i j rfl we_plus_number we_plus_unknown ne_pp i0 i1 j0 j1 fun ss' hl => ?_
    exact ⟨_, _, plus_forth (fun m => ix_pt i0 (by omega) m) (fun m => ix_pt j0 (by omega) m)⟩
  | minus i j =>
    obtain ⟨i0, i1, j0, j1⟩ := hB
    refine go "minus" i j rfl we_minus_number we_minus_unknown ne_mp i0 i1 j0 j1 fun ss' hl => ?_
    exact ⟨_, _, minus_forth (fun m => ix_pt i0 (by omega) m) (fun m => ix_pt j0 (by omega) m)⟩
  | pow i j => exact h.elim
  | times i j => exact h.elim
theorem sp_Ok {S : List D} {ss : List (Int × Int)} (e : ss.map spD = S) (b : Bool) : Bn.Ok 2 (.lst b S) := ok_lst fun d hd => by
  rw [← e] at hd
  obtain ⟨p, _, rfl⟩ := List.mem_map.mp hd
  exact ok_tup fun x hx => by
    simp only [List.mem_cons, List.not_mem_nil, or_false] at hx
    rcases hx with rfl | rfl
    · exact ok_int _
    · exact ok_int _
theorem ix_pm (i : Int) (h : i = 0 ∨ i = 1) : ∃ (w : PySem.Str) (p : Bool), gIx (.lst true [.str "plus", .str "minus"]) (.int i) = some (.str w) ∧ ∀ a b : Int, D.tup [.str w, .int a, .int b] = (Nd.sum p a b).d := by
  rcases h with rfl | rfl
  · exact ⟨_, true, rfl, fun _ _ => rfl⟩
  · exact ⟨_, false, rfl, fun _ _ => rfl⟩
theorem sum_sm (p : Bool) (i j : Int) : (Nd.sum p i j).sm := by cases p <;> trivial
theorem sum_B {p : Bool} {i j s M : Int} (h : 0 ≤ i ∧ i < s ∧ 0 ≤ j ∧ j < s) : (Nd.sum p i j).B s M := by cases p <;> exact h
/-- the names ahead of each turn -/
structure St (S B : List D) (cs : List Int) (scr : D) (g M : Int) (τ : Bn.Env) : Prop where
  e : ∃ m m' x5 x7 x8 x9 x10 x11 x12, τ = [some scr, some (.lst false (cs.map D.int)), some (.int g), some (.int M), some (.lst m B), x5, some (.lst m' S), x7, x8, x9, x10, x11, x12]
theorem turn {ss bs : List (Int × Int)} {S B : List D} {cs : List Int} {scr : D} {g M N : Int} (hM : M = bs.length) (hN : (S.length : Int) = N) (n1 : 1 ≤ N) (m1 : 1 ≤ M) (hs : ∀ p ∈ ss, SpB p) (hb : ∀ p ∈ bs, SpB p) (eS : ss.map spD = S) (eB : bs.map spD = B) (g1 : 1 ≤ g) (g2 : g ≤ 1000000) {k : Nat} (hk : k < cs.length) {τ : Bn.Env} (h : St S B cs scr g M τ) :
    ∃ τ1 τ2, gN 5 (.int (0 + (k : Nat))) τ = some τ1 ∧ (l_law_1 τ1 = .nx τ2 ∨ l_law_1 τ1 = .ct τ2) ∧ St S B cs scr g M τ2 := by
  obtain ⟨m, m', x5, x7, x8, x9, x10, x11, x12, rfl⟩ := h
  obtain ⟨c, hc⟩ : ∃ c, cs[k] = c := ⟨_, rfl⟩
  obtain ⟨kk, hkk⟩ : ∃ kk : Int, 0 + ((k : Nat) : Int) = kk := ⟨_, rfl⟩
  have ek : gIx (.lst false (cs.map D.int)) (.int kk) = some (.int c) := by
    rw [← hkk, Int.zero_add, vIxL, List.getElem?_map, List.getElem?_eq_getElem hk, hc]; rfl
  obtain ⟨n0, en, hn0⟩ := node_ok c N M n1 m1
  have lS : ∀ m, gLen [.lst m S] = some (.int N) := fun m => by rw [vLenL, hN]
  have fS : freezeL S = S := by
    rw [← eS, fz_map]; intro p; rfl
  have fB : freezeL B = B := by
    rw [← eB, fz_map]; intro p; rfl
  have lss : (ss.length : Int) = N := by rw [← hN, ← eS, List.length_map]
  rw [hkk]
  clear hkk hc
  -- the node
  obtain ⟨n, hsm, hB, en2⟩ : ∃ n : Nd, n.sm ∧ n.B N M ∧ (∀ D0 : MS, ∀ r : SR, D0 [some scr, some (.lst false (cs.map D.int)), some (.int g), some (.int M), some (.lst m B), some (.int kk), some (.lst m' S), x7, some n.d, x9, x10, x11, x12] = r → sSeq (sIf (tOr (tZ (z2 gEq (z2 gIx (zVar 8) (zC (.int 0))) (zC (.str "times")))) (tZ (z2 gEq (z2 gIx (zVar 8) (zC (.int 0))) (zC (.str "power"))))) (sAsg (eTup (aCons (e2 gIx (eLst (aCons (eZ (zC (.str "plus"))) (aCons (eZ (zC (.str "minus"))) aNil))) (eZ (z2 gMod (z2 gDiv (z2 gIx (zVar 1) (zVar 5)) (zC (.int 16))) (zC (.int 2))))) (aCons (eZ (z2 gIx (zVar 8) (zC (.int 1)))) (aCons (eZ (z2 gMod (z2 gIx (zVar 8) (zC (.int 2))) (zC' gLen (zaCons (zVar 6) zaNil)))) aNil)))) (gN 8)) sNil) D0 [some scr, some (.lst false (cs.map D.int)), some (.int g), some (.int M), some (.lst m B), some (.int kk), some (.lst m' S), x7, some n0.d, x9, x10, x11, x12] = r) := by
    have seq : ∀ {τa τb : Bn.Env} {a : MS}, a τa = .nx τb → ∀ D0 : MS, ∀ r : SR, D0 τb = r → sSeq a D0 τa = r := fun h D0 r e => x_seq_ok h e
    cases n0 with
    | num t b =>
      refine ⟨.num t b, trivial, hn0, ?_⟩
      refine seq ?_
      generalize cs.map D.int = C at *
      simp (disch := decide) only [Nd.d, we_number_times, we_number_power, x_seq, x_seq1, x_seq2, x_seq3, x_seq4, x_seq5, x_seq6, x_nil, x_if, x_if1, x_if2, x_if3, x_ret, x_ret1, x_ret2, x_ret3, x_retN, x_asg, x_asg1, x_asg2, x_asg3, x_asg4, x_asg5, x_gN, x_drop, x_drop1, x_drop2, x_bk, x_ct, x_raise, x_tZ, x_tZ1, x_tZ2, x_tE, x_tE1, x_tE2, x_tE3, x_tAnd, x_tAnd1, x_tAnd2, x_tAnd3, x_tOr, x_tOr1, x_tOr2, x_tOr3, x_tNot, x_tNot1, x_tNot2, x_tNot3, x_tTrue, x_z2, x_z21, x_z1, x_z11, x_zC, x_zC1, x_za, x_za1, x_za0, x_zV, x_zK, x_ch, x_ch1, x_ch2, x_eZ, x_eZ1, x_eZ2, x_eV, x_eV1, x_eM, x_eM1, x_b1, x_b2, x_b3, x_s1, x_s2, x_s3, x_oO, x_oO2, x_e2, x_e1, x_eC, x_aN, x_aC, x_tup, x_lst, x_call, x_oC1, x_oC2, x_call0, x_call01, x_eAnd, x_eAnd1, x_eOr, x_eOr1, x_eNot, x_eNot1, x_eIf, x_eIf1, x_fz_int, x_fr_int, x_fz_bl, x_fr_bl, x_fz_str, x_fr_str, x_fz_ty, x_fr_ty, x_fz_tup, x_fr_tup, x_fz_cst, x_fr_cst, x_fz_lst_false, x_fr_lst_false, x_fz_non, x_fr_non, x_fz_lt, x_fr_lt, x_fL0, x_fL1, x_cF, x_cR1, x_cR2, x_cR3, x_iL, x_iL1, x_iT, x_iT1, x_iS, x_iS1, x_iR1, x_iR11, x_iR2, x_iR21, x_iE, x_iE1, x_iV, x_iV1, x_iZ, x_iZ1, x_for, x_fo0, x_fo1, x_fo2, x_fo3, x_fo4, x_fo5, x_fo6, x_fo7, x_gT, x_gC, x_gC0, x_try, x_try1, x_try2, x_try3, x_try4, x_try5, x_nx1, x_nx2, x_try6, x_try7, x_nx3, x_nx4, x_app, x_app1, x_app2, x_lc, x_lcE, x_lc0, x_lc1, x_lcG, x_w0, x_w1, vMinL4, vMaxL4, vAll3, vAny3, vAll4, vAny4, x_wh1, x_wh2, x_wh0, x_abs, vI_ii, vI_ib, vI_it, vI_il, vI_is, vI_bb, vI_bi, vI_tt, vI_tl, vI_ti, vI_ll, vI_lt, vI_ss, vEqB, vNeB, x_ta, x_ta1, x_ta2, x_ta3, x_ta4, x_ta5, x_is, nc_0, nc_1, nc_2, nc_3, nc_4, nc_5, nc_6, nc_7, nc_8, nc_9, nc_10, nc_11, vMax2, vMin2, vIsN0, vIsN1, vNotN0, vNotN1, vIsN2, vNotN2, x_lo, x_lo1, x_lo2, vAll2, vAny2, x_sl, x_sl1, x_sl2, x_pn, x_ps, x_ps1, x_cutL, x_cutC, vEqS, vNeS, x_fz_obj, x_fr_obj, x_make, x_meth, x_meth2, x_meth3, x_isO, x_isO1, x_cat, x_cat1, x_methZ, x_methZ2, x_methZ3, x_callZ, x_callZ1, x_lend1, x_lend2, x_cl_int, x_cl_bl, x_cl_str, x_cl_non, x_cl_tup, x_cl0, x_cl1, x_cl_lst, x_setIx, x_setIx1, x_setIx2, Option.map_some, List.getD_cons_zero, List.getD_cons_succ, List.set_cons_zero, List.set_cons_succ, List.map_cons, List.map_nil, List.replicate_zero, List.replicate_succ, List.length_cons, List.length_nil, List.cons_append, List.nil_append, Option.bind_some, if_true, if_false, Bool.false_eq_true, Nat.reduceSub, Nat.reduceAdd, Nat.reduceLeDiff, Nat.reduceLT, vAdd, vSub, vLt, vLe, vGt, vGe, vNeg, vEq, vNe, vEq2, vNe2, vMod, vDiv, vMul, vPow, Int.reduceToNat, vIx0, vIx1, vLenT, vLenC, vLenL, reduceIte, decide_true, decide_false, Bool.not_true, Bool.not_false, beq_self_eq_true, Bool.and_true, Bool.true_and, Bool.and_self, Bool.and_false, Bool.false_and]
    | unk j =>
      refine ⟨.unk j, trivial, hn0, ?_⟩
      refine seq ?_
      generalize cs.map D.int = C at *
      simp (disch := decide) only [Nd.d, we_unknown_times, we_unknown_power, x_seq, x_seq1, x_seq2, x_seq3, x_seq4, x_seq5, x_seq6, x_nil, x_if, x_if1, x_if2, x_if3, x_ret, x_ret1, x_ret2, x_ret3, x_retN, x_asg, x_asg1, x_asg2, x_asg3, x_asg4, x_asg5, x_gN, x_drop, x_drop1, x_drop2, x_bk, x_ct, x_raise, x_tZ, x_tZ1, x_tZ2, x_tE, x_tE1, x_tE2, x_tE3, x_tAnd, x_tAnd1, x_tAnd2, x_tAnd3, x_tOr, x_tOr1, x_tOr2, x_tOr3, x_tNot, x_tNot1, x_tNot2, x_tNot3, x_tTrue, x_z2, x_z21, x_z1, x_z11, x_zC, x_zC1, x_za, x_za1, x_za0, x_zV, x_zK, x_ch, x_ch1, x_ch2, x_eZ, x_eZ1, x_eZ2, x_eV, x_eV1, x_eM, x_eM1, x_b1, x_b2, x_b3, x_s1, x_s2, x_s3, x_oO, x_oO2, x_e2, x_e1, x_eC, x_aN, x_aC, x_tup, x_lst, x_call, x_oC1, x_oC2, x_call0, x_call01, x_eAnd, x_eAnd1, x_eOr, x_eOr1, x_eNot, x_eNot1, x_eIf, x_eIf1, x_fz_int, x_fr_int, x_fz_bl, x_fr_bl, x_fz_str, x_fr_str, x_fz_ty, x_fr_ty, x_fz_tup, x_fr_tup, x_fz_cst, x_fr_cst, x_fz_lst_false, x_fr_lst_false, x_fz_non, x_fr_non, x_fz_lt, x_fr_lt, x_fL0, x_fL1, x_cF, x_cR1, x_cR2, x_cR3, x_iL, x_iL1, x_iT, x_iT1, x_iS, x_iS1, x_iR1, x_iR11, x_iR2, x_iR21, x_iE, x_iE1, x_iV, x_iV1, x_iZ, x_iZ1, x_for, x_fo0, x_fo1, x_fo2, x_fo3, x_fo4, x_fo5, x_fo6, x_fo7, x_gT, x_gC, x_gC0, x_try, x_try1, x_try2, x_try3, x_try4, x_try5, x_nx1, x_nx2, x_try6, x_try7, x_nx3, x_nx4, x_app, x_app1, x_app2, x_lc, x_lcE, x_lc0, x_lc1, x_lcG, x_w0, x_w1, vMinL4, vMaxL4, vAll3, vAny3, vAll4, vAny4, x_wh1, x_wh2, x_wh0, x_abs, vI_ii, vI_ib, vI_it, vI_il, vI_is, vI_bb, vI_bi, vI_tt, vI_tl, vI_ti, vI_ll, vI_lt, vI_ss, vEqB, vNeB, x_ta, x_ta1, x_ta2, x_ta3, x_ta4, x_ta5, x_is, nc_0, nc_1, nc_2, nc_3, nc_4, nc_5, nc_6, nc_7, nc_8, nc_9, nc_10, nc_11, vMax2, vMin2, vIsN0, vIsN1, vNotN0, vNotN1, vIsN2, vNotN2, x_lo, x_lo1, x_lo2, vAll2, vAny2, x_sl, x_sl1, x_sl2, x_pn, x_ps, x_ps1, x_cutL, x_cutC, vEqS, vNeS, x_fz_obj, x_fr_obj, x_make, x_meth, x_meth2, x_meth3, x_isO, x_isO1, x_cat, x_cat1, x_methZ, x_methZ2, x_methZ3, x_callZ, x_callZ1, x_lend1, x_lend2, x_cl_int, x_cl_bl, x_cl_str, x_cl_non, x_cl_tup, x_cl0, x_cl1, x_cl_lst, x_setIx, x_setIx1, x_setIx2, Option.map_some, List.getD_cons_zero, List.getD_cons_succ, List.set_cons_zero, List.set_cons_succ, List.map_cons, List.map_nil, List.replicate_zero, List.replicate_succ, List.length_cons, List.length_nil, List.cons_append, List.nil_append, Option.bind_some, if_true, if_false, Bool.false_eq_true, Nat.reduceSub, Nat.reduceAdd, Nat.reduceLeDiff, Nat.reduceLT, vAdd, vSub, vLt, vLe, vGt, vGe, vNeg, vEq, vNe, vEq2, vNe2, vMod, vDiv, vMul, vPow, Int.reduceToNat, vIx0, vIx1, vLenT, vLenC, vLenL, reduceIte, decide_true, decide_false, Bool.not_true, Bool.not_false, beq_self_eq_true, Bool.and_true, Bool.true_and, Bool.and_self, Bool.and_false, Bool.false_and]
    | plus i j =>
      refine ⟨.plus i j, trivial, hn0, ?_⟩
      refine seq ?_
      generalize cs.map D.int = C at *
      simp (disch := decide) only [Nd.d, we_plus_times, we_plus_power, x_seq, x_seq1, x_seq2, x_seq3, x_seq4, x_seq5, x_seq6, x_nil, x_if, x_if1, x_if2, x_if3, x_ret, x_ret1, x_ret2, x_ret3, x_retN, x_asg, x_asg1, x_asg2, x_asg3, x_asg4, x_asg5, x_gN, x_drop, x_drop1, x_drop2, x_bk, x_ct, x_raise, x_tZ, x_tZ1, x_tZ2, x_tE, x_tE1, x_tE2, x_tE3, x_tAnd, x_tAnd1, x_tAnd2, x_tAnd3, x_tOr, x_tOr1, x_tOr2, x_tOr3, x_tNot, x_tNot1, x_tNot2, x_tNot3, x_tTrue, x_z2, x_z21, x_z1, x_z11, x_zC, x_zC1, x_za, x_za1, x_za0, x_zV, x_zK, x_ch, x_ch1, x_ch2, x_eZ, x_eZ1, x_eZ2, x_eV, x_eV1, x_eM, x_eM1, x_b1, x_b2, x_b3, x_s1, x_s2, x_s3, x_oO, x_oO2, x_e2, x_e1, x_eC, x_aN, x_aC, x_tup, x_lst, x_call, x_oC1, x_oC2, x_call0, x_call01, x_eAnd, x_eAnd1, x_eOr, x_eOr1, x_eNot, x_eNot1, x_eIf, x_eIf1, x_fz_int, x_fr_int, x_fz_bl, x_fr_bl, x_fz_str, x_fr_str, x_fz_ty, x_fr_ty, x_fz_tup, x_fr_tup, x_fz_cst, x_fr_cst, x_fz_lst_false, x_fr_lst_false, x_fz_non, x_fr_non, x_fz_lt, x_fr_lt, x_fL0, x_fL1, x_cF, x_cR1, x_cR2, x_cR3, x_iL, x_iL1, x_iT, x_iT1, x_iS, x_iS1, x_iR1, x_iR11, x_iR2, x_iR21, x_iE, x_iE1, x_iV, x_iV1, x_iZ, x_iZ1, x_for, x_fo0, x_fo1, x_fo2, x_fo3, x_fo4, x_fo5, x_fo6, x_fo7, x_gT, x_gC, x_gC0, x_try, x_try1, x_try2, x_try3, x_try4, x_try5, x_nx1, x_nx2, x_try6, x_try7, x_nx3, x_nx4, x_app, x_app1, x_app2, x_lc, x_lcE, x_lc0, x_lc1, x_lcG, x_w0, x_w1, vMinL4, vMaxL4, vAll3, vAny3, vAll4, vAny4, x_wh1, x_wh2, x_wh0, x_abs, vI_ii, vI_ib, vI_it, vI_il, vI_is, vI_bb, vI_bi, vI_tt, vI_tl, vI_ti, vI_ll, vI_lt, vI_ss, vEqB, vNeB, x_ta, x_ta1, x_ta2, x_ta3, x_ta4, x_ta5, x_is, nc_0, nc_1, nc_2, nc_3, nc_4, nc_5, nc_6, nc_7, nc_8, nc_9, nc_10, nc_11, vMax2, vMin2, vIsN0, vIsN1, vNotN0, vNotN1, vIsN2, vNotN2, x_lo, x_lo1, x_lo2, vAll2, vAny2, x_sl, x_sl1, x_sl2, x_pn, x_ps, x_ps1, x_cutL, x_cutC, vEqS, vNeS, x_fz_obj, x_fr_obj, x_make, x_meth, x_meth2, x_meth3, x_isO, x_isO1, x_cat, x_cat1, x_methZ, x_methZ2, x_methZ3, x_callZ, x_callZ1, x_lend1, x_lend2, x_cl_int, x_cl_bl, x_cl_str, x_cl_non, x_cl_tup, x_cl0, x_cl1, x_cl_lst, x_setIx, x_setIx1, x_setIx2, Option.map_some, List.getD_cons_zero, List.getD_cons_succ, List.set_cons_zero, List.set_cons_succ, List.map_cons, List.map_nil, List.replicate_zero, List.replicate_succ, List.length_cons, List.length_nil, List.cons_append, List.nil_append, Option.bind_some, if_true, if_false, Bool.false_eq_true, Nat.reduceSub, Nat.reduceAdd, Nat.reduceLeDiff, Nat.reduceLT, vAdd, vSub, vLt, vLe, vGt, vGe, vNeg, vEq, vNe, vEq2, vNe2, vMod, vDiv, vMul, vPow, Int.reduceToNat, vIx0, vIx1, vLenT, vLenC, vLenL, reduceIte, decide_true, decide_false, Bool.not_true, Bool.not_false, beq_self_eq_true, Bool.and_true, Bool.true_and, Bool.and_self, Bool.and_false, Bool.false_and]
    | minus i j =>
      refine ⟨.minus i j, trivial, hn0, ?_⟩
      refine seq ?_
      generalize cs.map D.int = C at *
      simp (disch := decide) only [Nd.d, we_minus_times, we_minus_power, x_seq, x_seq1, x_seq2, x_seq3, x_seq4, x_seq5, x_seq6, x_nil, x_if, x_if1, x_if2, x_if3, x_ret, x_ret1, x_ret2, x_ret3, x_retN, x_asg, x_asg1, x_asg2, x_asg3, x_asg4, x_asg5, x_gN, x_drop, x_drop1, x_drop2, x_bk, x_ct, x_raise, x_tZ, x_tZ1, x_tZ2, x_tE, x_tE1, x_tE2, x_tE3, x_tAnd, x_tAnd1, x_tAnd2, x_tAnd3, x_tOr, x_tOr1, x_tOr2, x_tOr3, x_tNot, x_tNot1, x_tNot2, x_tNot3, x_tTrue, x_z2, x_z21, x_z1, x_z11, x_zC, x_zC1, x_za, x_za1, x_za0, x_zV, x_zK, x_ch, x_ch1, x_ch2, x_eZ, x_eZ1, x_eZ2, x_eV, x_eV1, x_eM, x_eM1, x_b1, x_b2, x_b3, x_s1, x_s2, x_s3, x_oO, x_oO2, x_e2, x_e1, x_eC, x_aN, x_aC, x_tup, x_lst, x_call, x_oC1, x_oC2, x_call0, x_call01, x_eAnd, x_eAnd1, x_eOr, x_eOr1, x_eNot, x_eNot1, x_eIf, x_eIf1, x_fz_int, x_fr_int, x_fz_bl, x_fr_bl, x_fz_str, x_fr_str, x_fz_ty, x_fr_ty, x_fz_tup, x_fr_tup, x_fz_cst, x_fr_cst, x_fz_lst_false, x_fr_lst_false, x_fz_non, x_fr_non, x_fz_lt, x_fr_lt, x_fL0, x_fL1, x_cF, x_cR1, x_cR2, x_cR3, x_iL, x_iL1, x_iT, x_iT1, x_iS, x_iS1, x_iR1, x_iR11, x_iR2, x_iR21, x_iE, x_iE1, x_iV, x_iV1, x_iZ, x_iZ1, x_for, x_fo0, x_fo1, x_fo2, x_fo3, x_fo4, x_fo5, x_fo6, x_fo7, x_gT, x_gC, x_gC0, x_try, x_try1, x_try2, x_try3, x_try4, x_try5, x_nx1, x_nx2, x_try6, x_try7, x_nx3, x_nx4, x_app, x_app1, x_app2, x_lc, x_lcE, x_lc0, x_lc1, x_lcG, x_w0, x_w1, vMinL4, vMaxL4, vAll3, vAny3, vAll4, vAny4, x_wh1, x_wh2, x_wh0, x_abs, vI_ii, vI_ib, vI_it, vI_il, vI_is, vI_bb, vI_bi, vI_tt, vI_tl, vI_ti, vI_ll, vI_lt, vI_ss, vEqB, vNeB, x_ta, x_ta1, x_ta2, x_ta3, x_ta4, x_ta5, x_is, nc_0, nc_1, nc_2, nc_3, nc_4, nc_5, nc_6, nc_7, nc_8, nc_9, nc_10, nc_11, vMax2, vMin2, vIsN0, vIsN1, vNotN0, vNotN1, vIsN2, vNotN2, x_lo, x_lo1, x_lo2, vAll2, vAny2, x_sl, x_sl1, x_sl2, x_pn, x_ps, x_ps1, x_cutL, x_cutC, vEqS, vNeS, x_fz_obj, x_fr_obj, x_make, x_meth, x_meth2, x_meth3, x_isO, x_isO1, x_cat, x_cat1, x_methZ, x_methZ2, x_methZ3, x_callZ, x_callZ1, x_lend1, x_lend2, x_cl_int, x_cl_bl, x_cl_str, x_cl_non, x_cl_tup, x_cl0, x_cl1, x_cl_lst, x_setIx, x_setIx1, x_setIx2, Option.map_some, List.getD_cons_zero, List.getD_cons_succ, List.set_cons_zero, List.set_cons_succ, List.map_cons, List.map_nil, List.replicate_zero, List.replicate_succ, List.length_cons, List.length_nil, List.cons_append, List.nil_append, Option.bind_some, if_true, if_false, Bool.false_eq_true, Nat.reduceSub, Nat.reduceAdd, Nat.reduceLeDiff, Nat.reduceLT, vAdd, vSub, vLt, vLe, vGt, vGe, vNeg, vEq, vNe, vEq2, vNe2, vMod, vDiv, vMul, vPow, Int.reduceToNat, vIx0, vIx1, vLenT, vLenC, vLenL, reduceIte, decide_true, decide_false, Bool.not_true, Bool.not_false, beq_self_eq_true, Bool.and_true, Bool.true_and, Bool.and_self, Bool.and_false, Bool.false_and]
    | times i j =>
      obtain ⟨w, p, ew, ed⟩ := ix_pm (c / 16 % 2) (by omega)
      have vs := vMod (i := j) (j := N) (by omega)
      have hn0 : 0 ≤ i ∧ i < N ∧ 0 ≤ j ∧ j < N := hn0
      refine ⟨Nd.sum p i (j % N), sum_sm _ _ _, sum_B ⟨hn0.1, hn0.2.1, Int.emod_nonneg _ (by omega), Int.emod_lt_of_pos _ (by omega)⟩, ?_⟩
      refine seq ?_
      rw [← ed]
      generalize cs.map D.int = C at *
      cases m' <;> simp (disch := decide) only [Nd.d, vIxT2, we_times_times, we_times_power, x_seq, x_seq1, x_seq2, x_seq3, x_seq4, x_seq5, x_seq6, x_nil, x_if, x_if1, x_if2, x_if3, x_ret, x_ret1, x_ret2, x_ret3, x_retN, x_asg, x_asg1, x_asg2, x_asg3, x_asg4, x_asg5, x_gN, x_drop, x_drop1, x_drop2, x_bk, x_ct, x_raise, x_tZ, x_tZ1, x_tZ2, x_tE, x_tE1, x_tE2, x_tE3, x_tAnd, x_tAnd1, x_tAnd2, x_tAnd3, x_tOr, x_tOr1, x_tOr2, x_tOr3, x_tNot, x_tNot1, x_tNot2, x_tNot3, x_tTrue, x_z2, x_z21, x_z1, x_z11, x_zC, x_zC1, x_za, x_za1, x_za0, x_zV, x_zK, x_ch, x_ch1, x_ch2, x_eZ, x_eZ1, x_eZ2, x_eV, x_eV1, x_eM, x_eM1, x_b1, x_b2, x_b3, x_s1, x_s2, x_s3, x_oO, x_oO2, x_e2, x_e1, x_eC, x_aN, x_aC, x_tup, x_lst, x_call, x_oC1, x_oC2, x_call0, x_call01, x_eAnd, x_eAnd1, x_eOr, x_eOr1, x_eNot, x_eNot1, x_eIf, x_eIf1, x_fz_int, x_fr_int, x_fz_bl, x_fr_bl, x_fz_str, x_fr_str, x_fz_ty, x_fr_ty, x_fz_tup, x_fr_tup, x_fz_cst, x_fr_cst, x_fz_lst_false, x_fr_lst_false, x_fz_non, x_fr_non, x_fz_lt, x_fr_lt, x_fL0, x_fL1, x_cF, x_cR1, x_cR2, x_cR3, x_iL, x_iL1, x_iT, x_iT1, x_iS, x_iS1, x_iR1, x_iR11, x_iR2, x_iR21, x_iE, x_iE1, x_iV, x_iV1, x_iZ, x_iZ1, x_for, x_fo0, x_fo1, x_fo2, x_fo3, x_fo4, x_fo5, x_fo6, x_fo7, x_gT, x_gC, x_gC0, x_try, x_try1, x_try2, x_try3, x_try4, x_try5, x_nx1, x_nx2, x_try6, x_try7, x_nx3, x_nx4, x_app, x_app1, x_app2, x_lc, x_lcE, x_lc0, x_lc1, x_lcG, x_w0, x_w1, vMinL4, vMaxL4, vAll3, vAny3, vAll4, vAny4, x_wh1, x_wh2, x_wh0, x_abs, vI_ii, vI_ib, vI_it, vI_il, vI_is, vI_bb, vI_bi, vI_tt, vI_tl, vI_ti, vI_ll, vI_lt, vI_ss, vEqB, vNeB, x_ta, x_ta1, x_ta2, x_ta3, x_ta4, x_ta5, x_is, nc_0, nc_1, nc_2, nc_3, nc_4, nc_5, nc_6, nc_7, nc_8, nc_9, nc_10, nc_11, vMax2, vMin2, vIsN0, vIsN1, vNotN0, vNotN1, vIsN2, vNotN2, x_lo, x_lo1, x_lo2, vAll2, vAny2, x_sl, x_sl1, x_sl2, x_pn, x_ps, x_ps1, x_cutL, x_cutC, vEqS, vNeS, x_fz_obj, x_fr_obj, x_make, x_meth, x_meth2, x_meth3, x_isO, x_isO1, x_cat, x_cat1, x_methZ, x_methZ2, x_methZ3, x_callZ, x_callZ1, x_lend1, x_lend2, x_cl_int, x_cl_bl, x_cl_str, x_cl_non, x_cl_tup, x_cl0, x_cl1, x_cl_lst, x_setIx, x_setIx1, x_setIx2, Option.map_some, List.getD_cons_zero, List.getD_cons_succ, List.set_cons_zero, List.set_cons_succ, List.map_cons, List.map_nil, List.replicate_zero, List.replicate_succ, List.length_cons, List.length_nil, List.cons_append, List.nil_append, Option.bind_some, if_true, if_false, Bool.false_eq_true, Nat.reduceSub, Nat.reduceAdd, Nat.reduceLeDiff, Nat.reduceLT, vAdd, vSub, vLt, vLe, vGt, vGe, vNeg, vEq, vNe, vEq2, vNe2, vMod, vDiv, vMul, vPow, Int.reduceToNat, vIx0, vIx1, vLenT, vLenC, vLenL, reduceIte, decide_true, decide_false, Bool.not_true, Bool.not_false, beq_self_eq_true, Bool.and_true, Bool.true_and, Bool.and_self, Bool.and_false, Bool.false_and, ek, ew, lS, vs]
    | pow i j =>
      obtain ⟨w, p, ew, ed⟩ := ix_pm (c / 16 % 2) (by omega)
      have vs := vMod (i := j) (j := N) (by omega)
      have hn0 : 0 ≤ i ∧ i < N ∧ 2 ≤ j ∧ j ≤ 6 := hn0
      refine ⟨Nd.sum p i (j % N), sum_sm _ _ _, sum_B ⟨hn0.1, hn0.2.1, Int.emod_nonneg _ (by omega), Int.emod_lt_of_pos _ (by omega)⟩, ?_⟩
      refine seq ?_
      rw [← ed]
      generalize cs.map D.int = C at *
      cases m' <;> simp (disch := decide) only [Nd.d, vIxT2, we_power_times, we_power_power, x_seq, x_seq1, x_seq2, x_seq3, x_seq4, x_seq5, x_seq6, x_nil, x_if, x_if1, x_if2, x_if3, x_ret, x_ret1, x_ret2, x_ret3, x_retN, x_asg, x_asg1, x_asg2, x_asg3, x_asg4, x_asg5, x_gN, x_drop, x_drop1, x_drop2, x_bk, x_ct, x_raise, x_tZ, x_tZ1, x_tZ2, x_tE, x_tE1, x_tE2, x_tE3, x_tAnd, x_tAnd1, x_tAnd2, x_tAnd3, x_tOr, x_tOr1, x_tOr2, x_tOr3, x_tNot, x_tNot1, x_tNot2, x_tNot3, x_tTrue, x_z2, x_z21, x_z1, x_z11, x_zC, x_zC1, x_za, x_za1, x_za0, x_zV, x_zK, x_ch, x_ch1, x_ch2, x_eZ, x_eZ1, x_eZ2, x_eV, x_eV1, x_eM, x_eM1, x_b1, x_b2, x_b3, x_s1, x_s2, x_s3, x_oO, x_oO2, x_e2, x_e1, x_eC, x_aN, x_aC, x_tup, x_lst, x_call, x_oC1, x_oC2, x_call0, x_call01, x_eAnd, x_eAnd1, x_eOr, x_eOr1, x_eNot, x_eNot1, x_eIf, x_eIf1, x_fz_int, x_fr_int, x_fz_bl, x_fr_bl, x_fz_str, x_fr_str, x_fz_ty, x_fr_ty, x_fz_tup, x_fr_tup, x_fz_cst, x_fr_cst, x_fz_lst_false, x_fr_lst_false, x_fz_non, x_fr_non, x_fz_lt, x_fr_lt, x_fL0, x_fL1, x_cF, x_cR1, x_cR2, x_cR3, x_iL, x_iL1, x_iT, x_iT1, x_iS, x_iS1, x_iR1, x_iR11, x_iR2, x_iR21, x_iE, x_iE1, x_iV, x_iV1, x_iZ, x_iZ1, x_for, x_fo0, x_fo1, x_fo2, x_fo3, x_fo4, x_fo5, x_fo6, x_fo7, x_gT, x_gC, x_gC0, x_try, x_try1, x_try2, x_try3, x_try4, x_try5, x_nx1, x_nx2, x_try6, x_try7, x_nx3, x_nx4, x_app, x_app1, x_app2, x_lc, x_lcE, x_lc0, x_lc1, x_lcG, x_w0, x_w1, vMinL4, vMaxL4, vAll3, vAny3, vAll4, vAny4, x_wh1, x_wh2, x_wh0, x_abs, vI_ii, vI_ib, vI_it, vI_il, vI_is, vI_bb, vI_bi, vI_tt, vI_tl, vI_ti, vI_ll, vI_lt, vI_ss, vEqB, vNeB, x_ta, x_ta1, x_ta2, x_ta3, x_ta4, x_ta5, x_is, nc_0, nc_1, nc_2, nc_3, nc_4, nc_5, nc_6, nc_7, nc_8, nc_9, nc_10, nc_11, vMax2, vMin2, vIsN0, vIsN1, vNotN0, vNotN1, vIsN2, vNotN2, x_lo, x_lo1, x_lo2, vAll2, vAny2, x_sl, x_sl1, x_sl2, x_pn, x_ps, x_ps1, x_cutL, x_cutC, vEqS, vNeS, x_fz_obj, x_fr_obj, x_make, x_meth, x_meth2, x_meth3, x_isO, x_isO1, x_cat, x_cat1, x_methZ, x_methZ2, x_methZ3, x_callZ, x_callZ1, x_lend1, x_lend2, x_cl_int, x_cl_bl, x_cl_str, x_cl_non, x_cl_tup, x_cl0, x_cl1, x_cl_lst, x_setIx, x_setIx1, x_setIx2, Option.map_some, List.getD_cons_zero, List.getD_cons_succ, List.set_cons_zero, List.set_cons_succ, List.map_cons, List.map_nil, List.replicate_zero, List.replicate_succ, List.length_cons, List.length_nil, List.cons_append, List.nil_append, Option.bind_some, if_true, if_false, Bool.false_eq_true, Nat.reduceSub, Nat.reduceAdd, Nat.reduceLeDiff, Nat.reduceLT, vAdd, vSub, vLt, vLe, vGt, vGe, vNeg, vEq, vNe, vEq2, vNe2, vMod, vDiv, vMul, vPow, Int.reduceToNat, vIx0, vIx1, vLenT, vLenC, vLenL, reduceIte, decide_true, decide_false, Bool.not_true, Bool.not_false, beq_self_eq_true, Bool.and_true, Bool.true_and, Bool.and_self, Bool.and_false, Bool.false_and, ek, ew, lS, vs]
  have hB' : n.B ss.length M := by rw [lss]; exact hB
  obtain ⟨z, ez⟩ := here_ok (c := c / 64) (g := g) (B := B) hsm hB' hs
  rw [eS] at ez
  obtain ⟨R0, hR⟩ : ∃ R0, resB ss z n = R0 := ⟨_, rfl⟩
  have hfb := fb_ok (g := g) (z := z) hsm hB'
  obtain ⟨pr, hform⟩ := resB_ok ss z n
  rw [eS] at hfb
  rw [hR] at hfb pr hform
  obtain ⟨b, hbb⟩ : ∃ b, ((c / 8 + kk) % 2 == 0) = b := ⟨_, rfl⟩
  have o1 : ∀ m, gNe (.lst false S) (.lst m S) = some (.bl false) := fun m => vNeX (sp_Ok eS false) (sp_Ok eS m) (toP_lst _ _ _)
  have y1 := fz_sp1 z
  have y2 := fr_sp1 z
  have mb := @methB_ok n hsm
  -- the due
  have e5 : ∀ D0 : MS, ∀ r : SR, D0 [some scr, some (.lst false (cs.map D.int)), some (.int g), some (.int M), some (.lst false B), some (.int kk), some (.lst false S), x7, some n.d, some (spD z), some R0, x11, x12] = r → sSeq (sIf (tOr (tZ (z2 gEq (z2 gIx (zVar 8) (zC (.int 0))) (zC (.str "plus")))) (tZ (z2 gEq (z2 gIx (zVar 8) (zC (.int 0))) (zC (.str "minus"))))) (sAsg (eCall f__law_back_sum (aCons (eVar 8) (aCons (eVar 6) (aCons (eVar 9) aNil)))) (gN 10)) sNil) D0 [some scr, some (.lst false (cs.map D.int)), some (.int g), some (.int M), some (.lst false B), some (.int kk), some (.lst false S), x7, some n.d, some (spD z), some (.lst true []), x11, x12] = r := by
    have seq : ∀ {τa τb : Bn.Env} {a : MS}, a τa = .nx τb → ∀ D0 : MS, ∀ r : SR, D0 τb = r → sSeq a D0 τa = r := fun h D0 r e => x_seq_ok h e
    refine seq ?_
    cases n with
    | num t b =>
      have hR : D.lst true [] = R0 := hR
      rw [← hR]
      generalize cs.map D.int = C at *
      simp (disch := decide) only [Nd.d, we_number_plus, we_number_minus, x_seq, x_seq1, x_seq2, x_seq3, x_seq4, x_seq5, x_seq6, x_nil, x_if, x_if1, x_if2, x_if3, x_ret, x_ret1, x_ret2, x_ret3, x_retN, x_asg, x_asg1, x_asg2, x_asg3, x_asg4, x_asg5, x_gN, x_drop, x_drop1, x_drop2, x_bk, x_ct, x_raise, x_tZ, x_tZ1, x_tZ2, x_tE, x_tE1, x_tE2, x_tE3, x_tAnd, x_tAnd1, x_tAnd2, x_tAnd3, x_tOr, x_tOr1, x_tOr2, x_tOr3, x_tNot, x_tNot1, x_tNot2, x_tNot3, x_tTrue, x_z2, x_z21, x_z1, x_z11, x_zC, x_zC1, x_za, x_za1, x_za0, x_zV, x_zK, x_ch, x_ch1, x_ch2, x_eZ, x_eZ1, x_eZ2, x_eV, x_eV1, x_eM, x_eM1, x_b1, x_b2, x_b3, x_s1, x_s2, x_s3, x_oO, x_oO2, x_e2, x_e1, x_eC, x_aN, x_aC, x_tup, x_lst, x_call, x_oC1, x_oC2, x_call0, x_call01, x_eAnd, x_eAnd1, x_eOr, x_eOr1, x_eNot, x_eNot1, x_eIf, x_eIf1, x_fz_int, x_fr_int, x_fz_bl, x_fr_bl, x_fz_str, x_fr_str, x_fz_ty, x_fr_ty, x_fz_tup, x_fr_tup, x_fz_cst, x_fr_cst, x_fz_lst_false, x_fr_lst_false, x_fz_non, x_fr_non, x_fz_lt, x_fr_lt, x_fL0, x_fL1, x_cF, x_cR1, x_cR2, x_cR3, x_iL, x_iL1, x_iT, x_iT1, x_iS, x_iS1, x_iR1, x_iR11, x_iR2, x_iR21, x_iE, x_iE1, x_iV, x_iV1, x_iZ, x_iZ1, x_for, x_fo0, x_fo1, x_fo2, x_fo3, x_fo4, x_fo5, x_fo6, x_fo7, x_gT, x_gC, x_gC0, x_try, x_try1, x_try2, x_try3, x_try4, x_try5, x_nx1, x_nx2, x_try6, x_try7, x_nx3, x_nx4, x_app, x_app1, x_app2, x_lc, x_lcE, x_lc0, x_lc1, x_lcG, x_w0, x_w1, vMinL4, vMaxL4, vAll3, vAny3, vAll4, vAny4, x_wh1, x_wh2, x_wh0, x_abs, vI_ii, vI_ib, vI_it, vI_il, vI_is, vI_bb, vI_bi, vI_tt, vI_tl, vI_ti, vI_ll, vI_lt, vI_ss, vEqB, vNeB, x_ta, x_ta1, x_ta2, x_ta3, x_ta4, x_ta5, x_is, nc_0, nc_1, nc_2, nc_3, nc_4, nc_5, nc_6, nc_7, nc_8, nc_9, nc_10, nc_11, vMax2, vMin2, vIsN0, vIsN1, vNotN0, vNotN1, vIsN2, vNotN2, x_lo, x_lo1, x_lo2, vAll2, vAny2, x_sl, x_sl1, x_sl2, x_pn, x_ps, x_ps1, x_cutL, x_cutC, vEqS, vNeS, x_fz_obj, x_fr_obj, x_make, x_meth, x_meth2, x_meth3, x_isO, x_isO1, x_cat, x_cat1, x_methZ, x_methZ2, x_methZ3, x_callZ, x_callZ1, x_lend1, x_lend2, x_cl_int, x_cl_bl, x_cl_str, x_cl_non, x_cl_tup, x_cl0, x_cl1, x_cl_lst, x_setIx, x_setIx1, x_setIx2, Option.map_some, List.getD_cons_zero, List.getD_cons_succ, List.set_cons_zero, List.set_cons_succ, List.map_cons, List.map_nil, List.replicate_zero, List.replicate_succ, List.length_cons, List.length_nil, List.cons_append, List.nil_append, Option.bind_some, if_true, if_false, Bool.false_eq_true, Nat.reduceSub, Nat.reduceAdd, Nat.reduceLeDiff, Nat.reduceLT, vAdd, vSub, vLt, vLe, vGt, vGe, vNeg, vEq, vNe, vEq2, vNe2, vMod, vDiv, vMul, vPow, Int.reduceToNat, vIx0, vIx1, vLenT, vLenC, vLenL, reduceIte, decide_true, decide_false, Bool.not_true, Bool.not_false, beq_self_eq_true, Bool.and_true, Bool.true_and, Bool.and_self, Bool.and_false, Bool.false_and]
    | unk j =>
      have hR : D.lst true [] = R0 := hR
      rw [← hR]
      generalize cs.map D.int = C at *
      simp (disch := decide) only [Nd.d, we_unknown_plus, we_unknown_minus, x_seq, x_seq1, x_seq2, x_seq3, x_seq4, x_seq5, x_seq6, x_nil, x_if, x_if1, x_if2, x_if3, x_ret, x_ret1, x_ret2, x_ret3, x_retN, x_asg, x_asg1, x_asg2, x_asg3, x_asg4, x_asg5, x_gN, x_drop, x_drop1, x_drop2, x_bk, x_ct, x_raise, x_tZ, x_tZ1, x_tZ2, x_tE, x_tE1, x_tE2, x_tE3, x_tAnd, x_tAnd1, x_tAnd2, x_tAnd3, x_tOr, x_tOr1, x_tOr2, x_tOr3, x_tNot, x_tNot1, x_tNot2, x_tNot3, x_tTrue, x_z2, x_z21, x_z1, x_z11, x_zC, x_zC1, x_za, x_za1, x_za0, x_zV, x_zK, x_ch, x_ch1, x_ch2, x_eZ, x_eZ1, x_eZ2, x_eV, x_eV1, x_eM, x_eM1, x_b1, x_b2, x_b3, x_s1, x_s2, x_s3, x_oO, x_oO2, x_e2, x_e1, x_eC, x_aN, x_aC, x_tup, x_lst, x_call, x_oC1, x_oC2, x_call0, x_call01, x_eAnd, x_eAnd1, x_eOr, x_eOr1, x_eNot, x_eNot1, x_eIf, x_eIf1, x_fz_int, x_fr_int, x_fz_bl, x_fr_bl, x_fz_str, x_fr_str, x_fz_ty, x_fr_ty, x_fz_tup, x_fr_tup, x_fz_cst, x_fr_cst, x_fz_lst_false, x_fr_lst_false, x_fz_non, x_fr_non, x_fz_lt, x_fr_lt, x_fL0, x_fL1, x_cF, x_cR1, x_cR2, x_cR3, x_iL, x_iL1, x_iT, x_iT1, x_iS, x_iS1, x_iR1, x_iR11, x_iR2, x_iR21, x_iE, x_iE1, x_iV, x_iV1, x_iZ, x_iZ1, x_for, x_fo0, x_fo1, x_fo2, x_fo3, x_fo4, x_fo5, x_fo6, x_fo7, x_gT, x_gC, x_gC0, x_try, x_try1, x_try2, x_try3, x_try4, x_try5, x_nx1, x_nx2, x_try6, x_try7, x_nx3, x_nx4, x_app, x_app1, x_app2, x_lc, x_lcE, x_lc0, x_lc1, x_lcG, x_w0, x_w1, vMinL4, vMaxL4, vAll3, vAny3, vAll4, vAny4, x_wh1, x_wh2, x_wh0, x_abs, vI_ii, vI_ib, vI_it, vI_il, vI_is, vI_bb, vI_bi, vI_tt, vI_tl, vI_ti, vI_ll, vI_lt, vI_ss, vEqB, vNeB, x_ta, x_ta1, x_ta2, x_ta3, x_ta4, x_ta5, x_is, nc_0, nc_1, nc_2, nc_3, nc_4, nc_5, nc_6, nc_7, nc_8, nc_9, nc_10, nc_11, vMax2, vMin2, vIsN0, vIsN1, vNotN0, vNotN1, vIsN2, vNotN2, x_lo, x_lo1, x_lo2, vAll2, vAny2, x_sl, x_sl1, x_sl2, x_pn, x_ps, x_ps1, x_cutL, x_cutC, vEqS, vNeS, x_fz_obj, x_fr_obj, x_make, x_meth, x_meth2, x_meth3, x_isO, x_isO1, x_cat, x_cat1, x_methZ, x_methZ2, x_methZ3, x_callZ, x_callZ1, x_lend1, x_lend2, x_cl_int, x_cl_bl, x_cl_str, x_cl_non, x_cl_tup, x_cl0, x_cl1, x_cl_lst, x_setIx, x_setIx1, x_setIx2, Option.map_some, List.getD_cons_zero, List.getD_cons_succ, List.set_cons_zero, List.set_cons_succ, List.map_cons, List.map_nil, List.replicate_zero, List.replicate_succ, List.length_cons, List.length_nil, List.cons_append, List.nil_append, Option.bind_some, if_true, if_false, Bool.false_eq_true, Nat.reduceSub, Nat.reduceAdd, Nat.reduceLeDiff, Nat.reduceLT, vAdd, vSub, vLt, vLe, vGt, vGe, vNeg, vEq, vNe, vEq2, vNe2, vMod, vDiv, vMul, vPow, Int.reduceToNat, vIx0, vIx1, vLenT, vLenC, vLenL, reduceIte, decide_true, decide_false, Bool.not_true, Bool.not_false, beq_self_eq_true, Bool.and_true, Bool.true_and, Bool.and_self, Bool.and_false, Bool.false_and]
    | plus i j =>
      obtain ⟨i0, i1, j0, j1⟩ := hB'
      have e := law_back_ok (plus := true) (m := false) (S := ss.map spD) (z := z) (ix_pt i0 i1 false) (ix_pt j0 j1 false)
      rw [eS, show bkD i j (bk true (i == j) z (pt ss i) (pt ss j)) = R0 from hR, show (Nd.sum true i j).d = .tup [.str "plus", .int i, .int j] from rfl] at e
      generalize cs.map D.int = C at *
      generalize spD z = Z at *
      simp (disch := decide) only [Nd.d, we_plus_plus, x_seq, x_seq1, x_seq2, x_seq3, x_seq4, x_seq5, x_seq6, x_nil, x_if, x_if1, x_if2, x_if3, x_ret, x_ret1, x_ret2, x_ret3, x_retN, x_asg, x_asg1, x_asg2, x_asg3, x_asg4, x_asg5, x_gN, x_drop, x_drop1, x_drop2, x_bk, x_ct, x_raise, x_tZ, x_tZ1, x_tZ2, x_tE, x_tE1, x_tE2, x_tE3, x_tAnd, x_tAnd1, x_tAnd2, x_tAnd3, x_tOr, x_tOr1, x_tOr2, x_tOr3, x_tNot, x_tNot1, x_tNot2, x_tNot3, x_tTrue, x_z2, x_z21, x_z1, x_z11, x_zC, x_zC1, x_za, x_za1, x_za0, x_zV, x_zK, x_ch, x_ch1, x_ch2, x_eZ, x_eZ1, x_eZ2, x_eV, x_eV1, x_eM, x_eM1, x_b1, x_b2, x_b3, x_s1, x_s2, x_s3, x_oO, x_oO2, x_e2, x_e1, x_eC, x_aN, x_aC, x_tup, x_lst, x_call, x_oC1, x_oC2, x_call0, x_call01, x_eAnd, x_eAnd1, x_eOr, x_eOr1, x_eNot, x_eNot1, x_eIf, x_eIf1, x_fz_int, x_fr_int, x_fz_bl, x_fr_bl, x_fz_str, x_fr_str, x_fz_ty, x_fr_ty, x_fz_tup, x_fr_tup, x_fz_cst, x_fr_cst, x_fz_lst_false, x_fr_lst_false, x_fz_non, x_fr_non, x_fz_lt, x_fr_lt, x_fL0, x_fL1, x_cF, x_cR1, x_cR2, x_cR3, x_iL, x_iL1, x_iT, x_iT1, x_iS, x_iS1, x_iR1, x_iR11, x_iR2, x_iR21, x_iE, x_iE1, x_iV, x_iV1, x_iZ, x_iZ1, x_for, x_fo0, x_fo1, x_fo2, x_fo3, x_fo4, x_fo5, x_fo6, x_fo7, x_gT, x_gC, x_gC0, x_try, x_try1, x_try2, x_try3, x_try4, x_try5, x_nx1, x_nx2, x_try6, x_try7, x_nx3, x_nx4, x_app, x_app1, x_app2, x_lc, x_lcE, x_lc0, x_lc1, x_lcG, x_w0, x_w1, vMinL4, vMaxL4, vAll3, vAny3, vAll4, vAny4, x_wh1, x_wh2, x_wh0, x_abs, vI_ii, vI_ib, vI_it, vI_il, vI_is, vI_bb, vI_bi, vI_tt, vI_tl, vI_ti, vI_ll, vI_lt, vI_ss, vEqB, vNeB, x_ta, x_ta1, x_ta2, x_ta3, x_ta4, x_ta5, x_is, nc_0, nc_1, nc_2, nc_3, nc_4, nc_5, nc_6, nc_7, nc_8, nc_9, nc_10, nc_11, vMax2, vMin2, vIsN0, vIsN1, vNotN0, vNotN1, vIsN2, vNotN2, x_lo, x_lo1, x_lo2, vAll2, vAny2, x_sl, x_sl1, x_sl2, x_pn, x_ps, x_ps1, x_cutL, x_cutC, vEqS, vNeS, x_fz_obj, x_fr_obj, x_make, x_meth, x_meth2, x_meth3, x_isO, x_isO1, x_cat, x_cat1, x_methZ, x_methZ2, x_methZ3, x_callZ, x_callZ1, x_lend1, x_lend2, x_cl_int, x_cl_bl, x_cl_str, x_cl_non, x_cl_tup, x_cl0, x_cl1, x_cl_lst, x_setIx, x_setIx1, x_setIx2, Option.map_some, List.getD_cons_zero, List.getD_cons_succ, List.set_cons_zero, List.set_cons_succ, List.map_cons, List.map_nil, List.replicate_zero, List.replicate_succ, List.length_cons, List.length_nil, List.cons_append, List.nil_append, Option.bind_some, if_true, if_false, Bool.false_eq_true, Nat.reduceSub, Nat.reduceAdd, Nat.reduceLeDiff, Nat.reduceLT, vAdd, vSub, vLt, vLe, vGt, vGe, vNeg, vEq, vNe, vEq2, vNe2, vMod, vDiv, vMul, vPow, Int.reduceToNat, vIx0, vIx1, vLenT, vLenC, vLenL, reduceIte, decide_true, decide_false, Bool.not_true, Bool.not_false, beq_self_eq_true, Bool.and_true, Bool.true_and, Bool.and_self, Bool.and_false, Bool.false_and, y1, y2, e]
    | minus i j =>
      obtain ⟨i0, i1, j0, j1⟩ := hB'
      have e := law_back_ok (plus := false) (m := false) (S := ss.map spD) (z := z) (ix_pt i0 i1 false) (ix_pt j0 j1 false)
      rw [eS, show bkD i j (bk false (i == j) z (pt ss i) (pt ss j)) = R0 from hR, show (Nd.sum false i j).d = .tup [.str "minus", .int i, .int j] from rfl] at e
      generalize cs.map D.int = C at *
      generalize spD z = Z at *
      simp (disch := decide) only [Nd.d, we_minus_plus, we_minus_minus, x_seq, x_seq1, x_seq2, x_seq3, x_seq4, x_seq5, x_seq6, x_nil, x_if, x_if1, x_if2, x_if3, x_ret, x_ret1, x_ret2, x_ret3, x_retN, x_asg, x_asg1, x_asg2, x_asg3, x_asg4, x_asg5, x_gN, x_drop, x_drop1, x_drop2, x_bk, x_ct, x_raise, x_tZ, x_tZ1, x_tZ2, x_tE, x_tE1, x_tE2, x_tE3, x_tAnd, x_tAnd1, x_tAnd2, x_tAnd3, x_tOr, x_tOr1, x_tOr2, x_tOr3, x_tNot, x_tNot1, x_tNot2, x_tNot3, x_tTrue, x_z2, x_z21, x_z1, x_z11, x_zC, x_zC1, x_za, x_za1, x_za0, x_zV, x_zK, x_ch, x_ch1, x_ch2, x_eZ, x_eZ1, x_eZ2, x_eV, x_eV1, x_eM, x_eM1, x_b1, x_b2, x_b3, x_s1, x_s2, x_s3, x_oO, x_oO2, x_e2, x_e1, x_eC, x_aN, x_aC, x_tup, x_lst, x_call, x_oC1, x_oC2, x_call0, x_call01, x_eAnd, x_eAnd1, x_eOr, x_eOr1, x_eNot, x_eNot1, x_eIf, x_eIf1, x_fz_int, x_fr_int, x_fz_bl, x_fr_bl, x_fz_str, x_fr_str, x_fz_ty, x_fr_ty, x_fz_tup, x_fr_tup, x_fz_cst, x_fr_cst, x_fz_lst_false, x_fr_lst_false, x_fz_non, x_fr_non, x_fz_lt, x_fr_lt, x_fL0, x_fL1, x_cF, x_cR1, x_cR2, x_cR3, x_iL, x_iL1, x_iT, x_iT1, x_iS, x_iS1, x_iR1, x_iR11, x_iR2, x_iR21, x_iE, x_iE1, x_iV, x_iV1, x_iZ, x_iZ1, x_for, x_fo0, x_fo1, x_fo2, x_fo3, x_fo4, x_fo5, x_fo6, x_fo7, x_gT, x_gC, x_gC0, x_try, x_try1, x_try2, x_try3, x_try4, x_try5, x_nx1, x_nx2, x_try6, x_try7, x_nx3, x_nx4, x_app, x_app1, x_app2, x_lc, x_lcE, x_lc0, x_lc1, x_lcG, x_w0, x_w1, vMinL4, vMaxL4, vAll3, vAny3, vAll4, vAny4, x_wh1, x_wh2, x_wh0, x_abs, vI_ii, vI_ib, vI_it, vI_il, vI_is, vI_bb, vI_bi, vI_tt, vI_tl, vI_ti, vI_ll, vI_lt, vI_ss, vEqB, vNeB, x_ta, x_ta1, x_ta2, x_ta3, x_ta4, x_ta5, x_is, nc_0, nc_1, nc_2, nc_3, nc_4, nc_5, nc_6, nc_7, nc_8, nc_9, nc_10, nc_11, vMax2, vMin2, vIsN0, vIsN1, vNotN0, vNotN1, vIsN2, vNotN2, x_lo, x_lo1, x_lo2, vAll2, vAny2, x_sl, x_sl1, x_sl2, x_pn, x_ps, x_ps1, x_cutL, x_cutC, vEqS, vNeS, x_fz_obj, x_fr_obj, x_make, x_meth, x_meth2, x_meth3, x_isO, x_isO1, x_cat, x_cat1, x_methZ, x_methZ2, x_methZ3, x_callZ, x_callZ1, x_lend1, x_lend2, x_cl_int, x_cl_bl, x_cl_str, x_cl_non, x_cl_tup, x_cl0, x_cl1, x_cl_lst, x_setIx, x_setIx1, x_setIx2, Option.map_some, List.getD_cons_zero, List.getD_cons_succ, List.set_cons_zero, List.set_cons_succ, List.map_cons, List.map_nil, List.replicate_zero, List.replicate_succ, List.length_cons, List.length_nil, List.cons_append, List.nil_append, Option.bind_some, if_true, if_false, Bool.false_eq_true, Nat.reduceSub, Nat.reduceAdd, Nat.reduceLeDiff, Nat.reduceLT, vAdd, vSub, vLt, vLe, vGt, vGe, vNeg, vEq, vNe, vEq2, vNe2, vMod, vDiv, vMul, vPow, Int.reduceToNat, vIx0, vIx1, vLenT, vLenC, vLenL, reduceIte, decide_true, decide_false, Bool.not_true, Bool.not_false, beq_self_eq_true, Bool.and_true, Bool.true_and, Bool.and_self, Bool.and_false, Bool.false_and, y1, y2, e]
    | pow i j => exact hsm.elim
    | times i j => exact hsm.elim
  refine ⟨_, [some scr, some (.lst false (cs.map D.int)), some (.int g), some (.int M), some (.lst false B), some (.int kk), some (.lst false S), x7, some n.d, some (spD z), some (freeze R0), some n.o, some (.lst false S)], x_gN, .inl ?_, ⟨_, _, _, _, _, _, _, _, _, rfl⟩⟩
  clear hs hb hR hM hN lss hB hB' hn0
  generalize cs.map D.int = C at *
  refine x_seq_ok (τ1 := [some scr, some (.lst false C), some (.int g), some (.int M), some (.lst m B), some (.int kk), some (.lst m' S), x7, some n0.d, x9, x10, x11, x12]) ?_ (en2 _ _ (x_seq_ok (τ1 := [some scr, some (.lst false C), some (.int g), some (.int M), some (.lst false B), some (.int kk), some (.lst false S), x7, some n.d, some (spD z), x10, x11, x12]) ?_ (x_seq_ok (τ1 := [some scr, some (.lst false C), some (.int g), some (.int M), some (.lst false B), some (.int kk), some (.lst false S), x7, some n.d, some (spD z), some (.lst true []), x11, x12]) ?_ (e5 _ _ (x_seq_ok (τ1 := [some scr, some (.lst false C), some (.int g), some (.int M), some (.lst false B), some (.int kk), some (.lst false S), x7, some n.d, some (spD z), some R0, some n.o, x12]) ?_ (x_seq_ok (τ1 := [some scr, some (.lst false C), some (.int g), some (.int M), some (.lst false B), some (.int kk), some (.lst false S), x7, some n.d, some (spD z), some R0, some n.o, some (.lst true S)]) ?_ (x_seq_ok (τ1 := [some scr, some (.lst false C), some (.int g), some (.int M), some (.lst false B), some (.int kk), some (.lst false S), x7, some n.d, some (spD z), some (freeze R0), some n.o, some (.lst false S)]) ?_ ?_)))))))
  · cases m' <;> simp (disch := decide) only [x_seq, x_seq1, x_seq2, x_seq3, x_seq4, x_seq5, x_seq6, x_nil, x_if, x_if1, x_if2, x_if3, x_ret, x_ret1, x_ret2, x_ret3, x_retN, x_asg, x_asg1, x_asg2, x_asg3, x_asg4, x_asg5, x_gN, x_drop, x_drop1, x_drop2, x_bk, x_ct, x_raise, x_tZ, x_tZ1, x_tZ2, x_tE, x_tE1, x_tE2, x_tE3, x_tAnd, x_tAnd1, x_tAnd2, x_tAnd3, x_tOr, x_tOr1, x_tOr2, x_tOr3, x_tNot, x_tNot1, x_tNot2, x_tNot3, x_tTrue, x_z2, x_z21, x_z1, x_z11, x_zC, x_zC1, x_za, x_za1, x_za0, x_zV, x_zK, x_ch, x_ch1, x_ch2, x_eZ, x_eZ1, x_eZ2, x_eV, x_eV1, x_eM, x_eM1, x_b1, x_b2, x_b3, x_s1, x_s2, x_s3, x_oO, x_oO2, x_e2, x_e1, x_eC, x_aN, x_aC, x_tup, x_lst, x_call, x_oC1, x_oC2, x_call0, x_call01, x_eAnd, x_eAnd1, x_eOr, x_eOr1, x_eNot, x_eNot1, x_eIf, x_eIf1, x_fz_int, x_fr_int, x_fz_bl, x_fr_bl, x_fz_str, x_fr_str, x_fz_ty, x_fr_ty, x_fz_tup, x_fr_tup, x_fz_cst, x_fr_cst, x_fz_lst_false, x_fr_lst_false, x_fz_non, x_fr_non, x_fz_lt, x_fr_lt, x_fL0, x_fL1, x_cF, x_cR1, x_cR2, x_cR3, x_iL, x_iL1, x_iT, x_iT1, x_iS, x_iS1, x_iR1, x_iR11, x_iR2, x_iR21, x_iE, x_iE1, x_iV, x_iV1, x_iZ, x_iZ1, x_for, x_fo0, x_fo1, x_fo2, x_fo3, x_fo4, x_fo5, x_fo6, x_fo7, x_gT, x_gC, x_gC0, x_try, x_try1, x_try2, x_try3, x_try4, x_try5, x_nx1, x_nx2, x_try6, x_try7, x_nx3, x_nx4, x_app, x_app1, x_app2, x_lc, x_lcE, x_lc0, x_lc1, x_lcG, x_w0, x_w1, vMinL4, vMaxL4, vAll3, vAny3, vAll4, vAny4, x_wh1, x_wh2, x_wh0, x_abs, vI_ii, vI_ib, vI_it, vI_il, vI_is, vI_bb, vI_bi, vI_tt, vI_tl, vI_ti, vI_ll, vI_lt, vI_ss, vEqB, vNeB, x_ta, x_ta1, x_ta2, x_ta3, x_ta4, x_ta5, x_is, nc_0, nc_1, nc_2, nc_3, nc_4, nc_5, nc_6, nc_7, nc_8, nc_9, nc_10, nc_11, vMax2, vMin2, vIsN0, vIsN1, vNotN0, vNotN1, vIsN2, vNotN2, x_lo, x_lo1, x_lo2, vAll2, vAny2, x_sl, x_sl1, x_sl2, x_pn, x_ps, x_ps1, x_cutL, x_cutC, vEqS, vNeS, x_fz_obj, x_fr_obj, x_make, x_meth, x_meth2, x_meth3, x_isO, x_isO1, x_cat, x_cat1, x_methZ, x_methZ2, x_methZ3, x_callZ, x_callZ1, x_lend1, x_lend2, x_cl_int, x_cl_bl, x_cl_str, x_cl_non, x_cl_tup, x_cl0, x_cl1, x_cl_lst, x_setIx, x_setIx1, x_setIx2, Option.map_some, List.getD_cons_zero, List.getD_cons_succ, List.set_cons_zero, List.set_cons_succ, List.map_cons, List.map_nil, List.replicate_zero, List.replicate_succ, List.length_cons, List.length_nil, List.cons_append, List.nil_append, Option.bind_some, if_true, if_false, Bool.false_eq_true, Nat.reduceSub, Nat.reduceAdd, Nat.reduceLeDiff, Nat.reduceLT, vAdd, vSub, vLt, vLe, vGt, vGe, vNeg, vEq, vNe, vEq2, vNe2, vMod, vDiv, vMul, vPow, Int.reduceToNat, vIx0, vIx1, vLenT, vLenC, vLenL, reduceIte, decide_true, decide_false, Bool.not_true, Bool.not_false, beq_self_eq_true, Bool.and_true, Bool.true_and, Bool.and_self, Bool.and_false, Bool.false_and, ek, en, lS]
  · generalize spD z = Z at *
    cases m <;> cases m' <;> simp (disch := decide) only [x_seq, x_seq1, x_seq2, x_seq3, x_seq4, x_seq5, x_seq6, x_nil, x_if, x_if1, x_if2, x_if3, x_ret, x_ret1, x_ret2, x_ret3, x_retN, x_asg, x_asg1, x_asg2, x_asg3, x_asg4, x_asg5, x_gN, x_drop, x_drop1, x_drop2, x_bk, x_ct, x_raise, x_tZ, x_tZ1, x_tZ2, x_tE, x_tE1, x_tE2, x_tE3, x_tAnd, x_tAnd1, x_tAnd2, x_tAnd3, x_tOr, x_tOr1, x_tOr2, x_tOr3, x_tNot, x_tNot1, x_tNot2, x_tNot3, x_tTrue, x_z2, x_z21, x_z1, x_z11, x_zC, x_zC1, x_za, x_za1, x_za0, x_zV, x_zK, x_ch, x_ch1, x_ch2, x_eZ, x_eZ1, x_eZ2, x_eV, x_eV1, x_eM, x_eM1, x_b1, x_b2, x_b3, x_s1, x_s2, x_s3, x_oO, x_oO2, x_e2, x_e1, x_eC, x_aN, x_aC, x_tup, x_lst, x_call, x_oC1, x_oC2, x_call0, x_call01, x_eAnd, x_eAnd1, x_eOr, x_eOr1, x_eNot, x_eNot1, x_eIf, x_eIf1, x_fz_int, x_fr_int, x_fz_bl, x_fr_bl, x_fz_str, x_fr_str, x_fz_ty, x_fr_ty, x_fz_tup, x_fr_tup, x_fz_cst, x_fr_cst, x_fz_lst_false, x_fr_lst_false, x_fz_non, x_fr_non, x_fz_lt, x_fr_lt, x_fL0, x_fL1, x_cF, x_cR1, x_cR2, x_cR3, x_iL, x_iL1, x_iT, x_iT1, x_iS, x_iS1, x_iR1, x_iR11, x_iR2, x_iR21, x_iE, x_iE1, x_iV, x_iV1, x_iZ, x_iZ1, x_for, x_fo0, x_fo1, x_fo2, x_fo3, x_fo4, x_fo5, x_fo6, x_fo7, x_gT, x_gC, x_gC0, x_try, x_try1, x_try2, x_try3, x_try4, x_try5, x_nx1, x_nx2, x_try6, x_try7, x_nx3, x_nx4, x_app, x_app1, x_app2, x_lc, x_lcE, x_lc0, x_lc1, x_lcG, x_w0, x_w1, vMinL4, vMaxL4, vAll3, vAny3, vAll4, vAny4, x_wh1, x_wh2, x_wh0, x_abs, vI_ii, vI_ib, vI_it, vI_il, vI_is, vI_bb, vI_bi, vI_tt, vI_tl, vI_ti, vI_ll, vI_lt, vI_ss, vEqB, vNeB, x_ta, x_ta1, x_ta2, x_ta3, x_ta4, x_ta5, x_is, nc_0, nc_1, nc_2, nc_3, nc_4, nc_5, nc_6, nc_7, nc_8, nc_9, nc_10, nc_11, vMax2, vMin2, vIsN0, vIsN1, vNotN0, vNotN1, vIsN2, vNotN2, x_lo, x_lo1, x_lo2, vAll2, vAny2, x_sl, x_sl1, x_sl2, x_pn, x_ps, x_ps1, x_cutL, x_cutC, vEqS, vNeS, x_fz_obj, x_fr_obj, x_make, x_meth, x_meth2, x_meth3, x_isO, x_isO1, x_cat, x_cat1, x_methZ, x_methZ2, x_methZ3, x_callZ, x_callZ1, x_lend1, x_lend2, x_cl_int, x_cl_bl, x_cl_str, x_cl_non, x_cl_tup, x_cl0, x_cl1, x_cl_lst, x_setIx, x_setIx1, x_setIx2, Option.map_some, List.getD_cons_zero, List.getD_cons_succ, List.set_cons_zero, List.set_cons_succ, List.map_cons, List.map_nil, List.replicate_zero, List.replicate_succ, List.length_cons, List.length_nil, List.cons_append, List.nil_append, Option.bind_some, if_true, if_false, Bool.false_eq_true, Nat.reduceSub, Nat.reduceAdd, Nat.reduceLeDiff, Nat.reduceLT, vAdd, vSub, vLt, vLe, vGt, vGe, vNeg, vEq, vNe, vEq2, vNe2, vMod, vDiv, vMul, vPow, Int.reduceToNat, vIx0, vIx1, vLenT, vLenC, vLenL, reduceIte, decide_true, decide_false, Bool.not_true, Bool.not_false, beq_self_eq_true, Bool.and_true, Bool.true_and, Bool.and_self, Bool.and_false, Bool.false_and, ek, Nd.fz, Nd.fr, fS, fB, ez]
  · simp (disch := decide) only [x_seq, x_seq1, x_seq2, x_seq3, x_seq4, x_seq5, x_seq6, x_nil, x_if, x_if1, x_if2, x_if3, x_ret, x_ret1, x_ret2, x_ret3, x_retN, x_asg, x_asg1, x_asg2, x_asg3, x_asg4, x_asg5, x_gN, x_drop, x_drop1, x_drop2, x_bk, x_ct, x_raise, x_tZ, x_tZ1, x_tZ2, x_tE, x_tE1, x_tE2, x_tE3, x_tAnd, x_tAnd1, x_tAnd2, x_tAnd3, x_tOr, x_tOr1, x_tOr2, x_tOr3, x_tNot, x_tNot1, x_tNot2, x_tNot3, x_tTrue, x_z2, x_z21, x_z1, x_z11, x_zC, x_zC1, x_za, x_za1, x_za0, x_zV, x_zK, x_ch, x_ch1, x_ch2, x_eZ, x_eZ1, x_eZ2, x_eV, x_eV1, x_eM, x_eM1, x_b1, x_b2, x_b3, x_s1, x_s2, x_s3, x_oO, x_oO2, x_e2, x_e1, x_eC, x_aN, x_aC, x_tup, x_lst, x_call, x_oC1, x_oC2, x_call0, x_call01, x_eAnd, x_eAnd1, x_eOr, x_eOr1, x_eNot, x_eNot1, x_eIf, x_eIf1, x_fz_int, x_fr_int, x_fz_bl, x_fr_bl, x_fz_str, x_fr_str, x_fz_ty, x_fr_ty, x_fz_tup, x_fr_tup, x_fz_cst, x_fr_cst, x_fz_lst_false, x_fr_lst_false, x_fz_non, x_fr_non, x_fz_lt, x_fr_lt, x_fL0, x_fL1, x_cF, x_cR1, x_cR2, x_cR3, x_iL, x_iL1, x_iT, x_iT1, x_iS, x_iS1, x_iR1, x_iR11, x_iR2, x_iR21, x_iE, x_iE1, x_iV, x_iV1, x_iZ, x_iZ1, x_for, x_fo0, x_fo1, x_fo2, x_fo3, x_fo4, x_fo5, x_fo6, x_fo7, x_gT, x_gC, x_gC0, x_try, x_try1, x_try2, x_try3, x_try4, x_try5, x_nx1, x_nx2, x_try6, x_try7, x_nx3, x_nx4, x_app, x_app1, x_app2, x_lc, x_lcE, x_lc0, x_lc1, x_lcG, x_w0, x_w1, vMinL4, vMaxL4, vAll3, vAny3, vAll4, vAny4, x_wh1, x_wh2, x_wh0, x_abs, vI_ii, vI_ib, vI_it, vI_il, vI_is, vI_bb, vI_bi, vI_tt, vI_tl, vI_ti, vI_ll, vI_lt, vI_ss, vEqB, vNeB, x_ta, x_ta1, x_ta2, x_ta3, x_ta4, x_ta5, x_is, nc_0, nc_1, nc_2, nc_3, nc_4, nc_5, nc_6, nc_7, nc_8, nc_9, nc_10, nc_11, vMax2, vMin2, vIsN0, vIsN1, vNotN0, vNotN1, vIsN2, vNotN2, x_lo, x_lo1, x_lo2, vAll2, vAny2, x_sl, x_sl1, x_sl2, x_pn, x_ps, x_ps1, x_cutL, x_cutC, vEqS, vNeS, x_fz_obj, x_fr_obj, x_make, x_meth, x_meth2, x_meth3, x_isO, x_isO1, x_cat, x_cat1, x_methZ, x_methZ2, x_methZ3, x_callZ, x_callZ1, x_lend1, x_lend2, x_cl_int, x_cl_bl, x_cl_str, x_cl_non, x_cl_tup, x_cl0, x_cl1, x_cl_lst, x_setIx, x_setIx1, x_setIx2, Option.map_some, List.getD_cons_zero, List.getD_cons_succ, List.set_cons_zero, List.set_cons_succ, List.map_cons, List.map_nil, List.replicate_zero, List.replicate_succ, List.length_cons, List.length_nil, List.cons_append, List.nil_append, Option.bind_some, if_true, if_false, Bool.false_eq_true, Nat.reduceSub, Nat.reduceAdd, Nat.reduceLeDiff, Nat.reduceLT, vAdd, vSub, vLt, vLe, vGt, vGe, vNeg, vEq, vNe, vEq2, vNe2, vMod, vDiv, vMul, vPow, Int.reduceToNat, vIx0, vIx1, vLenT, vLenC, vLenL, reduceIte, decide_true, decide_false, Bool.not_true, Bool.not_false, beq_self_eq_true, Bool.and_true, Bool.true_and, Bool.and_self, Bool.and_false, Bool.false_and]
  · simp (disch := decide) only [x_seq, x_seq1, x_seq2, x_seq3, x_seq4, x_seq5, x_seq6, x_nil, x_if, x_if1, x_if2, x_if3, x_ret, x_ret1, x_ret2, x_ret3, x_retN, x_asg, x_asg1, x_asg2, x_asg3, x_asg4, x_asg5, x_gN, x_drop, x_drop1, x_drop2, x_bk, x_ct, x_raise, x_tZ, x_tZ1, x_tZ2, x_tE, x_tE1, x_tE2, x_tE3, x_tAnd, x_tAnd1, x_tAnd2, x_tAnd3, x_tOr, x_tOr1, x_tOr2, x_tOr3, x_tNot, x_tNot1, x_tNot2, x_tNot3, x_tTrue, x_z2, x_z21, x_z1, x_z11, x_zC, x_zC1, x_za, x_za1, x_za0, x_zV, x_zK, x_ch, x_ch1, x_ch2, x_eZ, x_eZ1, x_eZ2, x_eV, x_eV1, x_eM, x_eM1, x_b1, x_b2, x_b3, x_s1, x_s2, x_s3, x_oO, x_oO2, x_e2, x_e1, x_eC, x_aN, x_aC, x_tup, x_lst, x_call, x_oC1, x_oC2, x_call0, x_call01, x_eAnd, x_eAnd1, x_eOr, x_eOr1, x_eNot, x_eNot1, x_eIf, x_eIf1, x_fz_int, x_fr_int, x_fz_bl, x_fr_bl, x_fz_str, x_fr_str, x_fz_ty, x_fr_ty, x_fz_tup, x_fr_tup, x_fz_cst, x_fr_cst, x_fz_lst_false, x_fr_lst_false, x_fz_non, x_fr_non, x_fz_lt, x_fr_lt, x_fL0, x_fL1, x_cF, x_cR1, x_cR2, x_cR3, x_iL, x_iL1, x_iT, x_iT1, x_iS, x_iS1, x_iR1, x_iR11, x_iR2, x_iR21, x_iE, x_iE1, x_iV, x_iV1, x_iZ, x_iZ1, x_for, x_fo0, x_fo1, x_fo2, x_fo3, x_fo4, x_fo5, x_fo6, x_fo7, x_gT, x_gC, x_gC0, x_try, x_try1, x_try2, x_try3, x_try4, x_try5, x_nx1, x_nx2, x_try6, x_try7, x_nx3, x_nx4, x_app, x_app1, x_app2, x_lc, x_lcE, x_lc0, x_lc1, x_lcG, x_w0, x_w1, vMinL4, vMaxL4, vAll3, vAny3, vAll4, vAny4, x_wh1, x_wh2, x_wh0, x_abs, vI_ii, vI_ib, vI_it, vI_il, vI_is, vI_bb, vI_bi, vI_tt, vI_tl, vI_ti, vI_ll, vI_lt, vI_ss, vEqB, vNeB, x_ta, x_ta1, x_ta2, x_ta3, x_ta4, x_ta5, x_is, nc_0, nc_1, nc_2, nc_3, nc_4, nc_5, nc_6, nc_7, nc_8, nc_9, nc_10, nc_11, vMax2, vMin2, vIsN0, vIsN1, vNotN0, vNotN1, vIsN2, vNotN2, x_lo, x_lo1, x_lo2, vAll2, vAny2, x_sl, x_sl1, x_sl2, x_pn, x_ps, x_ps1, x_cutL, x_cutC, vEqS, vNeS, x_fz_obj, x_fr_obj, x_make, x_meth, x_meth2, x_meth3, x_isO, x_isO1, x_cat, x_cat1, x_methZ, x_methZ2, x_methZ3, x_callZ, x_callZ1, x_lend1, x_lend2, x_cl_int, x_cl_bl, x_cl_str, x_cl_non, x_cl_tup, x_cl0, x_cl1, x_cl_lst, x_setIx, x_setIx1, x_setIx2, Option.map_some, List.getD_cons_zero, List.getD_cons_succ, List.set_cons_zero, List.set_cons_succ, List.map_cons, List.map_nil, List.replicate_zero, List.replicate_succ, List.length_cons, List.length_nil, List.cons_append, List.nil_append, Option.bind_some, if_true, if_false, Bool.false_eq_true, Nat.reduceSub, Nat.reduceAdd, Nat.reduceLeDiff, Nat.reduceLT, vAdd, vSub, vLt, vLe, vGt, vGe, vNeg, vEq, vNe, vEq2, vNe2, vMod, vDiv, vMul, vPow, Int.reduceToNat, vIx0, vIx1, vLenT, vLenC, vLenL, reduceIte, decide_true, decide_false, Bool.not_true, Bool.not_false, beq_self_eq_true, Bool.and_true, Bool.true_and, Bool.and_self, Bool.and_false, Bool.false_and, ek, hbb, Nd.fz, Nd.fr, made_ok]
  · simp (disch := decide) only [x_seq, x_seq1, x_seq2, x_seq3, x_seq4, x_seq5, x_seq6, x_nil, x_if, x_if1, x_if2, x_if3, x_ret, x_ret1, x_ret2, x_ret3, x_retN, x_asg, x_asg1, x_asg2, x_asg3, x_asg4, x_asg5, x_gN, x_drop, x_drop1, x_drop2, x_bk, x_ct, x_raise, x_tZ, x_tZ1, x_tZ2, x_tE, x_tE1, x_tE2, x_tE3, x_tAnd, x_tAnd1, x_tAnd2, x_tAnd3, x_tOr, x_tOr1, x_tOr2, x_tOr3, x_tNot, x_tNot1, x_tNot2, x_tNot3, x_tTrue, x_z2, x_z21, x_z1, x_z11, x_zC, x_zC1, x_za, x_za1, x_za0, x_zV, x_zK, x_ch, x_ch1, x_ch2, x_eZ, x_eZ1, x_eZ2, x_eV, x_eV1, x_eM, x_eM1, x_b1, x_b2, x_b3, x_s1, x_s2, x_s3, x_oO, x_oO2, x_e2, x_e1, x_eC, x_aN, x_aC, x_tup, x_lst, x_call, x_oC1, x_oC2, x_call0, x_call01, x_eAnd, x_eAnd1, x_eOr, x_eOr1, x_eNot, x_eNot1, x_eIf, x_eIf1, x_fz_int, x_fr_int, x_fz_bl, x_fr_bl, x_fz_str, x_fr_str, x_fz_ty, x_fr_ty, x_fz_tup, x_fr_tup, x_fz_cst, x_fr_cst, x_fz_lst_false, x_fr_lst_false, x_fz_non, x_fr_non, x_fz_lt, x_fr_lt, x_fL0, x_fL1, x_cF, x_cR1, x_cR2, x_cR3, x_iL, x_iL1, x_iT, x_iT1, x_iS, x_iS1, x_iR1, x_iR11, x_iR2, x_iR21, x_iE, x_iE1, x_iV, x_iV1, x_iZ, x_iZ1, x_for, x_fo0, x_fo1, x_fo2, x_fo3, x_fo4, x_fo5, x_fo6, x_fo7, x_gT, x_gC, x_gC0, x_try, x_try1, x_try2, x_try3, x_try4, x_try5, x_nx1, x_nx2, x_try6, x_try7, x_nx3, x_nx4, x_app, x_app1, x_app2, x_lc, x_lcE, x_lc0, x_lc1, x_lcG, x_w0, x_w1, vMinL4, vMaxL4, vAll3, vAny3, vAll4, vAny4, x_wh1, x_wh2, x_wh0, x_abs, vI_ii, vI_ib, vI_it, vI_il, vI_is, vI_bb, vI_bi, vI_tt, vI_tl, vI_ti, vI_ll, vI_lt, vI_ss, vEqB, vNeB, x_ta, x_ta1, x_ta2, x_ta3, x_ta4, x_ta5, x_is, nc_0, nc_1, nc_2, nc_3, nc_4, nc_5, nc_6, nc_7, nc_8, nc_9, nc_10, nc_11, vMax2, vMin2, vIsN0, vIsN1, vNotN0, vNotN1, vIsN2, vNotN2, x_lo, x_lo1, x_lo2, vAll2, vAny2, x_sl, x_sl1, x_sl2, x_pn, x_ps, x_ps1, x_cutL, x_cutC, vEqS, vNeS, x_fz_obj, x_fr_obj, x_make, x_meth, x_meth2, x_meth3, x_isO, x_isO1, x_cat, x_cat1, x_methZ, x_methZ2, x_methZ3, x_callZ, x_callZ1, x_lend1, x_lend2, x_cl_int, x_cl_bl, x_cl_str, x_cl_non, x_cl_tup, x_cl0, x_cl1, x_cl_lst, x_setIx, x_setIx1, x_setIx2, Option.map_some, List.getD_cons_zero, List.getD_cons_succ, List.set_cons_zero, List.set_cons_succ, List.map_cons, List.map_nil, List.replicate_zero, List.replicate_succ, List.length_cons, List.length_nil, List.cons_append, List.nil_append, Option.bind_some, if_true, if_false, Bool.false_eq_true, Nat.reduceSub, Nat.reduceAdd, Nat.reduceLeDiff, Nat.reduceLT, vAdd, vSub, vLt, vLe, vGt, vGe, vNeg, vEq, vNe, vEq2, vNe2, vMod, vDiv, vMul, vPow, Int.reduceToNat, vIx0, vIx1, vLenT, vLenC, vLenL, reduceIte, decide_true, decide_false, Bool.not_true, Bool.not_false, beq_self_eq_true, Bool.and_true, Bool.true_and, Bool.and_self, Bool.and_false, Bool.false_and, fS]
  · generalize spD z = Z at *
    rcases hform with rfl | ⟨L, rfl, fL⟩
    · have pr' : f__law_parts_are [.non, .non] = .ok (.bl true) := pr
      simp (disch := decide) only [x_seq, x_seq1, x_seq2, x_seq3, x_seq4, x_seq5, x_seq6, x_nil, x_if, x_if1, x_if2, x_if3, x_ret, x_ret1, x_ret2, x_ret3, x_retN, x_asg, x_asg1, x_asg2, x_asg3, x_asg4, x_asg5, x_gN, x_drop, x_drop1, x_drop2, x_bk, x_ct, x_raise, x_tZ, x_tZ1, x_tZ2, x_tE, x_tE1, x_tE2, x_tE3, x_tAnd, x_tAnd1, x_tAnd2, x_tAnd3, x_tOr, x_tOr1, x_tOr2, x_tOr3, x_tNot, x_tNot1, x_tNot2, x_tNot3, x_tTrue, x_z2, x_z21, x_z1, x_z11, x_zC, x_zC1, x_za, x_za1, x_za0, x_zV, x_zK, x_ch, x_ch1, x_ch2, x_eZ, x_eZ1, x_eZ2, x_eV, x_eV1, x_eM, x_eM1, x_b1, x_b2, x_b3, x_s1, x_s2, x_s3, x_oO, x_oO2, x_e2, x_e1, x_eC, x_aN, x_aC, x_tup, x_lst, x_call, x_oC1, x_oC2, x_call0, x_call01, x_eAnd, x_eAnd1, x_eOr, x_eOr1, x_eNot, x_eNot1, x_eIf, x_eIf1, x_fz_int, x_fr_int, x_fz_bl, x_fr_bl, x_fz_str, x_fr_str, x_fz_ty, x_fr_ty, x_fz_tup, x_fr_tup, x_fz_cst, x_fr_cst, x_fz_lst_false, x_fr_lst_false, x_fz_non, x_fr_non, x_fz_lt, x_fr_lt, x_fL0, x_fL1, x_cF, x_cR1, x_cR2, x_cR3, x_iL, x_iL1, x_iT, x_iT1, x_iS, x_iS1, x_iR1, x_iR11, x_iR2, x_iR21, x_iE, x_iE1, x_iV, x_iV1, x_iZ, x_iZ1, x_for, x_fo0, x_fo1, x_fo2, x_fo3, x_fo4, x_fo5, x_fo6, x_fo7, x_gT, x_gC, x_gC0, x_try, x_try1, x_try2, x_try3, x_try4, x_try5, x_nx1, x_nx2, x_try6, x_try7, x_nx3, x_nx4, x_app, x_app1, x_app2, x_lc, x_lcE, x_lc0, x_lc1, x_lcG, x_w0, x_w1, vMinL4, vMaxL4, vAll3, vAny3, vAll4, vAny4, x_wh1, x_wh2, x_wh0, x_abs, vI_ii, vI_ib, vI_it, vI_il, vI_is, vI_bb, vI_bi, vI_tt, vI_tl, vI_ti, vI_ll, vI_lt, vI_ss, vEqB, vNeB, x_ta, x_ta1, x_ta2, x_ta3, x_ta4, x_ta5, x_is, nc_0, nc_1, nc_2, nc_3, nc_4, nc_5, nc_6, nc_7, nc_8, nc_9, nc_10, nc_11, vMax2, vMin2, vIsN0, vIsN1, vNotN0, vNotN1, vIsN2, vNotN2, x_lo, x_lo1, x_lo2, vAll2, vAny2, x_sl, x_sl1, x_sl2, x_pn, x_ps, x_ps1, x_cutL, x_cutC, vEqS, vNeS, x_fz_obj, x_fr_obj, x_make, x_meth, x_meth2, x_meth3, x_isO, x_isO1, x_cat, x_cat1, x_methZ, x_methZ2, x_methZ3, x_callZ, x_callZ1, x_lend1, x_lend2, x_cl_int, x_cl_bl, x_cl_str, x_cl_non, x_cl_tup, x_cl0, x_cl1, x_cl_lst, x_setIx, x_setIx1, x_setIx2, Option.map_some, List.getD_cons_zero, List.getD_cons_succ, List.set_cons_zero, List.set_cons_succ, List.map_cons, List.map_nil, List.replicate_zero, List.replicate_succ, List.length_cons, List.length_nil, List.cons_append, List.nil_append, Option.bind_some, if_true, if_false, Bool.false_eq_true, Nat.reduceSub, Nat.reduceAdd, Nat.reduceLeDiff, Nat.reduceLT, vAdd, vSub, vLt, vLe, vGt, vGe, vNeg, vEq, vNe, vEq2, vNe2, vMod, vDiv, vMul, vPow, Int.reduceToNat, vIx0, vIx1, vLenT, vLenC, vLenL, reduceIte, decide_true, decide_false, Bool.not_true, Bool.not_false, beq_self_eq_true, Bool.and_true, Bool.true_and, Bool.and_self, Bool.and_false, Bool.false_and, Nd.fzo, Nd.fro, mb, fS, y1, y2, hfb, pr', o1]
    · have pr' : f__law_parts_are [.lst false L, .lst false L] = .ok (.bl true) := by rw [x_fr_lt, fL] at pr; exact pr
      simp (disch := decide) only [x_seq, x_seq1, x_seq2, x_seq3, x_seq4, x_seq5, x_seq6, x_nil, x_if, x_if1, x_if2, x_if3, x_ret, x_ret1, x_ret2, x_ret3, x_retN, x_asg, x_asg1, x_asg2, x_asg3, x_asg4, x_asg5, x_gN, x_drop, x_drop1, x_drop2, x_bk, x_ct, x_raise, x_tZ, x_tZ1, x_tZ2, x_tE, x_tE1, x_tE2, x_tE3, x_tAnd, x_tAnd1, x_tAnd2, x_tAnd3, x_tOr, x_tOr1, x_tOr2, x_tOr3, x_tNot, x_tNot1, x_tNot2, x_tNot3, x_tTrue, x_z2, x_z21, x_z1, x_z11, x_zC, x_zC1, x_za, x_za1, x_za0, x_zV, x_zK, x_ch, x_ch1, x_ch2, x_eZ, x_eZ1, x_eZ2, x_eV, x_eV1, x_eM, x_eM1, x_b1, x_b2, x_b3, x_s1, x_s2, x_s3, x_oO, x_oO2, x_e2, x_e1, x_eC, x_aN, x_aC, x_tup, x_lst, x_call, x_oC1, x_oC2, x_call0, x_call01, x_eAnd, x_eAnd1, x_eOr, x_eOr1, x_eNot, x_eNot1, x_eIf, x_eIf1, x_fz_int, x_fr_int, x_fz_bl, x_fr_bl, x_fz_str, x_fr_str, x_fz_ty, x_fr_ty, x_fz_tup, x_fr_tup, x_fz_cst, x_fr_cst, x_fz_lst_false, x_fr_lst_false, x_fz_non, x_fr_non, x_fz_lt, x_fr_lt, x_fL0, x_fL1, x_cF, x_cR1, x_cR2, x_cR3, x_iL, x_iL1, x_iT, x_iT1, x_iS, x_iS1, x_iR1, x_iR11, x_iR2, x_iR21, x_iE, x_iE1, x_iV, x_iV1, x_iZ, x_iZ1, x_for, x_fo0, x_fo1, x_fo2, x_fo3, x_fo4, x_fo5, x_fo6, x_fo7, x_gT, x_gC, x_gC0, x_try, x_try1, x_try2, x_try3, x_try4, x_try5, x_nx1, x_nx2, x_try6, x_try7, x_nx3, x_nx4, x_app, x_app1, x_app2, x_lc, x_lcE, x_lc0, x_lc1, x_lcG, x_w0, x_w1, vMinL4, vMaxL4, vAll3, vAny3, vAll4, vAny4, x_wh1, x_wh2, x_wh0, x_abs, vI_ii, vI_ib, vI_it, vI_il, vI_is, vI_bb, vI_bi, vI_tt, vI_tl, vI_ti, vI_ll, vI_lt, vI_ss, vEqB, vNeB, x_ta, x_ta1, x_ta2, x_ta3, x_ta4, x_ta5, x_is, nc_0, nc_1, nc_2, nc_3, nc_4, nc_5, nc_6, nc_7, nc_8, nc_9, nc_10, nc_11, vMax2, vMin2, vIsN0, vIsN1, vNotN0, vNotN1, vIsN2, vNotN2, x_lo, x_lo1, x_lo2, vAll2, vAny2, x_sl, x_sl1, x_sl2, x_pn, x_ps, x_ps1, x_cutL, x_cutC, vEqS, vNeS, x_fz_obj, x_fr_obj, x_make, x_meth, x_meth2, x_meth3, x_isO, x_isO1, x_cat, x_cat1, x_methZ, x_methZ2, x_methZ3, x_callZ, x_callZ1, x_lend1, x_lend2, x_cl_int, x_cl_bl, x_cl_str, x_cl_non, x_cl_tup, x_cl0, x_cl1, x_cl_lst, x_setIx, x_setIx1, x_setIx2, Option.map_some, List.getD_cons_zero, List.getD_cons_succ, List.set_cons_zero, List.set_cons_succ, List.map_cons, List.map_nil, List.replicate_zero, List.replicate_succ, List.length_cons, List.length_nil, List.cons_append, List.nil_append, Option.bind_some, if_true, if_false, Bool.false_eq_true, Nat.reduceSub, Nat.reduceAdd, Nat.reduceLeDiff, Nat.reduceLT, vAdd, vSub, vLt, vLe, vGt, vGe, vNeg, vEq, vNe, vEq2, vNe2, vMod, vDiv, vMul, vPow, Int.reduceToNat, vIx0, vIx1, vLenT, vLenC, vLenL, reduceIte, decide_true, decide_false, Bool.not_true, Bool.not_false, beq_self_eq_true, Bool.and_true, Bool.true_and, Bool.and_self, Bool.and_false, Bool.false_and, Nd.fzo, Nd.fro, mb, fS, y1, y2, hfb, fL, pr', o1]
  · generalize spD z = Z at *
    rcases hform with rfl | ⟨L, rfl, fL⟩
    · have pr' : f__law_parts_are [.non, .non] = .ok (.bl true) := pr
      simp (disch := decide) only [x_seq, x_seq1, x_seq2, x_seq3, x_seq4, x_seq5, x_seq6, x_nil, x_if, x_if1, x_if2, x_if3, x_ret, x_ret1, x_ret2, x_ret3, x_retN, x_asg, x_asg1, x_asg2, x_asg3, x_asg4, x_asg5, x_gN, x_drop, x_drop1, x_drop2, x_bk, x_ct, x_raise, x_tZ, x_tZ1, x_tZ2, x_tE, x_tE1, x_tE2, x_tE3, x_tAnd, x_tAnd1, x_tAnd2, x_tAnd3, x_tOr, x_tOr1, x_tOr2, x_tOr3, x_tNot, x_tNot1, x_tNot2, x_tNot3, x_tTrue, x_z2, x_z21, x_z1, x_z11, x_zC, x_zC1, x_za, x_za1, x_za0, x_zV, x_zK, x_ch, x_ch1, x_ch2, x_eZ, x_eZ1, x_eZ2, x_eV, x_eV1, x_eM, x_eM1, x_b1, x_b2, x_b3, x_s1, x_s2, x_s3, x_oO, x_oO2, x_e2, x_e1, x_eC, x_aN, x_aC, x_tup, x_lst, x_call, x_oC1, x_oC2, x_call0, x_call01, x_eAnd, x_eAnd1, x_eOr, x_eOr1, x_eNot, x_eNot1, x_eIf, x_eIf1, x_fz_int, x_fr_int, x_fz_bl, x_fr_bl, x_fz_str, x_fr_str, x_fz_ty, x_fr_ty, x_fz_tup, x_fr_tup, x_fz_cst, x_fr_cst, x_fz_lst_false, x_fr_lst_false, x_fz_non, x_fr_non, x_fz_lt, x_fr_lt, x_fL0, x_fL1, x_cF, x_cR1, x_cR2, x_cR3, x_iL, x_iL1, x_iT, x_iT1, x_iS, x_iS1, x_iR1, x_iR11, x_iR2, x_iR21, x_iE, x_iE1, x_iV, x_iV1, x_iZ, x_iZ1, x_for, x_fo0, x_fo1, x_fo2, x_fo3, x_fo4, x_fo5, x_fo6, x_fo7, x_gT, x_gC, x_gC0, x_try, x_try1, x_try2, x_try3, x_try4, x_try5, x_nx1, x_nx2, x_try6, x_try7, x_nx3, x_nx4, x_app, x_app1, x_app2, x_lc, x_lcE, x_lc0, x_lc1, x_lcG, x_w0, x_w1, vMinL4, vMaxL4, vAll3, vAny3, vAll4, vAny4, x_wh1, x_wh2, x_wh0, x_abs, vI_ii, vI_ib, vI_it, vI_il, vI_is, vI_bb, vI_bi, vI_tt, vI_tl, vI_ti, vI_ll, vI_lt, vI_ss, vEqB, vNeB, x_ta, x_ta1, x_ta2, x_ta3, x_ta4, x_ta5, x_is, nc_0, nc_1, nc_2, nc_3, nc_4, nc_5, nc_6, nc_7, nc_8, nc_9, nc_10, nc_11, vMax2, vMin2, vIsN0, vIsN1, vNotN0, vNotN1, vIsN2, vNotN2, x_lo, x_lo1, x_lo2, vAll2, vAny2, x_sl, x_sl1, x_sl2, x_pn, x_ps, x_ps1, x_cutL, x_cutC, vEqS, vNeS, x_fz_obj, x_fr_obj, x_make, x_meth, x_meth2, x_meth3, x_isO, x_isO1, x_cat, x_cat1, x_methZ, x_methZ2, x_methZ3, x_callZ, x_callZ1, x_lend1, x_lend2, x_cl_int, x_cl_bl, x_cl_str, x_cl_non, x_cl_tup, x_cl0, x_cl1, x_cl_lst, x_setIx, x_setIx1, x_setIx2, Option.map_some, List.getD_cons_zero, List.getD_cons_succ, List.set_cons_zero, List.set_cons_succ, List.map_cons, List.map_nil, List.replicate_zero, List.replicate_succ, List.length_cons, List.length_nil, List.cons_append, List.nil_append, Option.bind_some, if_true, if_false, Bool.false_eq_true, Nat.reduceSub, Nat.reduceAdd, Nat.reduceLeDiff, Nat.reduceLT, vAdd, vSub, vLt, vLe, vGt, vGe, vNeg, vEq, vNe, vEq2, vNe2, vMod, vDiv, vMul, vPow, Int.reduceToNat, vIx0, vIx1, vLenT, vLenC, vLenL, reduceIte, decide_true, decide_false, Bool.not_true, Bool.not_false, beq_self_eq_true, Bool.and_true, Bool.true_and, Bool.and_self, Bool.and_false, Bool.false_and, Nd.fzo, Nd.fro, mb, fS, y1, y2, hfb, pr', o1]
    · have pr' : f__law_parts_are [.lst false L, .lst false L] = .ok (.bl true) := by rw [x_fr_lt, fL] at pr; exact pr
      simp (disch := decide) only [x_seq, x_seq1, x_seq2, x_seq3, x_seq4, x_seq5, x_seq6, x_nil, x_if, x_if1, x_if2, x_if3, x_ret, x_ret1, x_ret2, x_ret3, x_retN, x_asg, x_asg1, x_asg2, x_asg3, x_asg4, x_asg5, x_gN, x_drop, x_drop1, x_drop2, x_bk, x_ct, x_raise, x_tZ, x_tZ1, x_tZ2, x_tE, x_tE1, x_tE2, x_tE3, x_tAnd, x_tAnd1, x_tAnd2, x_tAnd3, x_tOr, x_tOr1, x_tOr2, x_tOr3, x_tNot, x_tNot1, x_tNot2, x_tNot3, x_tTrue, x_z2, x_z21, x_z1, x_z11, x_zC, x_zC1, x_za, x_za1, x_za0, x_zV, x_zK, x_ch, x_ch1, x_ch2, x_eZ, x_eZ1, x_eZ2, x_eV, x_eV1, x_eM, x_eM1, x_b1, x_b2, x_b3, x_s1, x_s2, x_s3, x_oO, x_oO2, x_e2, x_e1, x_eC, x_aN, x_aC, x_tup, x_lst, x_call, x_oC1, x_oC2, x_call0, x_call01, x_eAnd, x_eAnd1, x_eOr, x_eOr1, x_eNot, x_eNot1, x_eIf, x_eIf1, x_fz_int, x_fr_int, x_fz_bl, x_fr_bl, x_fz_str, x_fr_str, x_fz_ty, x_fr_ty, x_fz_tup, x_fr_tup, x_fz_cst, x_fr_cst, x_fz_lst_false, x_fr_lst_false, x_fz_non, x_fr_non, x_fz_lt, x_fr_lt, x_fL0, x_fL1, x_cF, x_cR1, x_cR2, x_cR3, x_iL, x_iL1, x_iT, x_iT1, x_iS, x_iS1, x_iR1, x_iR11, x_iR2, x_iR21, x_iE, x_iE1, x_iV, x_iV1, x_iZ, x_iZ1, x_for, x_fo0, x_fo1, x_fo2, x_fo3, x_fo4, x_fo5, x_fo6, x_fo7, x_gT, x_gC, x_gC0, x_try, x_try1, x_try2, x_try3, x_try4, x_try5, x_nx1, x_nx2, x_try6, x_try7, x_nx3, x_nx4, x_app, x_app1, x_app2, x_lc, x_lcE, x_lc0, x_lc1, x_lcG, x_w0, x_w1, vMinL4, vMaxL4, vAll3, vAny3, vAll4, vAny4, x_wh1, x_wh2, x_wh0, x_abs, vI_ii, vI_ib, vI_it, vI_il, vI_is, vI_bb, vI_bi, vI_tt, vI_tl, vI_ti, vI_ll, vI_lt, vI_ss, vEqB, vNeB, x_ta, x_ta1, x_ta2, x_ta3, x_ta4, x_ta5, x_is, nc_0, nc_1, nc_2, nc_3, nc_4, nc_5, nc_6, nc_7, nc_8, nc_9, nc_10, nc_11, vMax2, vMin2, vIsN0, vIsN1, vNotN0, vNotN1, vIsN2, vNotN2, x_lo, x_lo1, x_lo2, vAll2, vAny2, x_sl, x_sl1, x_sl2, x_pn, x_ps, x_ps1, x_cutL, x_cutC, vEqS, vNeS, x_fz_obj, x_fr_obj, x_make, x_meth, x_meth2, x_meth3, x_isO, x_isO1, x_cat, x_cat1, x_methZ, x_methZ2, x_methZ3, x_callZ, x_callZ1, x_lend1, x_lend2, x_cl_int, x_cl_bl, x_cl_str, x_cl_non, x_cl_tup, x_cl0, x_cl1, x_cl_lst, x_setIx, x_setIx1, x_setIx2, Option.map_some, List.getD_cons_zero, List.getD_cons_succ, List.set_cons_zero, List.set_cons_succ, List.map_cons, List.map_nil, List.replicate_zero, List.replicate_succ, List.length_cons, List.length_nil, List.cons_append, List.nil_append, Option.bind_some, if_true, if_false, Bool.false_eq_true, Nat.reduceSub, Nat.reduceAdd, Nat.reduceLeDiff, Nat.reduceLT, vAdd, vSub, vLt, vLe, vGt, vGe, vNeg, vEq, vNe, vEq2, vNe2, vMod, vDiv, vMul, vPow, Int.reduceToNat, vIx0, vIx1, vLenT, vLenC, vLenL, reduceIte, decide_true, decide_false, Bool.not_true, Bool.not_false, beq_self_eq_true, Bool.and_true, Bool.true_and, Bool.and_self, Bool.and_false, Bool.false_and, Nd.fzo, Nd.fro, mb, fS, y1, y2, hfb, fL, pr', o1]
theorem u5 {ss bs : List (Int × Int)} {S B : List D} {cs : List Int} {scr : D} {g M N : Int} (hM : M = bs.length) (hN : (S.length : Int) = N) (n1 : 1 ≤ N) (m1 : 1 ≤ M) (hs : ∀ p ∈ ss, SpB p) (hb : ∀ p ∈ bs, SpB p) (eS : ss.map spD = S) (eB : bs.map spD = B) (g1 : 1 ≤ g) (g2 : g ≤ 1000000) (hl : cs.length ≤ 63) {τ : Bn.Env} (h : St S B cs scr g M τ) : ∃ τ', u_law_5 τ = .rt (.bl true) τ' := by
  obtain ⟨τ', e, _⟩ := for_idx (g := gN 5) (b := l_law_1) (fun _ => St S B cs scr g M) (rangeD 0 cs.length) 0 τ (fun k d τ hk hI => by
    obtain ⟨k1, rfl⟩ := rangeD_get hk
    exact turn hM hN n1 m1 hs hb eS eB g1 g2 k1 hI) h
  obtain ⟨m, m', x5, x7, x8, x9, x10, x11, x12, rfl⟩ := h
  obtain ⟨L, hL⟩ : ∃ L : Int, (cs.length : Int) = L := ⟨_, rfl⟩
  have lC : gLen [.lst false (cs.map D.int)] = some (.int L) := by rw [vLenL, List.length_map, hL]
  refine ⟨τ', x_seq_ok (τ1 := τ') ?_ rfl⟩
  rw [x_for_range (N := L) (n := cs.length) (τ1 := [some scr, some (.lst false (cs.map D.int)), some (.int g), some (.int M), some (.lst m B), x5, some (.lst m' S), x7, x8, x9, x10, x11, x12]) ?_ (by omega) (by omega) (by omega)]
  · exact e
  · generalize cs.map D.int = C at *
    simp only [x_seq, x_seq1, x_seq2, x_seq3, x_seq4, x_seq5, x_seq6, x_nil, x_if, x_if1, x_if2, x_if3, x_ret, x_ret1, x_ret2, x_ret3, x_retN, x_asg, x_asg1, x_asg2, x_asg3, x_asg4, x_asg5, x_gN, x_drop, x_drop1, x_drop2, x_bk, x_ct, x_raise, x_tZ, x_tZ1, x_tZ2, x_tE, x_tE1, x_tE2, x_tE3, x_tAnd, x_tAnd1, x_tAnd2, x_tAnd3, x_tOr, x_tOr1, x_tOr2, x_tOr3, x_tNot, x_tNot1, x_tNot2, x_tNot3, x_tTrue, x_z2, x_z21, x_z1, x_z11, x_zC, x_zC1, x_za, x_za1, x_za0, x_zV, x_zK, x_ch, x_ch1, x_ch2, x_eZ, x_eZ1, x_eZ2, x_eV, x_eV1, x_eM, x_eM1, x_b1, x_b2, x_b3, x_s1, x_s2, x_s3, x_oO, x_oO2, x_e2, x_e1, x_eC, x_aN, x_aC, x_tup, x_lst, x_call, x_oC1, x_oC2, x_call0, x_call01, x_eAnd, x_eAnd1, x_eOr, x_eOr1, x_eNot, x_eNot1, x_eIf, x_eIf1, x_fz_int, x_fr_int, x_fz_bl, x_fr_bl, x_fz_str, x_fr_str, x_fz_ty, x_fr_ty, x_fz_tup, x_fr_tup, x_fz_cst, x_fr_cst, x_fz_lst_false, x_fr_lst_false, x_fz_non, x_fr_non, x_fz_lt, x_fr_lt, x_fL0, x_fL1, x_cF, x_cR1, x_cR2, x_cR3, x_iL, x_iL1, x_iT, x_iT1, x_iS, x_iS1, x_iR1, x_iR11, x_iR2, x_iR21, x_iE, x_iE1, x_iV, x_iV1, x_iZ, x_iZ1, x_for, x_fo0, x_fo1, x_fo2, x_fo3, x_fo4, x_fo5, x_fo6, x_fo7, x_gT, x_gC, x_gC0, x_try, x_try1, x_try2, x_try3, x_try4, x_try5, x_nx1, x_nx2, x_try6, x_try7, x_nx3, x_nx4, x_app, x_app1, x_app2, x_lc, x_lcE, x_lc0, x_lc1, x_lcG, x_w0, x_w1, vMinL4, vMaxL4, vAll3, vAny3, vAll4, vAny4, x_wh1, x_wh2, x_wh0, x_abs, vI_ii, vI_ib, vI_it, vI_il, vI_is, vI_bb, vI_bi, vI_tt, vI_tl, vI_ti, vI_ll, vI_lt, vI_ss, vEqB, vNeB, x_ta, x_ta1, x_ta2, x_ta3, x_ta4, x_ta5, x_is, nc_0, nc_1, nc_2, nc_3, nc_4, nc_5, nc_6, nc_7, nc_8, nc_9, nc_10, nc_11, vMax2, vMin2, vIsN0, vIsN1, vNotN0, vNotN1, vIsN2, vNotN2, x_lo, x_lo1, x_lo2, vAll2, vAny2, x_sl, x_sl1, x_sl2, x_pn, x_ps, x_ps1, x_cutL, x_cutC, vEqS, vNeS, x_fz_obj, x_fr_obj, x_make, x_meth, x_meth2, x_meth3, x_isO, x_isO1, x_cat, x_cat1, x_methZ, x_methZ2, x_methZ3, x_callZ, x_callZ1, x_lend1, x_lend2, x_cl_int, x_cl_bl, x_cl_str, x_cl_non, x_cl_tup, x_cl0, x_cl1, x_cl_lst, x_setIx, x_setIx1, x_setIx2, Option.map_some, List.getD_cons_zero, List.getD_cons_succ, List.set_cons_zero, List.set_cons_succ, List.map_cons, List.map_nil, List.replicate_zero, List.replicate_succ, List.length_cons, List.length_nil, List.cons_append, List.nil_append, Option.bind_some, if_true, if_false, Bool.false_eq_true, Nat.reduceSub, Nat.reduceAdd, Nat.reduceLeDiff, Nat.reduceLT, vAdd, vSub, vLt, vLe, vGt, vGe, vNeg, vEq, vNe, vEq2, vNe2, vMod, vDiv, vMul, vPow, Int.reduceToNat, vIx0, vIx1, vLenT, vLenC, vLenL, reduceIte, decide_true, decide_false, Bool.not_true, Bool.not_false, beq_self_eq_true, Bool.and_true, Bool.true_and, Bool.and_self, Bool.and_false, Bool.false_and, lC]
theorem sp_right {es : List D} {items : List D} (h : All2 (fun _ e => ∃ p, e = spD p ∧ SpB p) items es) : ∃ ps : List (Int × Int), es = ps.map spD ∧ (∀ p ∈ ps, SpB p) ∧ ps.length = items.length := by
  induction items generalizing es with
  | nil => cases es with
    | nil => exact ⟨[], rfl, by simp, rfl⟩
    | cons _ _ => exact h.elim
  | cons d ds ih => cases es with
    | nil => exact h.elim
    | cons e es =>
      obtain ⟨⟨p, rfl, hp⟩, h2⟩ := h
      obtain ⟨ps, rfl, h3, h4⟩ := ih h2
      exact ⟨p :: ps, rfl, fun x hx => by rcases List.mem_cons.mp hx with rfl | hx; exact hp; exact h3 x hx, by rw [List.length_cons, List.length_cons, h4]⟩
theorem u4 {bs : List (Int × Int)} {B : List D} {cs : List Int} {scr : D} {g M : Int} (hM : M = bs.length) (m1 : 1 ≤ M) (hb : ∀ p ∈ bs, SpB p) (eB : bs.map spD = B) (g1 : 1 ≤ g) (g2 : g ≤ 1000000) (hl : cs.length ≤ 63) {m : Bool} : ∃ τ', u_law_4 [some scr, some (.lst true (cs.map D.int)), some (.int g), some (.int M), some (.lst m B), none, none, none, none, none, none, none, none] = .rt (.bl true) τ' := by
  obtain ⟨C, hC⟩ : ∃ C, cs.map D.int = C := ⟨_, rfl⟩
  have lC : C.length = cs.length := by rw [← hC, List.length_map]
  have hp : gPow (.int 10) (.int 40) = some (.int (10 ^ 40)) := rfl
  have fC : freezeL C = C := by rw [← hC, fz_map]; intro p; rfl
  obtain ⟨es, ha, e⟩ := lc_all (g := gN 7) (own := [7]) (m := (eCall f__law_span (aCons (eZ (z2 gAdd (z2 gMul (z2 gMod (zVar 7) (z2 gPow (zC (.int 10)) (zC (.int 40)))) (zC (.int 31))) (zC (.int 5)))) aNil))) (fun _ e => ∃ p, e = spD p ∧ SpB p) [some scr, some (.lst false C), some (.int g), some (.int M), some (.lst m B), none, none, none, none, none, none, none, none] C [] (by rw [lC, List.length_nil]; omega) (fun d hd => by
    rw [← hC] at hd
    obtain ⟨c, _, rfl⟩ := List.mem_map.mp hd
    obtain ⟨x, hx, x0, x1⟩ : ∃ x, c % 10 ^ 40 = x ∧ 0 ≤ x ∧ x < 10 ^ 40 := ⟨_, rfl, by omega, by omega⟩
    have hm : gMod (.int c) (.int (10 ^ 40)) = some (.int x) := by rw [vMod (by decide), hx]
    have w : L2.CMulW x 31 := mulW 140 20 (by omega) (by decide) (by decide)
    obtain ⟨p, e, hp'⟩ := span_ok (x * 31 + 5)
    refine ⟨spD p, [some scr, some (.lst false C), some (.int g), some (.int M), some (.lst m B), none, none, some (.int c), none, none, none, none, none], [some scr, some (.lst false C), some (.int g), some (.int M), some (.lst m B), none, none, some (.int c), none, none, none, none, none], x_gN, ?_, rfl, p, rfl, hp'⟩
    simp (disch := decide) only [x_seq, x_seq1, x_seq2, x_seq3, x_seq4, x_seq5, x_seq6, x_nil, x_if, x_if1, x_if2, x_if3, x_ret, x_ret1, x_ret2, x_ret3, x_retN, x_asg, x_asg1, x_asg2, x_asg3, x_asg4, x_asg5, x_gN, x_drop, x_drop1, x_drop2, x_bk, x_ct, x_raise, x_tZ, x_tZ1, x_tZ2, x_tE, x_tE1, x_tE2, x_tE3, x_tAnd, x_tAnd1, x_tAnd2, x_tAnd3, x_tOr, x_tOr1, x_tOr2, x_tOr3, x_tNot, x_tNot1, x_tNot2, x_tNot3, x_tTrue, x_z2, x_z21, x_z1, x_z11, x_zC, x_zC1, x_za, x_za1, x_za0, x_zV, x_zK, x_ch, x_ch1, x_ch2, x_eZ, x_eZ1, x_eZ2, x_eV, x_eV1, x_eM, x_eM1, x_b1, x_b2, x_b3, x_s1, x_s2, x_s3, x_oO, x_oO2, x_e2, x_e1, x_eC, x_aN, x_aC, x_tup, x_lst, x_call, x_oC1, x_oC2, x_call0, x_call01, x_eAnd, x_eAnd1, x_eOr, x_eOr1, x_eNot, x_eNot1, x_eIf, x_eIf1, x_fz_int, x_fr_int, x_fz_bl, x_fr_bl, x_fz_str, x_fr_str, x_fz_ty, x_fr_ty, x_fz_tup, x_fr_tup, x_fz_cst, x_fr_cst, x_fz_lst_false, x_fr_lst_false, x_fz_non, x_fr_non, x_fz_lt, x_fr_lt, x_fL0, x_fL1, x_cF, x_cR1, x_cR2, x_cR3, x_iL, x_iL1, x_iT, x_iT1, x_iS, x_iS1, x_iR1, x_iR11, x_iR2, x_iR21, x_iE, x_iE1, x_iV, x_iV1, x_iZ, x_iZ1, x_for, x_fo0, x_fo1, x_fo2, x_fo3, x_fo4, x_fo5, x_fo6, x_fo7, x_gT, x_gC, x_gC0, x_try, x_try1, x_try2, x_try3, x_try4, x_try5, x_nx1, x_nx2, x_try6, x_try7, x_nx3, x_nx4, x_app, x_app1, x_app2, x_lc, x_lcE, x_lc0, x_lc1, x_lcG, x_w0, x_w1, vMinL4, vMaxL4, vAll3, vAny3, vAll4, vAny4, x_wh1, x_wh2, x_wh0, x_abs, vI_ii, vI_ib, vI_it, vI_il, vI_is, vI_bb, vI_bi, vI_tt, vI_tl, vI_ti, vI_ll, vI_lt, vI_ss, vEqB, vNeB, x_ta, x_ta1, x_ta2, x_ta3, x_ta4, x_ta5, x_is, nc_0, nc_1, nc_2, nc_3, nc_4, nc_5, nc_6, nc_7, nc_8, nc_9, nc_10, nc_11, vMax2, vMin2, vIsN0, vIsN1, vNotN0, vNotN1, vIsN2, vNotN2, x_lo, x_lo1, x_lo2, vAll2, vAny2, x_sl, x_sl1, x_sl2, x_pn, x_ps, x_ps1, x_cutL, x_cutC, vEqS, vNeS, x_fz_obj, x_fr_obj, x_make, x_meth, x_meth2, x_meth3, x_isO, x_isO1, x_cat, x_cat1, x_methZ, x_methZ2, x_methZ3, x_callZ, x_callZ1, x_lend1, x_lend2, x_cl_int, x_cl_bl, x_cl_str, x_cl_non, x_cl_tup, x_cl0, x_cl1, x_cl_lst, x_setIx, x_setIx1, x_setIx2, Option.map_some, List.getD_cons_zero, List.getD_cons_succ, List.set_cons_zero, List.set_cons_succ, List.map_cons, List.map_nil, List.replicate_zero, List.replicate_succ, List.length_cons, List.length_nil, List.cons_append, List.nil_append, Option.bind_some, if_true, if_false, Bool.false_eq_true, Nat.reduceSub, Nat.reduceAdd, Nat.reduceLeDiff, Nat.reduceLT, vAdd, vSub, vLt, vLe, vGt, vGe, vNeg, vEq, vNe, vEq2, vNe2, vMod, vDiv, vMul, vPow, Int.reduceToNat, vIx0, vIx1, vLenT, vLenC, vLenL, reduceIte, decide_true, decide_false, Bool.not_true, Bool.not_false, beq_self_eq_true, Bool.and_true, Bool.true_and, Bool.and_self, Bool.and_false, Bool.false_and, hp, hm, vMul w, e])
  rw [List.nil_append] at e
  obtain ⟨ps, rfl, hps, hpl⟩ := sp_right ha
  have eI : iL (eVar 1) [some scr, some (.lst true C), some (.int g), some (.int M), some (.lst m B), none, none, none, none, none, none, none, none] = .ok C [some scr, some (.lst false C), some (.int g), some (.int M), some (.lst m B), none, none, none, none, none, none, none, none] := by
    simp only [x_seq, x_seq1, x_seq2, x_seq3, x_seq4, x_seq5, x_seq6, x_nil, x_if, x_if1, x_if2, x_if3, x_ret, x_ret1, x_ret2, x_ret3, x_retN, x_asg, x_asg1, x_asg2, x_asg3, x_asg4, x_asg5, x_gN, x_drop, x_drop1, x_drop2, x_bk, x_ct, x_raise, x_tZ, x_tZ1, x_tZ2, x_tE, x_tE1, x_tE2, x_tE3, x_tAnd, x_tAnd1, x_tAnd2, x_tAnd3, x_tOr, x_tOr1, x_tOr2, x_tOr3, x_tNot, x_tNot1, x_tNot2, x_tNot3, x_tTrue, x_z2, x_z21, x_z1, x_z11, x_zC, x_zC1, x_za, x_za1, x_za0, x_zV, x_zK, x_ch, x_ch1, x_ch2, x_eZ, x_eZ1, x_eZ2, x_eV, x_eV1, x_eM, x_eM1, x_b1, x_b2, x_b3, x_s1, x_s2, x_s3, x_oO, x_oO2, x_e2, x_e1, x_eC, x_aN, x_aC, x_tup, x_lst, x_call, x_oC1, x_oC2, x_call0, x_call01, x_eAnd, x_eAnd1, x_eOr, x_eOr1, x_eNot, x_eNot1, x_eIf, x_eIf1, x_fz_int, x_fr_int, x_fz_bl, x_fr_bl, x_fz_str, x_fr_str, x_fz_ty, x_fr_ty, x_fz_tup, x_fr_tup, x_fz_cst, x_fr_cst, x_fz_lst_false, x_fr_lst_false, x_fz_non, x_fr_non, x_fz_lt, x_fr_lt, x_fL0, x_fL1, x_cF, x_cR1, x_cR2, x_cR3, x_iL, x_iL1, x_iT, x_iT1, x_iS, x_iS1, x_iR1, x_iR11, x_iR2, x_iR21, x_iE, x_iE1, x_iV, x_iV1, x_iZ, x_iZ1, x_for, x_fo0, x_fo1, x_fo2, x_fo3, x_fo4, x_fo5, x_fo6, x_fo7, x_gT, x_gC, x_gC0, x_try, x_try1, x_try2, x_try3, x_try4, x_try5, x_nx1, x_nx2, x_try6, x_try7, x_nx3, x_nx4, x_app, x_app1, x_app2, x_lc, x_lcE, x_lc0, x_lc1, x_lcG, x_w0, x_w1, vMinL4, vMaxL4, vAll3, vAny3, vAll4, vAny4, x_wh1, x_wh2, x_wh0, x_abs, vI_ii, vI_ib, vI_it, vI_il, vI_is, vI_bb, vI_bi, vI_tt, vI_tl, vI_ti, vI_ll, vI_lt, vI_ss, vEqB, vNeB, x_ta, x_ta1, x_ta2, x_ta3, x_ta4, x_ta5, x_is, nc_0, nc_1, nc_2, nc_3, nc_4, nc_5, nc_6, nc_7, nc_8, nc_9, nc_10, nc_11, vMax2, vMin2, vIsN0, vIsN1, vNotN0, vNotN1, vIsN2, vNotN2, x_lo, x_lo1, x_lo2, vAll2, vAny2, x_sl, x_sl1, x_sl2, x_pn, x_ps, x_ps1, x_cutL, x_cutC, vEqS, vNeS, x_fz_obj, x_fr_obj, x_make, x_meth, x_meth2, x_meth3, x_isO, x_isO1, x_cat, x_cat1, x_methZ, x_methZ2, x_methZ3, x_callZ, x_callZ1, x_lend1, x_lend2, x_cl_int, x_cl_bl, x_cl_str, x_cl_non, x_cl_tup, x_cl0, x_cl1, x_cl_lst, x_setIx, x_setIx1, x_setIx2, Option.map_some, List.getD_cons_zero, List.getD_cons_succ, List.set_cons_zero, List.set_cons_succ, List.map_cons, List.map_nil, List.replicate_zero, List.replicate_succ, List.length_cons, List.length_nil, List.cons_append, List.nil_append, Option.bind_some, if_true, if_false, Bool.false_eq_true, Nat.reduceSub, Nat.reduceAdd, Nat.reduceLeDiff, Nat.reduceLT, vAdd, vSub, vLt, vLe, vGt, vGe, vNeg, vEq, vNe, vEq2, vNe2, vMod, vDiv, vMul, vPow, Int.reduceToNat, vIx0, vIx1, vLenT, vLenC, vLenL, reduceIte, decide_true, decide_false, Bool.not_true, Bool.not_false, beq_self_eq_true, Bool.and_true, Bool.true_and, Bool.and_self, Bool.and_false, Bool.false_and, fC]
  have eL : eLc [7] (iL (eVar 1)) (gN 7) tTrue (eCall f__law_span (aCons (eZ (z2 gAdd (z2 gMul (z2 gMod (zVar 7) (z2 gPow (zC (.int 10)) (zC (.int 40)))) (zC (.int 31))) (zC (.int 5)))) aNil)) [some scr, some (.lst true C), some (.int g), some (.int M), some (.lst m B), none, none, none, none, none, none, none, none] = .ok (.lst true (ps.map spD)) [some scr, some (.lst false C), some (.int g), some (.int M), some (.lst m B), none, none, none, none, none, none, none, none] := by
    rw [x_lc, eI, x_b1]
    show lcE (lcL [7] (gN 7) tTrue (eCall f__law_span (aCons (eZ (z2 gAdd (z2 gMul (z2 gMod (zVar 7) (z2 gPow (zC (.int 10)) (zC (.int 40)))) (zC (.int 31))) (zC (.int 5)))) aNil)) C [] [some scr, some (.lst false C), some (.int g), some (.int M), some (.lst m B), none, none, none, none, none, none, none, none]) = _
    rw [e, x_lcE]
  have e1 : eLst (aCons (eTup (aCons (eZ (z1 gNeg (zC (.int 3)))) (aCons (eZ (zC (.int 5))) aNil))) aNil) [some scr, some (.lst true C), some (.int g), some (.int M), some (.lst m B), none, none, none, none, none, none, none, none] = .ok (.lst true [spD (-3, 5)]) [some scr, some (.lst true C), some (.int g), some (.int M), some (.lst m B), none, none, none, none, none, none, none, none] := by
    simp only [x_seq, x_seq1, x_seq2, x_seq3, x_seq4, x_seq5, x_seq6, x_nil, x_if, x_if1, x_if2, x_if3, x_ret, x_ret1, x_ret2, x_ret3, x_retN, x_asg, x_asg1, x_asg2, x_asg3, x_asg4, x_asg5, x_gN, x_drop, x_drop1, x_drop2, x_bk, x_ct, x_raise, x_tZ, x_tZ1, x_tZ2, x_tE, x_tE1, x_tE2, x_tE3, x_tAnd, x_tAnd1, x_tAnd2, x_tAnd3, x_tOr, x_tOr1, x_tOr2, x_tOr3, x_tNot, x_tNot1, x_tNot2, x_tNot3, x_tTrue, x_z2, x_z21, x_z1, x_z11, x_zC, x_zC1, x_za, x_za1, x_za0, x_zV, x_zK, x_ch, x_ch1, x_ch2, x_eZ, x_eZ1, x_eZ2, x_eV, x_eV1, x_eM, x_eM1, x_b1, x_b2, x_b3, x_s1, x_s2, x_s3, x_oO, x_oO2, x_e2, x_e1, x_eC, x_aN, x_aC, x_tup, x_lst, x_call, x_oC1, x_oC2, x_call0, x_call01, x_eAnd, x_eAnd1, x_eOr, x_eOr1, x_eNot, x_eNot1, x_eIf, x_eIf1, x_fz_int, x_fr_int, x_fz_bl, x_fr_bl, x_fz_str, x_fr_str, x_fz_ty, x_fr_ty, x_fz_tup, x_fr_tup, x_fz_cst, x_fr_cst, x_fz_lst_false, x_fr_lst_false, x_fz_non, x_fr_non, x_fz_lt, x_fr_lt, x_fL0, x_fL1, x_cF, x_cR1, x_cR2, x_cR3, x_iL, x_iL1, x_iT, x_iT1, x_iS, x_iS1, x_iR1, x_iR11, x_iR2, x_iR21, x_iE, x_iE1, x_iV, x_iV1, x_iZ, x_iZ1, x_for, x_fo0, x_fo1, x_fo2, x_fo3, x_fo4, x_fo5, x_fo6, x_fo7, x_gT, x_gC, x_gC0, x_try, x_try1, x_try2, x_try3, x_try4, x_try5, x_nx1, x_nx2, x_try6, x_try7, x_nx3, x_nx4, x_app, x_app1, x_app2, x_lc, x_lcE, x_lc0, x_lc1, x_lcG, x_w0, x_w1, vMinL4, vMaxL4, vAll3, vAny3, vAll4, vAny4, x_wh1, x_wh2, x_wh0, x_abs, vI_ii, vI_ib, vI_it, vI_il, vI_is, vI_bb, vI_bi, vI_tt, vI_tl, vI_ti, vI_ll, vI_lt, vI_ss, vEqB, vNeB, x_ta, x_ta1, x_ta2, x_ta3, x_ta4, x_ta5, x_is, nc_0, nc_1, nc_2, nc_3, nc_4, nc_5, nc_6, nc_7, nc_8, nc_9, nc_10, nc_11, vMax2, vMin2, vIsN0, vIsN1, vNotN0, vNotN1, vIsN2, vNotN2, x_lo, x_lo1, x_lo2, vAll2, vAny2, x_sl, x_sl1, x_sl2, x_pn, x_ps, x_ps1, x_cutL, x_cutC, vEqS, vNeS, x_fz_obj, x_fr_obj, x_make, x_meth, x_meth2, x_meth3, x_isO, x_isO1, x_cat, x_cat1, x_methZ, x_methZ2, x_methZ3, x_callZ, x_callZ1, x_lend1, x_lend2, x_cl_int, x_cl_bl, x_cl_str, x_cl_non, x_cl_tup, x_cl0, x_cl1, x_cl_lst, x_setIx, x_setIx1, x_setIx2, Option.map_some, List.getD_cons_zero, List.getD_cons_succ, List.set_cons_zero, List.set_cons_succ, List.map_cons, List.map_nil, List.replicate_zero, List.replicate_succ, List.length_cons, List.length_nil, List.cons_append, List.nil_append, Option.bind_some, if_true, if_false, Bool.false_eq_true, Nat.reduceSub, Nat.reduceAdd, Nat.reduceLeDiff, Nat.reduceLT, vAdd, vSub, vLt, vLe, vGt, vGe, vNeg, vEq, vNe, vEq2, vNe2, vMod, vDiv, vMul, vPow, Int.reduceToNat, vIx0, vIx1, vLenT, vLenC, vLenL, reduceIte, decide_true, decide_false, Bool.not_true, Bool.not_false, beq_self_eq_true, Bool.and_true, Bool.true_and, Bool.and_self, Bool.and_false, Bool.false_and, spD]
  have hcat : catD (freeze (.lst true [spD (-3, 5)])) (freeze (.lst true (ps.map spD))) = some (.lst true (((-3, 5) :: ps).map spD)) := by
    have f1 : freezeL [spD (-3, 5)] = [spD (-3, 5)] := rfl
    rw [x_fr_lt, x_fr_lt, fz_map (fun _ => rfl), f1, List.map_cons]
    exact vCat (by rw [List.length_map, hpl, lC, List.length_cons, List.length_nil]; omega)
  have hs : ∀ p ∈ ((-3, 5) :: ps : List (Int × Int)), SpB p := fun p hp => by
    rcases List.mem_cons.mp hp with rfl | hp
    · exact ⟨by decide, by decide, by decide⟩
    · exact hps p hp
  obtain ⟨τ', e5⟩ := u5 (S := ((-3, 5) :: ps).map spD) (scr := scr) (τ := [some scr, some (.lst false (cs.map D.int)), some (.int g), some (.int M), some (.lst m B), none, some (.lst true (((-3, 5) :: ps).map spD)), none, none, none, none, none, none]) hM rfl (by rw [List.length_map, List.length_cons]; omega) m1 hs hb rfl eB g1 g2 hl ⟨_, _, _, _, _, _, _, _, _, rfl⟩
  rw [hC] at e5 ⊢
  exact ⟨τ', x_seq_ok (x_asg_ok (x_cat_ok e1 eL hcat) rfl) e5⟩
theorem u3 {ns cs : List Int} {g M : Int} (m1 : 1 ≤ M) (m4 : M ≤ 4) (g1 : 1 ≤ g) (g2 : g ≤ 1000000) (hl : cs.length ≤ 63) : ∃ τ', u_law_3 [some (.cst (ns.map D.int)), some (.lst true (cs.map D.int)), some (.int g), some (.int M), none, none, none, none, none, none, none, none, none] = .rt (.bl true) τ' := by
  have gcell := @cell_j ns
  generalize ns.map D.int = scr at *
  generalize hC : cs.map D.int = C at *
  obtain ⟨n, hn⟩ : ∃ n, M.toNat = n := ⟨_, rfl⟩
  obtain ⟨es, ha, e⟩ := lc_all (g := gN 5) (own := [5]) (m := (eCall f__law_span (aCons (eCall f__law_cell (aCons (eVar 0) (aCons (eZ (z2 gAdd (zC (.int 2)) (zVar 5))) aNil))) aNil))) (fun _ e => ∃ p, e = spD p ∧ SpB p) [some (.cst scr), some (.lst true C), some (.int g), some (.int M), none, none, none, none, none, none, none, none, none] (rangeD 0 n) [] (by rw [length_rangeD, List.length_nil]; omega) (fun d hd => by
    obtain ⟨k, hk, rfl⟩ := mem_rangeD hd
    obtain ⟨c, hc⟩ := gcell (j := 2 + (0 + (k : Nat))) (by omega)
    obtain ⟨p, e, hp'⟩ := span_ok c
    refine ⟨spD p, [some (.cst scr), some (.lst true C), some (.int g), some (.int M), none, some (.int (0 + (k : Nat))), none, none, none, none, none, none, none], [some (.cst scr), some (.lst true C), some (.int g), some (.int M), none, some (.int (0 + (k : Nat))), none, none, none, none, none, none, none], x_gN, ?_, rfl, p, rfl, hp'⟩
    simp (disch := decide) only [x_seq, x_seq1, x_seq2, x_seq3, x_seq4, x_seq5, x_seq6, x_nil, x_if, x_if1, x_if2, x_if3, x_ret, x_ret1, x_ret2, x_ret3, x_retN, x_asg, x_asg1, x_asg2, x_asg3, x_asg4, x_asg5, x_gN, x_drop, x_drop1, x_drop2, x_bk, x_ct, x_raise, x_tZ, x_tZ1, x_tZ2, x_tE, x_tE1, x_tE2, x_tE3, x_tAnd, x_tAnd1, x_tAnd2, x_tAnd3, x_tOr, x_tOr1, x_tOr2, x_tOr3, x_tNot, x_tNot1, x_tNot2, x_tNot3, x_tTrue, x_z2, x_z21, x_z1, x_z11, x_zC, x_zC1, x_za, x_za1, x_za0, x_zV, x_zK, x_ch, x_ch1, x_ch2, x_eZ, x_eZ1, x_eZ2, x_eV, x_eV1, x_eM, x_eM1, x_b1, x_b2, x_b3, x_s1, x_s2, x_s3, x_oO, x_oO2, x_e2, x_e1, x_eC, x_aN, x_aC, x_tup, x_lst, x_call, x_oC1, x_oC2, x_call0, x_call01, x_eAnd, x_eAnd1, x_eOr, x_eOr1, x_eNot, x_eNot1, x_eIf, x_eIf1, x_fz_int, x_fr_int, x_fz_bl, x_fr_bl, x_fz_str, x_fr_str, x_fz_ty, x_fr_ty, x_fz_tup, x_fr_tup, x_fz_cst, x_fr_cst, x_fz_lst_false, x_fr_lst_false, x_fz_non, x_fr_non, x_fz_lt, x_fr_lt, x_fL0, x_fL1, x_cF, x_cR1, x_cR2, x_cR3, x_iL, x_iL1, x_iT, x_iT1, x_iS, x_iS1, x_iR1, x_iR11, x_iR2, x_iR21, x_iE, x_iE1, x_iV, x_iV1, x_iZ, x_iZ1, x_for, x_fo0, x_fo1, x_fo2, x_fo3, x_fo4, x_fo5, x_fo6, x_fo7, x_gT, x_gC, x_gC0, x_try, x_try1, x_try2, x_try3, x_try4, x_try5, x_nx1, x_nx2, x_try6, x_try7, x_nx3, x_nx4, x_app, x_app1, x_app2, x_lc, x_lcE, x_lc0, x_lc1, x_lcG, x_w0, x_w1, vMinL4, vMaxL4, vAll3, vAny3, vAll4, vAny4, x_wh1, x_wh2, x_wh0, x_abs, vI_ii, vI_ib, vI_it, vI_il, vI_is, vI_bb, vI_bi, vI_tt, vI_tl, vI_ti, vI_ll, vI_lt, vI_ss, vEqB, vNeB, x_ta, x_ta1, x_ta2, x_ta3, x_ta4, x_ta5, x_is, nc_0, nc_1, nc_2, nc_3, nc_4, nc_5, nc_6, nc_7, nc_8, nc_9, nc_10, nc_11, vMax2, vMin2, vIsN0, vIsN1, vNotN0, vNotN1, vIsN2, vNotN2, x_lo, x_lo1, x_lo2, vAll2, vAny2, x_sl, x_sl1, x_sl2, x_pn, x_ps, x_ps1, x_cutL, x_cutC, vEqS, vNeS, x_fz_obj, x_fr_obj, x_make, x_meth, x_meth2, x_meth3, x_isO, x_isO1, x_cat, x_cat1, x_methZ, x_methZ2, x_methZ3, x_callZ, x_callZ1, x_lend1, x_lend2, x_cl_int, x_cl_bl, x_cl_str, x_cl_non, x_cl_tup, x_cl0, x_cl1, x_cl_lst, x_setIx, x_setIx1, x_setIx2, Option.map_some, List.getD_cons_zero, List.getD_cons_succ, List.set_cons_zero, List.set_cons_succ, List.map_cons, List.map_nil, List.replicate_zero, List.replicate_succ, List.length_cons, List.length_nil, List.cons_append, List.nil_append, Option.bind_some, if_true, if_false, Bool.false_eq_true, Nat.reduceSub, Nat.reduceAdd, Nat.reduceLeDiff, Nat.reduceLT, vAdd, vSub, vLt, vLe, vGt, vGe, vNeg, vEq, vNe, vEq2, vNe2, vMod, vDiv, vMul, vPow, Int.reduceToNat, vIx0, vIx1, vLenT, vLenC, vLenL, reduceIte, decide_true, decide_false, Bool.not_true, Bool.not_false, beq_self_eq_true, Bool.and_true, Bool.true_and, Bool.and_self, Bool.and_false, Bool.false_and, hc, e])
  rw [List.nil_append] at e
  obtain ⟨ps, rfl, hps, hpl⟩ := sp_right ha
  rw [length_rangeD] at hpl
  have eL : eLc [5] (iR1 (aCons (eVar 3) aNil)) (gN 5) tTrue (eCall f__law_span (aCons (eCall f__law_cell (aCons (eVar 0) (aCons (eZ (z2 gAdd (zC (.int 2)) (zVar 5))) aNil))) aNil)) [some (.cst scr), some (.lst true C), some (.int g), some (.int M), none, none, none, none, none, none, none, none, none] = .ok (.lst true (ps.map spD)) [some (.cst scr), some (.lst true C), some (.int g), some (.int M), none, none, none, none, none, none, none, none, none] := by
    rw [x_lc_range (N := M) (n := n) (τ1 := [some (.cst scr), some (.lst true C), some (.int g), some (.int M), none, none, none, none, none, none, none, none, none]) (by simp only [x_seq, x_seq1, x_seq2, x_seq3, x_seq4, x_seq5, x_seq6, x_nil, x_if, x_if1, x_if2, x_if3, x_ret, x_ret1, x_ret2, x_ret3, x_retN, x_asg, x_asg1, x_asg2, x_asg3, x_asg4, x_asg5, x_gN, x_drop, x_drop1, x_drop2, x_bk, x_ct, x_raise, x_tZ, x_tZ1, x_tZ2, x_tE, x_tE1, x_tE2, x_tE3, x_tAnd, x_tAnd1, x_tAnd2, x_tAnd3, x_tOr, x_tOr1, x_tOr2, x_tOr3, x_tNot, x_tNot1, x_tNot2, x_tNot3, x_tTrue, x_z2, x_z21, x_z1, x_z11, x_zC, x_zC1, x_za, x_za1, x_za0, x_zV, x_zK, x_ch, x_ch1, x_ch2, x_eZ, x_eZ1, x_eZ2, x_eV, x_eV1, x_eM, x_eM1, x_b1, x_b2, x_b3, x_s1, x_s2, x_s3, x_oO, x_oO2, x_e2, x_e1, x_eC, x_aN, x_aC, x_tup, x_lst, x_call, x_oC1, x_oC2, x_call0, x_call01, x_eAnd, x_eAnd1, x_eOr, x_eOr1, x_eNot, x_eNot1, x_eIf, x_eIf1, x_fz_int, x_fr_int, x_fz_bl, x_fr_bl, x_fz_str, x_fr_str, x_fz_ty, x_fr_ty, x_fz_tup, x_fr_tup, x_fz_cst, x_fr_cst, x_fz_lst_false, x_fr_lst_false, x_fz_non, x_fr_non, x_fz_lt, x_fr_lt, x_fL0, x_fL1, x_cF, x_cR1, x_cR2, x_cR3, x_iL, x_iL1, x_iT, x_iT1, x_iS, x_iS1, x_iR1, x_iR11, x_iR2, x_iR21, x_iE, x_iE1, x_iV, x_iV1, x_iZ, x_iZ1, x_for, x_fo0, x_fo1, x_fo2, x_fo3, x_fo4, x_fo5, x_fo6, x_fo7, x_gT, x_gC, x_gC0, x_try, x_try1, x_try2, x_try3, x_try4, x_try5, x_nx1, x_nx2, x_try6, x_try7, x_nx3, x_nx4, x_app, x_app1, x_app2, x_lc, x_lcE, x_lc0, x_lc1, x_lcG, x_w0, x_w1, vMinL4, vMaxL4, vAll3, vAny3, vAll4, vAny4, x_wh1, x_wh2, x_wh0, x_abs, vI_ii, vI_ib, vI_it, vI_il, vI_is, vI_bb, vI_bi, vI_tt, vI_tl, vI_ti, vI_ll, vI_lt, vI_ss, vEqB, vNeB, x_ta, x_ta1, x_ta2, x_ta3, x_ta4, x_ta5, x_is, nc_0, nc_1, nc_2, nc_3, nc_4, nc_5, nc_6, nc_7, nc_8, nc_9, nc_10, nc_11, vMax2, vMin2, vIsN0, vIsN1, vNotN0, vNotN1, vIsN2, vNotN2, x_lo, x_lo1, x_lo2, vAll2, vAny2, x_sl, x_sl1, x_sl2, x_pn, x_ps, x_ps1, x_cutL, x_cutC, vEqS, vNeS, x_fz_obj, x_fr_obj, x_make, x_meth, x_meth2, x_meth3, x_isO, x_isO1, x_cat, x_cat1, x_methZ, x_methZ2, x_methZ3, x_callZ, x_callZ1, x_lend1, x_lend2, x_cl_int, x_cl_bl, x_cl_str, x_cl_non, x_cl_tup, x_cl0, x_cl1, x_cl_lst, x_setIx, x_setIx1, x_setIx2, Option.map_some, List.getD_cons_zero, List.getD_cons_succ, List.set_cons_zero, List.set_cons_succ, List.map_cons, List.map_nil, List.replicate_zero, List.replicate_succ, List.length_cons, List.length_nil, List.cons_append, List.nil_append, Option.bind_some, if_true, if_false, Bool.false_eq_true, Nat.reduceSub, Nat.reduceAdd, Nat.reduceLeDiff, Nat.reduceLT, vAdd, vSub, vLt, vLe, vGt, vGe, vNeg, vEq, vNe, vEq2, vNe2, vMod, vDiv, vMul, vPow, Int.reduceToNat, vIx0, vIx1, vLenT, vLenC, vLenL, reduceIte, decide_true, decide_false, Bool.not_true, Bool.not_false, beq_self_eq_true, Bool.and_true, Bool.true_and, Bool.and_self, Bool.and_false, Bool.false_and]) (by omega) (by omega) hn]
    show lcE (lcL [5] (gN 5) tTrue (eCall f__law_span (aCons (eCall f__law_cell (aCons (eVar 0) (aCons (eZ (z2 gAdd (zC (.int 2)) (zVar 5))) aNil))) aNil)) (rangeD 0 n) [] [some (.cst scr), some (.lst true C), some (.int g), some (.int M), none, none, none, none, none, none, none, none, none]) = _
    rw [e, x_lcE]
  obtain ⟨τ', e4⟩ := u4 (bs := ps) (scr := .cst scr) (g := g) (M := M) (cs := cs) (m := true) (by omega) m1 hps rfl g1 g2 hl
  rw [hC] at e4
  exact ⟨τ', x_seq_ok (x_asg_ok eL rfl) e4⟩
theorem law_true (ns : List Int) (h : ns.length ≤ 63) : f_law [.cst (ns.map D.int)] = .ok (.bl true) := by
  obtain ⟨cs, hcs, hl⟩ : ∃ cs : List Int, cutL (ns.map D.int) (some 6) (some 62) = cs.map D.int ∧ cs.length ≤ 63 := ⟨_, cut_map _ _ _ _, Nat.le_trans (cut_length_le _ _ _) h⟩
  obtain ⟨c0, e0⟩ := cell_j ns (j := 0) (by decide)
  obtain ⟨c1, e1⟩ := cell_j ns (j := 1) (by decide)
  obtain ⟨g, eg, g1, g2⟩ := grid_ok c0
  obtain ⟨M, hM, m1, m4⟩ : ∃ M, 1 + c1 % 4 = M ∧ 1 ≤ M ∧ M ≤ 4 := ⟨_, rfl, by omega, by omega⟩
  obtain ⟨τ', e⟩ := u3 (ns := ns) (cs := cs) (g := g) (M := M) m1 m4 g1 g2 hl
  have k : m_law [some (.cst (ns.map D.int)), none, none, none, none, none, none, none, none, none, none, none, none] = .rt (.bl true) τ' := by
    generalize ns.map D.int = scr at *
    generalize cs.map D.int = C at *
    simp (disch := decide) only [m_law, u_law_1, u_law_2, x_seq, x_seq1, x_seq2, x_seq3, x_seq4, x_seq5, x_seq6, x_nil, x_if, x_if1, x_if2, x_if3, x_ret, x_ret1, x_ret2, x_ret3, x_retN, x_asg, x_asg1, x_asg2, x_asg3, x_asg4, x_asg5, x_gN, x_drop, x_drop1, x_drop2, x_bk, x_ct, x_raise, x_tZ, x_tZ1, x_tZ2, x_tE, x_tE1, x_tE2, x_tE3, x_tAnd, x_tAnd1, x_tAnd2, x_tAnd3, x_tOr, x_tOr1, x_tOr2, x_tOr3, x_tNot, x_tNot1, x_tNot2, x_tNot3, x_tTrue, x_z2, x_z21, x_z1, x_z11, x_zC, x_zC1, x_za, x_za1, x_za0, x_zV, x_zK, x_ch, x_ch1, x_ch2, x_eZ, x_eZ1, x_eZ2, x_eV, x_eV1, x_eM, x_eM1, x_b1, x_b2, x_b3, x_s1, x_s2, x_s3, x_oO, x_oO2, x_e2, x_e1, x_eC, x_aN, x_aC, x_tup, x_lst, x_call, x_oC1, x_oC2, x_call0, x_call01, x_eAnd, x_eAnd1, x_eOr, x_eOr1, x_eNot, x_eNot1, x_eIf, x_eIf1, x_fz_int, x_fr_int, x_fz_bl, x_fr_bl, x_fz_str, x_fr_str, x_fz_ty, x_fr_ty, x_fz_tup, x_fr_tup, x_fz_cst, x_fr_cst, x_fz_lst_false, x_fr_lst_false, x_fz_non, x_fr_non, x_fz_lt, x_fr_lt, x_fL0, x_fL1, x_cF, x_cR1, x_cR2, x_cR3, x_iL, x_iL1, x_iT, x_iT1, x_iS, x_iS1, x_iR1, x_iR11, x_iR2, x_iR21, x_iE, x_iE1, x_iV, x_iV1, x_iZ, x_iZ1, x_for, x_fo0, x_fo1, x_fo2, x_fo3, x_fo4, x_fo5, x_fo6, x_fo7, x_gT, x_gC, x_gC0, x_try, x_try1, x_try2, x_try3, x_try4, x_try5, x_nx1, x_nx2, x_try6, x_try7, x_nx3, x_nx4, x_app, x_app1, x_app2, x_lc, x_lcE, x_lc0, x_lc1, x_lcG, x_w0, x_w1, vMinL4, vMaxL4, vAll3, vAny3, vAll4, vAny4, x_wh1, x_wh2, x_wh0, x_abs, vI_ii, vI_ib, vI_it, vI_il, vI_is, vI_bb, vI_bi, vI_tt, vI_tl, vI_ti, vI_ll, vI_lt, vI_ss, vEqB, vNeB, x_ta, x_ta1, x_ta2, x_ta3, x_ta4, x_ta5, x_is, nc_0, nc_1, nc_2, nc_3, nc_4, nc_5, nc_6, nc_7, nc_8, nc_9, nc_10, nc_11, vMax2, vMin2, vIsN0, vIsN1, vNotN0, vNotN1, vIsN2, vNotN2, x_lo, x_lo1, x_lo2, vAll2, vAny2, x_sl, x_sl1, x_sl2, x_pn, x_ps, x_ps1, x_cutL, x_cutC, vEqS, vNeS, x_fz_obj, x_fr_obj, x_make, x_meth, x_meth2, x_meth3, x_isO, x_isO1, x_cat, x_cat1, x_methZ, x_methZ2, x_methZ3, x_callZ, x_callZ1, x_lend1, x_lend2, x_cl_int, x_cl_bl, x_cl_str, x_cl_non, x_cl_tup, x_cl0, x_cl1, x_cl_lst, x_setIx, x_setIx1, x_setIx2, Option.map_some, List.getD_cons_zero, List.getD_cons_succ, List.set_cons_zero, List.set_cons_succ, List.map_cons, List.map_nil, List.replicate_zero, List.replicate_succ, List.length_cons, List.length_nil, List.cons_append, List.nil_append, Option.bind_some, if_true, if_false, Bool.false_eq_true, Nat.reduceSub, Nat.reduceAdd, Nat.reduceLeDiff, Nat.reduceLT, vAdd, vSub, vLt, vLe, vGt, vGe, vNeg, vEq, vNe, vEq2, vNe2, vMod, vDiv, vMul, vPow, Int.reduceToNat, vIx0, vIx1, vLenT, vLenC, vLenL, reduceIte, decide_true, decide_false, Bool.not_true, Bool.not_false, beq_self_eq_true, Bool.and_true, Bool.true_and, Bool.and_self, Bool.and_false, Bool.false_and, hcs, e0, e1, eg, hM, e]
  show callR (m_law [some (.cst (ns.map D.int)), none, none, none, none, none, none, none, none, none, none, none, none]) = _
  rw [k, x_cR2]

end Lw

namespace Lw
open PySem PySem.Spec PyProof.Rows L2 Bn
/-! ### what the top has written -/
structure Tx (K : PySem.W.Frag) (mg : Str → Option Value) (ca : Str → Addr) : Prop where
  abs_ : mg "abs" = none
  bool_ : mg "bool" = none
  int_ : mg "int" = none
  isinstance : mg "isinstance" = none
  len_ : mg "len" = none
  list_ : mg "list" = none
  max_ : mg "max" = none
  min_ : mg "min" = none
  range : mg "range" = none
  tuple_ : mg "tuple" = none
  cl_Node : Cls K (ca "Node")
  cl_Number : Cls K (ca "Number")
  cl_Unknown : Cls K (ca "Unknown")
  cl_Plus : Cls K (ca "Plus")
  cl_Minus : Cls K (ca "Minus")
  cl_Times : Cls K (ca "Times")
  cl_Power : Cls K (ca "Power")
  na_Minus_one : NoAttr K (ca "Minus") "one"
  na_Minus_other : NoAttr K (ca "Minus") "other"
  na_Number_bottom : NoAttr K (ca "Number") "bottom"
  na_Number_top : NoAttr K (ca "Number") "top"
  na_Plus_one : NoAttr K (ca "Plus") "one"
  na_Plus_other : NoAttr K (ca "Plus") "other"
  na_Power_many : NoAttr K (ca "Power") "many"
  na_Power_one : NoAttr K (ca "Power") "one"
  na_Times_one : NoAttr K (ca "Times") "one"
  na_Times_other : NoAttr K (ca "Times") "other"
  na_Unknown_place : NoAttr K (ca "Unknown") "place"
section
variable {P : Program} {w : World} {K : PySem.W.Frag} {mg : Str → Option Value} {base : Heap} {ca : Str → Addr}
theorem ok__law_grid (T : Tx K mg ca)  {f : Addr} {fd : FuncData} (F : Fun K "_law_grid" "_law_grid" s__law_grid f fd) : FnOk P w K mg base (L2.CX P w) 1 f fd ["_law_cell_here"] (spP K ca f__law_grid) :=
  fn_ok F sc__law_grid fun cdv A outer s H E F0 R hr c => (s_cons (s_set (i := 1) sc__law_grid.nd rfl (.inl rfl) (e_z (z_op op_mod sMod (z_var (pv 0)) (z_op op_pow sPow z_int z_int))))
    (s_one (s_ret (e_op op_add sAdd (e_z z_int) (e_op op_mod sMod (e_z (z_op op_mod sMod (z_op op_mulW sMul (z_op op_fdivW sDiv (z_var (pv 1)) z_int) z_int) z_int)) (e_ix ix_seq sIx (e_lst (a_cons (e_z z_int) (a_cons (e_z z_int) (a_cons (e_z z_int) (a_cons (e_z z_int) a_nil))))) (e_z (z_op op_mod sMod (z_var (pv 1)) z_int))))))))
theorem ok__law_cell (T : Tx K mg ca)  {f : Addr} {fd : FuncData} (F : Fun K "_law_cell" "_law_cell" s__law_cell f fd) : FnOk P w K mg base (L2.CX P w) 1 f fd ["_law_script", "_law_k"] (spP K ca f__law_cell) :=
  fn_ok F sc__law_cell fun cdv A outer s H E F0 R hr c => (s_cons (s_if (t_cmpZ op_lt sLt (z_var (pv 1)) (z_callB call_len sLen (by rfl) T.len_ (by decide +kernel) (za_cons (z_var (pv 0)) za_nil))) (s_one (s_ret (e_z (z_ix ix_seq sIx (z_var (pv 0)) (z_var (pv 1)))))) s_nil)
    (s_one (s_ret (e_z z_int))))
theorem ok__law_span (T : Tx K mg ca)  {f : Addr} {fd : FuncData} (F : Fun K "_law_span" "_law_span" s__law_span f fd) : FnOk P w K mg base (L2.CX P w) 1 f fd ["_law_cell_here"] (spP K ca f__law_span) :=
  fn_ok F sc__law_span fun cdv A outer s H E F0 R hr c => (s_cons (s_set (i := 1) sc__law_span.nd rfl (.inl rfl) (e_z (z_op op_mod sMod (z_var (pv 0)) (z_op op_pow sPow z_int z_int))))
    (s_cons (s_set (i := 2) sc__law_span.nd rfl (.inl rfl) (e_z (z_op op_mod sMod (z_var (pv 1)) z_int)))
    (s_cons (s_set (i := 1) sc__law_span.nd rfl (.inl rfl) (e_z (z_op op_fdivW sDiv (z_var (pv 1)) z_int)))
    (s_cons (s_if (t_cmpZ (op_eqD hr.units) sEq (z_var (pv 2)) z_int) (s_cons (s_set (i := 3) sc__law_span.nd rfl (.inl rfl) (e_z (z_op op_sub sSub (z_op op_mod sMod (z_var (pv 1)) z_int) z_int)))
    (s_one (s_ret (e_tup (a_cons (e_var (pv 3)) (a_cons (e_z (z_callB (call_min2 c.calm) sMin2 (by rfl) T.min_ (by decide +kernel) (za_cons z_int (za_cons (z_op op_add sAdd (z_var (pv 3)) (z_op op_mod sMod (z_op op_mulW sMul (z_var (pv 1)) z_int) (z_op op_pow sPow z_int z_int))) za_nil)))) a_nil)))))) s_nil)
    (s_cons (s_set (i := 3) sc__law_span.nd rfl (.inl rfl) (e_z (z_op op_sub sSub (z_op op_mod sMod (z_var (pv 1)) z_int) z_int)))
    (s_cons (s_set (i := 4) sc__law_span.nd rfl (.inl rfl) (e_z (z_op op_mod sMod (z_op op_mod sMod (z_op op_mulW sMul (z_var (pv 1)) z_int) z_int) z_int)))
    (s_cons (s_if (t_cmpZ (op_eqD hr.units) sEq (z_var (pv 2)) z_int) (s_one (s_set (i := 4) sc__law_span.nd rfl (.inl rfl) (e_z (z_op op_mod sMod (z_var (pv 4)) z_int)))) s_nil)
    (s_cons (s_if (t_cmpZ (op_eqD hr.units) sEq (z_var (pv 2)) z_int) (s_one (s_ret (e_tup (a_cons (e_z (z_op op_mulW sMul (z_var (pv 3)) z_int)) (a_cons (e_z (z_op op_add sAdd (z_op op_mulW sMul (z_var (pv 3)) z_int) (z_op op_mulW sMul (z_var (pv 4)) z_int))) a_nil))))) s_nil)
    (s_one (s_ret (e_tup (a_cons (e_var (pv 3)) (a_cons (e_z (z_op op_add sAdd (z_var (pv 3)) (z_var (pv 4)))) a_nil)))))))))))))
theorem ok__law_divisor (T : Tx K mg ca)  {f : Addr} {fd : FuncData} (F : Fun K "_law_divisor" "_law_divisor" s__law_divisor f fd) : FnOk P w K mg base (L2.CX P w) 1 f fd ["_law_a", "_law_b"] (spP K ca f__law_divisor) :=
  fn_ok F sc__law_divisor fun cdv A outer s H E F0 R hr c => (s_cons (s_while c fuel__law_divisor1 (t_cmpZ op_gt sGt (z_var (pv 1)) z_int) (s_cons (s_set (i := 2) sc__law_divisor.nd rfl (.inl rfl) (e_z (z_op op_mod sMod (z_var (pv 0)) (z_var (pv 1)))))
    (s_cons (s_set (i := 0) sc__law_divisor.nd rfl (.inl rfl) (e_var (pv 1)))
    (s_one (s_set (i := 1) sc__law_divisor.nd rfl (.inl rfl) (e_var (pv 2)))))))
    (s_one (s_ret (e_mv (pv 0)))))
theorem ok__law_fraction (T : Tx K mg ca) (G__law_divisor : Fo P w K mg base ca 1 "_law_divisor" f__law_divisor) {f : Addr} {fd : FuncData} (F : Fun K "_law_fraction" "_law_fraction" s__law_fraction f fd) : FnOk P w K mg base (L2.CX P w) 2 f fd ["_law_top", "_law_bottom"] (spP K ca f__law_fraction) :=
  fn_ok F sc__law_fraction fun cdv A outer s H E F0 R hr c => (s_cons (s_set (i := 2) sc__law_fraction.nd rfl (.inl rfl) (e_call c G__law_divisor hr (by rfl) (a_cons (e_z (z_callB call_abs sAbs (by rfl) T.abs_ (by decide +kernel) (za_cons (z_var (pv 0)) za_nil))) (a_cons (e_var (pv 1)) a_nil))))
    (s_one (s_ret (e_tup (a_cons (e_z (z_op op_fdivW sDiv (z_var (pv 0)) (z_var (pv 2)))) (a_cons (e_z (z_op op_fdivW sDiv (z_var (pv 1)) (z_var (pv 2)))) a_nil))))))
theorem ok__law_number (T : Tx K mg ca) (G__law_fraction : Fo P w K mg base ca 2 "_law_fraction" f__law_fraction) {f : Addr} {fd : FuncData} (F : Fun K "_law_number" "_law_number" s__law_number f fd) : FnOk P w K mg base (L2.CX P w) 3 f fd ["_law_cell_here"] (spP K ca f__law_number) :=
  fn_ok F sc__law_number fun cdv A outer s H E F0 R hr c => (s_cons (s_set (i := 1) sc__law_number.nd rfl (.inl rfl) (e_z (z_op op_mod sMod (z_var (pv 0)) (z_op op_pow sPow z_int z_int))))
    (s_cons (s_if (t_cmpZ (op_eqD hr.units) sEq (z_op op_mod sMod (z_var (pv 1)) z_int) z_int) (s_one (s_set (i := 2) sc__law_number.nd rfl (.inl rfl) (e_call c G__law_fraction hr (by rfl) (a_cons (e_z (z_op op_sub sSub (z_op op_mod sMod (z_op op_fdivW sDiv (z_var (pv 1)) z_int) z_int) z_int)) (a_cons (e_z (z_op op_add sAdd z_int (z_op op_mod sMod (z_op op_mulW sMul (z_var (pv 1)) z_int) z_int))) a_nil))))) (s_one (s_set (i := 2) sc__law_number.nd rfl (.inl rfl) (e_call c G__law_fraction hr (by rfl) (a_cons (e_z (z_op op_sub sSub (z_op op_mod sMod (z_op op_fdivW sDiv (z_var (pv 1)) z_int) z_int) z_int)) (a_cons (e_z (z_op op_add sAdd z_int (z_op op_mod sMod (z_op op_mod sMod (z_op op_mulW sMul (z_var (pv 1)) z_int) z_int) z_int))) a_nil))))))
    (s_one (s_ret (e_tup (a_cons (e_z z_str) (a_cons (e_z (z_ix ix_seq sIx (z_var (pv 2)) z_int)) (a_cons (e_z (z_ix ix_seq sIx (z_var (pv 2)) z_int)) a_nil))))))))
theorem ok__law_node (T : Tx K mg ca) (G__law_number : Fo P w K mg base ca 3 "_law_number" f__law_number) {f : Addr} {fd : FuncData} (F : Fun K "_law_node" "_law_node" s__law_node f fd) : FnOk P w K mg base (L2.CX P w) 4 f fd ["_law_cell_here", "_law_size", "_law_many"] (spP K ca f__law_node) :=
  fn_ok F sc__law_node fun cdv A outer s H E F0 R hr c => (s_cons (s_set (i := 3) sc__law_node.nd rfl (.inl rfl) (e_z (z_op op_mod sMod (z_var (pv 0)) (z_op op_pow sPow z_int z_int))))
    (s_cons (s_set (i := 4) sc__law_node.nd rfl (.inl rfl) (e_z (z_op op_mod sMod (z_var (pv 3)) z_int)))
    (s_cons (s_set (i := 3) sc__law_node.nd rfl (.inl rfl) (e_z (z_op op_fdivW sDiv (z_var (pv 3)) z_int)))
    (s_cons (s_if (t_cmpZ (op_eqD hr.units) sEq (z_var (pv 4)) z_int) (s_one (s_ret (e_call c G__law_number hr (by rfl) (a_cons (e_var (pv 3)) a_nil)))) s_nil)
    (s_cons (s_if (PW.pt (t_or (t_cmpZ (op_eqD hr.units) sEq (z_var (pv 4)) z_int) (t_or1 (t_cmpZ (op_eqD hr.units) sEq (z_var (pv 1)) z_int)))) (s_one (s_ret (e_tup (a_cons (e_z z_str) (a_cons (e_z (z_op op_mod sMod (z_var (pv 3)) (z_var (pv 2)))) a_nil))))) s_nil)
    (s_cons (s_set (i := 5) sc__law_node.nd rfl (.inl rfl) (e_z (z_op op_mod sMod (z_var (pv 3)) (z_var (pv 1)))))
    (s_cons (s_if (t_cmpZ (op_eqD hr.units) sEq (z_op op_mod sMod (z_var (pv 3)) z_int) z_int) (s_one (s_set (i := 5) sc__law_node.nd rfl (.inl rfl) (e_z (z_op op_sub sSub (z_var (pv 1)) z_int)))) s_nil)
    (s_cons (s_if (t_cmpZ (op_eqD hr.units) sEq (z_var (pv 4)) z_int) (s_one (s_ret (e_tup (a_cons (e_z z_str) (a_cons (e_var (pv 5)) (a_cons (e_z (z_op op_add sAdd z_int (z_op op_mod sMod (z_op op_mod sMod (z_op op_mulW sMul (z_var (pv 3)) z_int) z_int) z_int))) a_nil)))))) s_nil)
    (s_one (s_ret (e_tup (a_cons (e_ix ix_seq sIx (e_lst (a_cons (e_z z_str) (a_cons (e_z z_str) (a_cons (e_z z_str) a_nil)))) (e_z (z_op op_mod sMod (z_var (pv 4)) z_int))) (a_cons (e_var (pv 5)) (a_cons (e_z (z_op op_mod sMod (z_op op_mod sMod (z_op op_mulW sMul (z_var (pv 3)) z_int) z_int) (z_var (pv 1)))) a_nil))))))))))))))
theorem ok__law_power (T : Tx K mg ca)  {f : Addr} {fd : FuncData} (F : Fun K "_law_power" "_law_power" s__law_power f fd) : FnOk P w K mg base (L2.CX P w) 1 f fd ["_law_a", "_law_many"] (spP K ca f__law_power) :=
  fn_ok F sc__law_power fun cdv A outer s H E F0 R hr c => (s_cons (s_set (i := 2) sc__law_power.nd rfl (.inl rfl) (e_z z_int))
    (s_cons (s_for c (i_range1 (by rfl) T.range (a_cons (e_var (pv 1)) a_nil)) (g_name (i := 3) sc__law_power.nd rfl (.inl rfl)) (s_one (s_set (i := 2) sc__law_power.nd rfl (.inl rfl) (e_z (z_op op_mulW sMul (z_var (pv 2)) (z_var (pv 0)))))))
    (s_one (s_ret (e_mv (pv 2))))))
theorem ok__law_forth (T : Tx K mg ca) (G__law_power : Fo P w K mg base ca 1 "_law_power" f__law_power) {f : Addr} {fd : FuncData} (F : Fun K "_law_forth" "_law_forth" s__law_forth f fd) : FnOk P w K mg base (L2.CX P w) 2 f fd ["_law_node_here", "_law_spans", "_law_box", "_law_grid_here"] (spP K ca f__law_forth) :=
  fn_ok F sc__law_forth fun cdv A outer s H E F0 R hr c => (s_cons (s_if (t_cmpZ (op_eqD hr.units) sEq (z_ix ix_seq sIx (z_var (pv 0)) z_int) z_str) (s_one (s_ret (e_tup (a_cons (e_z (z_op op_fdivW sDiv (z_op op_mulW sMul (z_ix ix_seq sIx (z_var (pv 0)) z_int) (z_var (pv 3))) (z_ix ix_seq sIx (z_var (pv 0)) z_int))) (a_cons (e_z (z_un un_neg sNeg (z_op op_fdivW sDiv (z_op op_mulW sMul (z_un un_neg sNeg (z_ix ix_seq sIx (z_var (pv 0)) z_int)) (z_var (pv 3))) (z_ix ix_seq sIx (z_var (pv 0)) z_int)))) a_nil))))) s_nil)
    (s_cons (s_if (t_cmpZ (op_eqD hr.units) sEq (z_ix ix_seq sIx (z_var (pv 0)) z_int) z_str) (s_one (s_ret (e_z (z_ix ix_seq sIx (z_var (pv 2)) (z_ix ix_seq sIx (z_var (pv 0)) z_int))))) s_nil)
    (s_cons (s_set (i := 4) sc__law_forth.nd rfl (.inl rfl) (e_z (z_ix ix_seq sIx (z_var (pv 1)) (z_ix ix_seq sIx (z_var (pv 0)) z_int))))
    (s_cons (s_if (t_cmpZ (op_eqD hr.units) sEq (z_ix ix_seq sIx (z_var (pv 0)) z_int) z_str) (s_cons (s_set (i := 5) sc__law_forth.nd rfl (.inl rfl) (e_call c G__law_power hr (by rfl) (a_cons (e_var (pv 3)) (a_cons (e_z (z_op op_sub sSub (z_ix ix_seq sIx (z_var (pv 0)) z_int) z_int)) a_nil))))
    (s_cons (s_set (i := 6) sc__law_forth.nd rfl (.inl rfl) (e_lst (a_cons (e_call c G__law_power hr (by rfl) (a_cons (e_z (z_ix ix_seq sIx (z_var (pv 4)) z_int)) (a_cons (e_z (z_ix ix_seq sIx (z_var (pv 0)) z_int)) a_nil))) (a_cons (e_call c G__law_power hr (by rfl) (a_cons (e_z (z_ix ix_seq sIx (z_var (pv 4)) z_int)) (a_cons (e_z (z_ix ix_seq sIx (z_var (pv 0)) z_int)) a_nil))) a_nil))))
    (s_cons (s_set (i := 7) sc__law_forth.nd rfl (.inl rfl) (e_z (z_callB (cr_min c.calm) sMinL (by rfl) T.min_ (by decide +kernel) (za_cons (z_var (pv 6)) za_nil))))
    (s_cons (s_if (PW.pt (t_and (t_cmpZ (op_eqD hr.units) sEq (z_op op_mod sMod (z_ix ix_seq sIx (z_var (pv 0)) z_int) z_int) z_int) (t_and1 (t_chain op_le sLe op_le sLe (z_ix ix_seq sIx (z_var (pv 4)) z_int) z_int (z_ix ix_seq sIx (z_var (pv 4)) z_int))))) (s_one (s_set (i := 7) sc__law_forth.nd rfl (.inl rfl) (e_z z_int))) s_nil)
    (s_one (s_ret (e_tup (a_cons (e_z (z_op op_fdivW sDiv (z_var (pv 7)) (z_var (pv 5)))) (a_cons (e_z (z_un un_neg sNeg (z_op op_fdivW sDiv (z_un un_neg sNeg (z_callB (cr_max c.calm) sMaxL (by rfl) T.max_ (by decide +kernel) (za_cons (z_var (pv 6)) za_nil))) (z_var (pv 5))))) a_nil))))))))) s_nil)
    (s_cons (s_set (i := 8) sc__law_forth.nd rfl (.inl rfl) (e_z (z_ix ix_seq sIx (z_var (pv 1)) (z_ix ix_seq sIx (z_var (pv 0)) z_int))))
    (s_cons (s_if (t_cmpZ (op_eqD hr.units) sEq (z_ix ix_seq sIx (z_var (pv 0)) z_int) z_str) (s_one (s_ret (e_tup (a_cons (e_z (z_op op_add sAdd (z_ix ix_seq sIx (z_var (pv 4)) z_int) (z_ix ix_seq sIx (z_var (pv 8)) z_int))) (a_cons (e_z (z_op op_add sAdd (z_ix ix_seq sIx (z_var (pv 4)) z_int) (z_ix ix_seq sIx (z_var (pv 8)) z_int))) a_nil))))) s_nil)
    (s_cons (s_if (t_cmpZ (op_eqD hr.units) sEq (z_ix ix_seq sIx (z_var (pv 0)) z_int) z_str) (s_one (s_ret (e_tup (a_cons (e_z (z_op op_sub sSub (z_ix ix_seq sIx (z_var (pv 4)) z_int) (z_ix ix_seq sIx (z_var (pv 8)) z_int))) (a_cons (e_z (z_op op_sub sSub (z_ix ix_seq sIx (z_var (pv 4)) z_int) (z_ix ix_seq sIx (z_var (pv 8)) z_int))) a_nil))))) s_nil)
    (s_cons (s_set (i := 6) sc__law_forth.nd rfl (.inl rfl) (e_lst (a_cons (e_z (z_op op_mulW sMul (z_ix ix_seq sIx (z_var (pv 4)) z_int) (z_ix ix_seq sIx (z_var (pv 8)) z_int))) (a_cons (e_z (z_op op_mulW sMul (z_ix ix_seq sIx (z_var (pv 4)) z_int) (z_ix ix_seq sIx (z_var (pv 8)) z_int))) (a_cons (e_z (z_op op_mulW sMul (z_ix ix_seq sIx (z_var (pv 4)) z_int) (z_ix ix_seq sIx (z_var (pv 8)) z_int))) (a_cons (e_z (z_op op_mulW sMul (z_ix ix_seq sIx (z_var (pv 4)) z_int) (z_ix ix_seq sIx (z_var (pv 8)) z_int))) a_nil))))))
    (s_one (s_ret (e_tup (a_cons (e_z (z_op op_fdivW sDiv (z_callB (cr_min c.calm) sMinL (by rfl) T.min_ (by decide +kernel) (za_cons (z_var (pv 6)) za_nil)) (z_var (pv 3)))) (a_cons (e_z (z_un un_neg sNeg (z_op op_fdivW sDiv (z_un un_neg sNeg (z_callB (cr_max c.calm) sMaxL (by rfl) T.max_ (by decide +kernel) (za_cons (z_var (pv 6)) za_nil))) (z_var (pv 3))))) a_nil)))))))))))))
theorem ok__law_here (T : Tx K mg ca) (G__law_forth : Fo P w K mg base ca 2 "_law_forth" f__law_forth) (G__law_span : Fo P w K mg base ca 1 "_law_span" f__law_span) {f : Addr} {fd : FuncData} (F : Fun K "_law_here" "_law_here" s__law_here f fd) : FnOk P w K mg base (L2.CX P w) 3 f fd ["_law_node_here", "_law_spans", "_law_box", "_law_grid_here", "_law_cell_here"] (spP K ca f__law_here) :=
  fn_ok F sc__law_here fun cdv A outer s H E F0 R hr c => (s_cons (s_set (i := 5) sc__law_here.nd rfl (.inl rfl) (e_z (z_op op_mod sMod (z_var (pv 4)) (z_op op_pow sPow z_int z_int))))
    (s_cons (s_if (PW.pt (t_or (t_cmpZ (op_eqD hr.units) sEq (z_op op_mod sMod (z_var (pv 5)) z_int) z_int) (t_or (t_cmpZ (op_eqD hr.units) sEq (z_ix ix_seq sIx (z_var (pv 0)) z_int) z_str) (t_or1 (t_cmpZ (op_eqD hr.units) sEq (z_ix ix_seq sIx (z_var (pv 0)) z_int) z_str))))) (s_one (s_ret (e_call c G__law_span hr (by rfl) (a_cons (e_z (z_op op_fdivW sDiv (z_var (pv 5)) z_int)) a_nil)))) s_nil)
    (s_cons (s_set (i := 6) sc__law_here.nd rfl (.inl rfl) (e_lstOf (by rfl) T.list_ (by decide +kernel) (a_cons (e_var (pv 1)) a_nil)))
    (s_cons (s_set (i := 7) sc__law_here.nd rfl (.inl rfl) (e_z (z_ix ix_seq sIx (z_var (pv 1)) (z_ix ix_seq sIx (z_var (pv 0)) z_int))))
    (s_cons (s_set (i := 8) sc__law_here.nd rfl (.inl rfl) (e_z (z_op op_add sAdd (z_ix ix_seq sIx (z_var (pv 7)) z_int) (z_op op_fdivW sDiv (z_op op_mulW sMul (z_op op_sub sSub (z_ix ix_seq sIx (z_var (pv 7)) z_int) (z_ix ix_seq sIx (z_var (pv 7)) z_int)) (z_op op_mod sMod (z_op op_fdivW sDiv (z_var (pv 5)) z_int) z_int)) z_int))))
    (s_cons (s_setIx (pv 6) (z_ix ix_seq sIx (z_var (pv 0)) z_int) (e_tup (a_cons (e_var (pv 8)) (a_cons (e_var (pv 8)) a_nil))))
    (s_cons (s_if (PW.pt (t_and (t_cmpZ (op_neD hr.units) sNe (z_ix ix_seq sIx (z_var (pv 0)) z_int) z_str) (t_and1 (t_cmpZ (op_neD hr.units) sNe (z_ix ix_seq sIx (z_var (pv 0)) z_int) (z_ix ix_seq sIx (z_var (pv 0)) z_int))))) (s_cons (s_set (i := 9) sc__law_here.nd rfl (.inl rfl) (e_z (z_ix ix_seq sIx (z_var (pv 1)) (z_ix ix_seq sIx (z_var (pv 0)) z_int))))
    (s_cons (s_set (i := 10) sc__law_here.nd rfl (.inl rfl) (e_z (z_op op_add sAdd (z_ix ix_seq sIx (z_var (pv 9)) z_int) (z_op op_fdivW sDiv (z_op op_mulW sMul (z_op op_sub sSub (z_ix ix_seq sIx (z_var (pv 9)) z_int) (z_ix ix_seq sIx (z_var (pv 9)) z_int)) (z_op op_mod sMod (z_op op_fdivW sDiv (z_var (pv 5)) z_int) z_int)) z_int))))
    (s_one (s_setIx (pv 6) (z_ix ix_seq sIx (z_var (pv 0)) z_int) (e_tup (a_cons (e_var (pv 10)) (a_cons (e_var (pv 10)) a_nil))))))) s_nil)
    (s_cons (s_set (i := 11) sc__law_here.nd rfl (.inl rfl) (e_call c G__law_forth hr (by rfl) (a_cons (e_var (pv 0)) (a_cons (e_var (pv 6)) (a_cons (e_var (pv 2)) (a_cons (e_var (pv 3)) a_nil))))))
    (s_cons (s_set (i := 5) sc__law_here.nd rfl (.inl rfl) (e_z (z_op op_mod sMod (z_op op_mulW sMul (z_var (pv 5)) z_int) z_int)))
    (s_one (s_ret (e_tup (a_cons (e_z (z_op op_sub sSub (z_ix ix_seq sIx (z_var (pv 11)) z_int) (z_op op_fdivW sDiv (z_op op_mod sMod (z_var (pv 5)) z_int) z_int))) (a_cons (e_z (z_op op_add sAdd (z_ix ix_seq sIx (z_var (pv 11)) z_int) (z_op op_fdivW sDiv (z_op op_mod sMod (z_op op_fdivW sDiv (z_var (pv 5)) z_int) z_int) z_int))) a_nil))))))))))))))
theorem ok_kind_of (T : Tx K mg ca) (M_Power : MkO P w K mg base ca "Power" ["one", "many"]) (M_Number : MkO P w K mg base ca "Number" ["top", "bottom"]) (M_Unknown : MkO P w K mg base ca "Unknown" ["place"]) (M_Plus : MkO P w K mg base ca "Plus" ["one", "other"]) (M_Minus : MkO P w K mg base ca "Minus" ["one", "other"]) (M_Times : MkO P w K mg base ca "Times" ["one", "other"]) {f : Addr} {fd : FuncData} (F : Fun K "kind_of" "kind_of" s_kind_of f fd) : FnOk P w K mg base (L2.CX P w) 3 f fd ["node"] (spP K ca f_kind_of) :=
  fn_ok F sc_kind_of fun cdv A outer s H E F0 R hr c => (s_cons (s_if (t_cmpZ (op_eqD hr.units) sEq (z_ix ix_seq sIx (z_var (pv 0)) z_int) z_str) (s_one (s_ret (e_make c M_Number hr (by rfl) (a_cons (e_z (z_ix ix_seq sIx (z_var (pv 0)) z_int)) (a_cons (e_z (z_ix ix_seq sIx (z_var (pv 0)) z_int)) a_nil))))) s_nil)
    (s_cons (s_if (t_cmpZ (op_eqD hr.units) sEq (z_ix ix_seq sIx (z_var (pv 0)) z_int) z_str) (s_one (s_ret (e_make c M_Unknown hr (by rfl) (a_cons (e_z (z_ix ix_seq sIx (z_var (pv 0)) z_int)) a_nil)))) s_nil)
    (s_cons (s_if (t_cmpZ (op_eqD hr.units) sEq (z_ix ix_seq sIx (z_var (pv 0)) z_int) z_str) (s_one (s_ret (e_make c M_Plus hr (by rfl) (a_cons (e_z (z_ix ix_seq sIx (z_var (pv 0)) z_int)) (a_cons (e_z (z_ix ix_seq sIx (z_var (pv 0)) z_int)) a_nil))))) s_nil)
    (s_cons (s_if (t_cmpZ (op_eqD hr.units) sEq (z_ix ix_seq sIx (z_var (pv 0)) z_int) z_str) (s_one (s_ret (e_make c M_Minus hr (by rfl) (a_cons (e_z (z_ix ix_seq sIx (z_var (pv 0)) z_int)) (a_cons (e_z (z_ix ix_seq sIx (z_var (pv 0)) z_int)) a_nil))))) s_nil)
    (s_cons (s_if (t_cmpZ (op_eqD hr.units) sEq (z_ix ix_seq sIx (z_var (pv 0)) z_int) z_str) (s_one (s_ret (e_make c M_Times hr (by rfl) (a_cons (e_z (z_ix ix_seq sIx (z_var (pv 0)) z_int)) (a_cons (e_z (z_ix ix_seq sIx (z_var (pv 0)) z_int)) a_nil))))) s_nil)
    (s_one (s_ret (e_make c M_Power hr (by rfl) (a_cons (e_z (z_ix ix_seq sIx (z_var (pv 0)) z_int)) (a_cons (e_z (z_ix ix_seq sIx (z_var (pv 0)) z_int)) a_nil))))))))))
theorem ok__law_made (T : Tx K mg ca) (G_kind_of : Fo P w K mg base ca 3 "kind_of" f_kind_of) (M_Times : MkO P w K mg base ca "Times" ["one", "other"]) (M_Number : MkO P w K mg base ca "Number" ["top", "bottom"]) (M_Unknown : MkO P w K mg base ca "Unknown" ["place"]) (M_Power : MkO P w K mg base ca "Power" ["one", "many"]) (M_Plus : MkO P w K mg base ca "Plus" ["one", "other"]) (M_Minus : MkO P w K mg base ca "Minus" ["one", "other"]) {f : Addr} {fd : FuncData} (F : Fun K "_law_made" "_law_made" s__law_made f fd) : FnOk P w K mg base (L2.CX P w) 4 f fd ["_law_node_here", "_law_straight"] (spP K ca f__law_made) :=
  fn_ok F sc__law_made fun cdv A outer s H E F0 R hr c => (s_cons (s_if (t_not (t_valZ (z_var (pv 1)))) (s_one (s_ret (e_call c G_kind_of hr (by rfl) (a_cons (e_var (pv 0)) a_nil)))) s_nil)
    (s_cons (s_if (t_cmpZ (op_eqD hr.units) sEq (z_ix ix_seq sIx (z_var (pv 0)) z_int) z_str) (s_one (s_ret (e_make c M_Number hr (by rfl) (a_cons (e_z (z_ix ix_seq sIx (z_var (pv 0)) z_int)) (a_cons (e_z (z_ix ix_seq sIx (z_var (pv 0)) z_int)) a_nil))))) s_nil)
    (s_cons (s_if (t_cmpZ (op_eqD hr.units) sEq (z_ix ix_seq sIx (z_var (pv 0)) z_int) z_str) (s_one (s_ret (e_make c M_Unknown hr (by rfl) (a_cons (e_z (z_ix ix_seq sIx (z_var (pv 0)) z_int)) a_nil)))) s_nil)
    (s_cons (s_if (t_cmpZ (op_eqD hr.units) sEq (z_ix ix_seq sIx (z_var (pv 0)) z_int) z_str) (s_one (s_ret (e_make c M_Power hr (by rfl) (a_cons (e_z (z_ix ix_seq sIx (z_var (pv 0)) z_int)) (a_cons (e_z (z_ix ix_seq sIx (z_var (pv 0)) z_int)) a_nil))))) s_nil)
    (s_cons (s_if (t_cmpZ (op_eqD hr.units) sEq (z_ix ix_seq sIx (z_var (pv 0)) z_int) z_str) (s_one (s_ret (e_make c M_Plus hr (by rfl) (a_cons (e_z (z_ix ix_seq sIx (z_var (pv 0)) z_int)) (a_cons (e_z (z_ix ix_seq sIx (z_var (pv 0)) z_int)) a_nil))))) s_nil)
    (s_cons (s_if (t_cmpZ (op_eqD hr.units) sEq (z_ix ix_seq sIx (z_var (pv 0)) z_int) z_str) (s_one (s_ret (e_make c M_Minus hr (by rfl) (a_cons (e_z (z_ix ix_seq sIx (z_var (pv 0)) z_int)) (a_cons (e_z (z_ix ix_seq sIx (z_var (pv 0)) z_int)) a_nil))))) s_nil)
    (s_one (s_ret (e_make c M_Times hr (by rfl) (a_cons (e_z (z_ix ix_seq sIx (z_var (pv 0)) z_int)) (a_cons (e_z (z_ix ix_seq sIx (z_var (pv 0)) z_int)) a_nil)))))))))))
theorem ok__law_meet (T : Tx K mg ca)  {f : Addr} {fd : FuncData} (F : Fun K "_law_meet" "_law_meet" s__law_meet f fd) : FnOk P w K mg base (L2.CX P w) 1 f fd ["_law_a", "_law_b"] (spP K ca f__law_meet) :=
  fn_ok F sc__law_meet fun cdv A outer s H E F0 R hr c => (s_cons (s_if (t_cmpZ op_gt sGt (z_callB (call_max2 c.calm) sMax2 (by rfl) T.max_ (by decide +kernel) (za_cons (z_ix ix_seq sIx (z_var (pv 0)) z_int) (za_cons (z_ix ix_seq sIx (z_var (pv 1)) z_int) za_nil))) (z_callB (call_min2 c.calm) sMin2 (by rfl) T.min_ (by decide +kernel) (za_cons (z_ix ix_seq sIx (z_var (pv 0)) z_int) (za_cons (z_ix ix_seq sIx (z_var (pv 1)) z_int) za_nil)))) (s_one (s_ret (e_z z_non))) s_nil)
    (s_one (s_ret (e_tup (a_cons (e_z (z_callB (call_max2 c.calm) sMax2 (by rfl) T.max_ (by decide +kernel) (za_cons (z_ix ix_seq sIx (z_var (pv 0)) z_int) (za_cons (z_ix ix_seq sIx (z_var (pv 1)) z_int) za_nil)))) (a_cons (e_z (z_callB (call_min2 c.calm) sMin2 (by rfl) T.min_ (by decide +kernel) (za_cons (z_ix ix_seq sIx (z_var (pv 0)) z_int) (za_cons (z_ix ix_seq sIx (z_var (pv 1)) z_int) za_nil)))) a_nil))))))
theorem ok__law_back_sum (T : Tx K mg ca) (G__law_meet : Fo P w K mg base ca 1 "_law_meet" f__law_meet) {f : Addr} {fd : FuncData} (F : Fun K "_law_back_sum" "_law_back_sum" s__law_back_sum f fd) : FnOk P w K mg base (L2.CX P w) 2 f fd ["_law_node_here", "_law_spans", "_law_z"] (spP K ca f__law_back_sum) :=
  fn_ok F sc__law_back_sum fun cdv A outer s H E F0 R hr c => (s_cons (s_set (i := 3) sc__law_back_sum.nd rfl (.inl rfl) (e_z (z_ix ix_seq sIx (z_var (pv 1)) (z_ix ix_seq sIx (z_var (pv 0)) z_int))))
    (s_cons (s_set (i := 4) sc__law_back_sum.nd rfl (.inl rfl) (e_z (z_ix ix_seq sIx (z_var (pv 1)) (z_ix ix_seq sIx (z_var (pv 0)) z_int))))
    (s_cons (s_if (t_cmpZ (op_eqD hr.units) sEq (z_ix ix_seq sIx (z_var (pv 0)) z_int) z_str) (s_one (s_set (i := 3) sc__law_back_sum.nd rfl (.inl rfl) (e_call c G__law_meet hr (by rfl) (a_cons (e_var (pv 3)) (a_cons (e_tup (a_cons (e_z (z_op op_sub sSub (z_ix ix_seq sIx (z_var (pv 2)) z_int) (z_ix ix_seq sIx (z_var (pv 4)) z_int))) (a_cons (e_z (z_op op_sub sSub (z_ix ix_seq sIx (z_var (pv 2)) z_int) (z_ix ix_seq sIx (z_var (pv 4)) z_int))) a_nil))) a_nil))))) (s_one (s_set (i := 3) sc__law_back_sum.nd rfl (.inl rfl) (e_call c G__law_meet hr (by rfl) (a_cons (e_var (pv 3)) (a_cons (e_tup (a_cons (e_z (z_op op_add sAdd (z_ix ix_seq sIx (z_var (pv 2)) z_int) (z_ix ix_seq sIx (z_var (pv 4)) z_int))) (a_cons (e_z (z_op op_add sAdd (z_ix ix_seq sIx (z_var (pv 2)) z_int) (z_ix ix_seq sIx (z_var (pv 4)) z_int))) a_nil))) a_nil))))))
    (s_cons (s_if (t_cmpZ op_isN sIsN (z_var (pv 3)) z_non) (s_one (s_ret (e_z z_non))) s_nil)
    (s_cons (s_if (t_cmpZ (op_eqD hr.units) sEq (z_ix ix_seq sIx (z_var (pv 0)) z_int) (z_ix ix_seq sIx (z_var (pv 0)) z_int)) (s_one (s_set (i := 4) sc__law_back_sum.nd rfl (.inl rfl) (e_var (pv 3)))) s_nil)
    (s_cons (s_if (t_cmpZ (op_eqD hr.units) sEq (z_ix ix_seq sIx (z_var (pv 0)) z_int) z_str) (s_one (s_set (i := 4) sc__law_back_sum.nd rfl (.inl rfl) (e_call c G__law_meet hr (by rfl) (a_cons (e_var (pv 4)) (a_cons (e_tup (a_cons (e_z (z_op op_sub sSub (z_ix ix_seq sIx (z_var (pv 2)) z_int) (z_ix ix_seq sIx (z_var (pv 3)) z_int))) (a_cons (e_z (z_op op_sub sSub (z_ix ix_seq sIx (z_var (pv 2)) z_int) (z_ix ix_seq sIx (z_var (pv 3)) z_int))) a_nil))) a_nil))))) (s_one (s_set (i := 4) sc__law_back_sum.nd rfl (.inl rfl) (e_call c G__law_meet hr (by rfl) (a_cons (e_var (pv 4)) (a_cons (e_tup (a_cons (e_z (z_op op_sub sSub (z_ix ix_seq sIx (z_var (pv 3)) z_int) (z_ix ix_seq sIx (z_var (pv 2)) z_int))) (a_cons (e_z (z_op op_sub sSub (z_ix ix_seq sIx (z_var (pv 3)) z_int) (z_ix ix_seq sIx (z_var (pv 2)) z_int))) a_nil))) a_nil))))))
    (s_cons (s_if (t_cmpZ op_isN sIsN (z_var (pv 4)) z_non) (s_one (s_ret (e_z z_non))) s_nil)
    (s_one (s_ret (e_lst (a_cons (e_tup (a_cons (e_z (z_ix ix_seq sIx (z_var (pv 0)) z_int)) (a_cons (e_var (pv 3)) a_nil))) (a_cons (e_tup (a_cons (e_z (z_ix ix_seq sIx (z_var (pv 0)) z_int)) (a_cons (e_var (pv 4)) a_nil))) a_nil))))))))))))
theorem ok__law_whole (T : Tx K mg ca)  {f : Addr} {fd : FuncData} (F : Fun K "_law_whole" "_law_whole" s__law_whole f fd) : FnOk P w K mg base (L2.CX P w) 1 f fd ["_law_found"] (spP K ca f__law_whole) :=
  fn_ok F sc__law_whole fun cdv A outer s H E F0 R hr c => (s_one (s_ret (e_and (e_z (z_callB call_isi sIsi (by rfl) T.isinstance (by decide +kernel) (za_cons (z_var (pv 0)) (za_cons (z_ty (by rfl) T.int_ (by decide +kernel)) za_nil)))) (e_one (e_not (e_z (z_callB call_isi sIsi (by rfl) T.isinstance (by decide +kernel) (za_cons (z_var (pv 0)) (za_cons (z_ty (by rfl) T.bool_ (by decide +kernel)) za_nil)))))))))
theorem ok__law_span_is (T : Tx K mg ca) (G__law_whole : Fo P w K mg base ca 1 "_law_whole" f__law_whole) {f : Addr} {fd : FuncData} (F : Fun K "_law_span_is" "_law_span_is" s__law_span_is f fd) : FnOk P w K mg base (L2.CX P w) 2 f fd ["_law_found"] (spP K ca f__law_span_is) :=
  fn_ok F sc__law_span_is fun cdv A outer s H E F0 R hr c => (s_cons (s_if (PW.pt (t_or (t_not (t_valZ (z_callB call_isi sIsi (by rfl) T.isinstance (by decide +kernel) (za_cons (z_var (pv 0)) (za_cons (z_ty (by rfl) T.tuple_ (by decide +kernel)) za_nil))))) (t_or1 (t_cmpZ (op_neD hr.units) sNe (z_callB call_len sLen (by rfl) T.len_ (by decide +kernel) (za_cons (z_var (pv 0)) za_nil)) z_int)))) (s_one (s_ret (e_z z_bl))) s_nil)
    (s_one (s_ret (e_and (e_call c G__law_whole hr (by rfl) (a_cons (e_z (z_ix ix_seq sIx (z_var (pv 0)) z_int)) a_nil)) (e_and (e_call c G__law_whole hr (by rfl) (a_cons (e_z (z_ix ix_seq sIx (z_var (pv 0)) z_int)) a_nil)) (e_one (e_z (z_cmp op_le sLe (z_ix ix_seq sIx (z_var (pv 0)) z_int) (z_ix ix_seq sIx (z_var (pv 0)) z_int)))))))))
theorem ok__law_parts_are (T : Tx K mg ca) (G__law_whole : Fo P w K mg base ca 1 "_law_whole" f__law_whole) (G__law_span_is : Fo P w K mg base ca 2 "_law_span_is" f__law_span_is) {f : Addr} {fd : FuncData} (F : Fun K "_law_parts_are" "_law_parts_are" s__law_parts_are f fd) : FnOk P w K mg base (L2.CX P w) 3 f fd ["_law_found", "_law_due"] (spP K ca f__law_parts_are) :=
  fn_ok F sc__law_parts_are fun cdv A outer s H E F0 R hr c => (s_cons (s_if (t_cmpZ op_isN sIsN (z_var (pv 1)) z_non) (s_one (s_ret (e_z (z_cmp op_isN sIsN (z_var (pv 0)) z_non)))) s_nil)
    (s_cons (s_if (PW.pt (t_or (t_not (t_valZ (z_callB call_isi sIsi (by rfl) T.isinstance (by decide +kernel) (za_cons (z_var (pv 0)) (za_cons (z_ty (by rfl) T.list_ (by decide +kernel)) za_nil))))) (t_or1 (t_cmpZ (op_neD hr.units) sNe (z_callB call_len sLen (by rfl) T.len_ (by decide +kernel) (za_cons (z_var (pv 0)) za_nil)) (z_callB call_len sLen (by rfl) T.len_ (by decide +kernel) (za_cons (z_var (pv 1)) za_nil)))))) (s_one (s_ret (e_z z_bl))) s_nil)
    (s_cons (s_for c (i_range1 (by rfl) T.range (a_cons (e_z (z_callB call_len sLen (by rfl) T.len_ (by decide +kernel) (za_cons (z_var (pv 1)) za_nil))) a_nil)) (g_name (i := 2) sc__law_parts_are.nd rfl (.inl rfl)) (s_cons (s_set (i := 3) sc__law_parts_are.nd rfl (.inl rfl) (e_z (z_ix ix_seq sIx (z_var (pv 0)) (z_var (pv 2)))))
    (s_cons (s_if (PW.pt (t_or (t_not (t_valZ (z_callB call_isi sIsi (by rfl) T.isinstance (by decide +kernel) (za_cons (z_var (pv 3)) (za_cons (z_ty (by rfl) T.tuple_ (by decide +kernel)) za_nil))))) (t_or1 (t_cmpZ (op_neD hr.units) sNe (z_callB call_len sLen (by rfl) T.len_ (by decide +kernel) (za_cons (z_var (pv 3)) za_nil)) z_int)))) (s_one (s_ret (e_z z_bl))) s_nil)
    (s_one (s_if (PW.pt (t_or (t_not (t_valE (e_call c G__law_whole hr (by rfl) (a_cons (e_z (z_ix ix_seq sIx (z_var (pv 3)) z_int)) a_nil)))) (t_or (t_not (t_valE (e_call c G__law_span_is hr (by rfl) (a_cons (e_z (z_ix ix_seq sIx (z_var (pv 3)) z_int)) a_nil)))) (t_or1 (t_cmpZ (op_neD hr.units) sNe (z_var (pv 3)) (z_ix ix_seq sIx (z_var (pv 1)) (z_var (pv 2)))))))) (s_one (s_ret (e_z z_bl))) s_nil)))))
    (s_one (s_ret (e_z z_bl))))))
theorem ok_Node_back (T : Tx K mg ca)  {f : Addr} {fd : FuncData} (F : Fun K "back" "Node.back" s_Node_back f fd) : FnOk P w K mg base (L2.CX P w) 1 f fd ["self", "spans", "here", "grid"] (spP K ca f_Node_back) :=
  fn_ok F sc_Node_back fun cdv A outer s H E F0 R hr c => (s_one (s_ret (e_lst a_nil)))
theorem ok_common (T : Tx K mg ca)  {f : Addr} {fd : FuncData} (F : Fun K "common" "common" s_common f fd) : FnOk P w K mg base (L2.CX P w) 1 f fd ["a", "b"] (spP K ca f_common) :=
  fn_ok F sc_common fun cdv A outer s H E F0 R hr c => (s_cons (s_set (i := 2) sc_common.nd rfl (.inl rfl) (e_z (z_callB (call_max2 c.calm) sMax2 (by rfl) T.max_ (by decide +kernel) (za_cons (z_ix ix_seq sIx (z_var (pv 0)) z_int) (za_cons (z_ix ix_seq sIx (z_var (pv 1)) z_int) za_nil)))))
    (s_cons (s_set (i := 3) sc_common.nd rfl (.inl rfl) (e_z (z_callB (call_min2 c.calm) sMin2 (by rfl) T.min_ (by decide +kernel) (za_cons (z_ix ix_seq sIx (z_var (pv 0)) z_int) (za_cons (z_ix ix_seq sIx (z_var (pv 1)) z_int) za_nil)))))
    (s_cons (s_if (t_cmpZ op_lt sLt (z_var (pv 3)) (z_var (pv 2))) (s_one (s_ret (e_z z_non))) s_nil)
    (s_one (s_ret (e_tup (a_cons (e_var (pv 2)) (a_cons (e_var (pv 3)) a_nil))))))))
theorem ok_take_spans (T : Tx K mg ca)  {f : Addr} {fd : FuncData} (F : Fun K "take_spans" "take_spans" s_take_spans f fd) : FnOk P w K mg base (L2.CX P w) 1 f fd ["a", "b"] (spP K ca f_take_spans) :=
  fn_ok F sc_take_spans fun cdv A outer s H E F0 R hr c => (s_one (s_ret (e_tup (a_cons (e_z (z_op op_sub sSub (z_ix ix_seq sIx (z_var (pv 0)) z_int) (z_ix ix_seq sIx (z_var (pv 1)) z_int))) (a_cons (e_z (z_op op_sub sSub (z_ix ix_seq sIx (z_var (pv 0)) z_int) (z_ix ix_seq sIx (z_var (pv 1)) z_int))) a_nil)))))
theorem ok_Plus_first_back (T : Tx K mg ca) (G_common : Fo P w K mg base ca 1 "common" f_common) (G_take_spans : Fo P w K mg base ca 1 "take_spans" f_take_spans) {f : Addr} {fd : FuncData} (F : Fun K "first_back" "Plus.first_back" s_Plus_first_back f fd) : FnOk P w K mg base (L2.CX P w) 2 f fd ["self", "here", "x", "y", "grid"] (spP K ca f_Plus_first_back) :=
  fn_ok F sc_Plus_first_back fun cdv A outer s H E F0 R hr c => (s_one (s_ret (e_call c G_common hr (by rfl) (a_cons (e_var (pv 2)) (a_cons (e_call c G_take_spans hr (by rfl) (a_cons (e_var (pv 1)) (a_cons (e_var (pv 3)) a_nil))) a_nil)))))
theorem ok_add_spans (T : Tx K mg ca)  {f : Addr} {fd : FuncData} (F : Fun K "add_spans" "add_spans" s_add_spans f fd) : FnOk P w K mg base (L2.CX P w) 1 f fd ["a", "b"] (spP K ca f_add_spans) :=
  fn_ok F sc_add_spans fun cdv A outer s H E F0 R hr c => (s_one (s_ret (e_tup (a_cons (e_z (z_op op_add sAdd (z_ix ix_seq sIx (z_var (pv 0)) z_int) (z_ix ix_seq sIx (z_var (pv 1)) z_int))) (a_cons (e_z (z_op op_add sAdd (z_ix ix_seq sIx (z_var (pv 0)) z_int) (z_ix ix_seq sIx (z_var (pv 1)) z_int))) a_nil)))))
theorem ok_Minus_first_back (T : Tx K mg ca) (G_common : Fo P w K mg base ca 1 "common" f_common) (G_add_spans : Fo P w K mg base ca 1 "add_spans" f_add_spans) {f : Addr} {fd : FuncData} (F : Fun K "first_back" "Minus.first_back" s_Minus_first_back f fd) : FnOk P w K mg base (L2.CX P w) 2 f fd ["self", "here", "x", "y", "grid"] (spP K ca f_Minus_first_back) :=
  fn_ok F sc_Minus_first_back fun cdv A outer s H E F0 R hr c => (s_one (s_ret (e_call c G_common hr (by rfl) (a_cons (e_var (pv 2)) (a_cons (e_call c G_add_spans hr (by rfl) (a_cons (e_var (pv 1)) (a_cons (e_var (pv 3)) a_nil))) a_nil)))))
theorem ok_Plus_second_back (T : Tx K mg ca) (G_common : Fo P w K mg base ca 1 "common" f_common) (G_take_spans : Fo P w K mg base ca 1 "take_spans" f_take_spans) {f : Addr} {fd : FuncData} (F : Fun K "second_back" "Plus.second_back" s_Plus_second_back f fd) : FnOk P w K mg base (L2.CX P w) 2 f fd ["self", "here", "x", "y", "grid"] (spP K ca f_Plus_second_back) :=
  fn_ok F sc_Plus_second_back fun cdv A outer s H E F0 R hr c => (s_one (s_ret (e_call c G_common hr (by rfl) (a_cons (e_var (pv 3)) (a_cons (e_call c G_take_spans hr (by rfl) (a_cons (e_var (pv 1)) (a_cons (e_var (pv 2)) a_nil))) a_nil)))))
theorem ok_Minus_second_back (T : Tx K mg ca) (G_common : Fo P w K mg base ca 1 "common" f_common) (G_take_spans : Fo P w K mg base ca 1 "take_spans" f_take_spans) {f : Addr} {fd : FuncData} (F : Fun K "second_back" "Minus.second_back" s_Minus_second_back f fd) : FnOk P w K mg base (L2.CX P w) 2 f fd ["self", "here", "x", "y", "grid"] (spP K ca f_Minus_second_back) :=
  fn_ok F sc_Minus_second_back fun cdv A outer s H E F0 R hr c => (s_one (s_ret (e_call c G_common hr (by rfl) (a_cons (e_var (pv 3)) (a_cons (e_call c G_take_spans hr (by rfl) (a_cons (e_var (pv 2)) (a_cons (e_var (pv 1)) a_nil))) a_nil)))))
theorem ok_Node_pair_back (T : Tx K mg ca) (A_first_back : MAll P w K mg base ca 2 "first_back" al_first_back) (A_second_back : MAll P w K mg base ca 2 "second_back" al_second_back) {f : Addr} {fd : FuncData} (F : Fun K "pair_back" "Node.pair_back" s_Node_pair_back f fd) : FnOk P w K mg base (L2.CX P w) 3 f fd ["self", "spans", "here", "grid", "one", "other"] (spP K ca f_Node_pair_back) :=
  fn_ok F sc_Node_pair_back fun cdv A outer s H E F0 R hr c => (s_cons (s_set (i := 6) sc_Node_pair_back.nd rfl (.inl rfl) (e_meth c A_first_back hr (e_var (pv 0)) (a_cons (e_var (pv 2)) (a_cons (e_z (z_ix ix_seq sIx (z_var (pv 1)) (z_var (pv 4)))) (a_cons (e_z (z_ix ix_seq sIx (z_var (pv 1)) (z_var (pv 5)))) (a_cons (e_var (pv 3)) a_nil))))))
    (s_cons (s_if (t_cmpZ op_isN sIsN (z_var (pv 6)) z_non) (s_one (s_ret (e_z z_non))) s_nil)
    (s_cons (s_set (i := 7) sc_Node_pair_back.nd rfl (.inl rfl) (e_z (z_ix ix_seq sIx (z_var (pv 1)) (z_var (pv 5)))))
    (s_cons (s_if (t_cmpZ (op_eqD hr.units) sEq (z_var (pv 4)) (z_var (pv 5))) (s_one (s_set (i := 7) sc_Node_pair_back.nd rfl (.inl rfl) (e_var (pv 6)))) s_nil)
    (s_cons (s_set (i := 7) sc_Node_pair_back.nd rfl (.inl rfl) (e_meth c A_second_back hr (e_var (pv 0)) (a_cons (e_var (pv 2)) (a_cons (e_var (pv 6)) (a_cons (e_var (pv 7)) (a_cons (e_var (pv 3)) a_nil))))))
    (s_cons (s_if (t_cmpZ op_isN sIsN (z_var (pv 7)) z_non) (s_one (s_ret (e_z z_non))) s_nil)
    (s_one (s_ret (e_lst (a_cons (e_tup (a_cons (e_var (pv 4)) (a_cons (e_var (pv 6)) a_nil))) (a_cons (e_tup (a_cons (e_var (pv 5)) (a_cons (e_var (pv 7)) a_nil))) a_nil)))))))))))
theorem ok_Plus_back (T : Tx K mg ca) (A_pair_back : MAll P w K mg base ca 3 "pair_back" al_pair_back) {f : Addr} {fd : FuncData} (F : Fun K "back" "Plus.back" s_Plus_back f fd) : FnOk P w K mg base (L2.CX P w) 4 f fd ["self", "spans", "here", "grid"] (spP K ca f_Plus_back) :=
  fn_ok F sc_Plus_back fun cdv A outer s H E F0 R hr c => (s_one (s_ret (e_meth c A_pair_back hr (e_var (pv 0)) (a_cons (e_var (pv 1)) (a_cons (e_var (pv 2)) (a_cons (e_var (pv 3)) (a_cons (e_z (z_fld T.cl_Plus T.na_Plus_one (z_var (pv 0)))) (a_cons (e_z (z_fld T.cl_Plus T.na_Plus_other (z_var (pv 0)))) a_nil))))))))
theorem ok_Minus_back (T : Tx K mg ca) (A_pair_back : MAll P w K mg base ca 3 "pair_back" al_pair_back) {f : Addr} {fd : FuncData} (F : Fun K "back" "Minus.back" s_Minus_back f fd) : FnOk P w K mg base (L2.CX P w) 4 f fd ["self", "spans", "here", "grid"] (spP K ca f_Minus_back) :=
  fn_ok F sc_Minus_back fun cdv A outer s H E F0 R hr c => (s_one (s_ret (e_meth c A_pair_back hr (e_var (pv 0)) (a_cons (e_var (pv 1)) (a_cons (e_var (pv 2)) (a_cons (e_var (pv 3)) (a_cons (e_z (z_fld T.cl_Minus T.na_Minus_one (z_var (pv 0)))) (a_cons (e_z (z_fld T.cl_Minus T.na_Minus_other (z_var (pv 0)))) a_nil))))))))
theorem ok_law (T : Tx K mg ca) (G__law_grid : Fo P w K mg base ca 1 "_law_grid" f__law_grid) (G__law_cell : Fo P w K mg base ca 1 "_law_cell" f__law_cell) (G__law_span : Fo P w K mg base ca 1 "_law_span" f__law_span) (G__law_node : Fo P w K mg base ca 4 "_law_node" f__law_node) (G__law_here : Fo P w K mg base ca 3 "_law_here" f__law_here) (G__law_made : Fo P w K mg base ca 4 "_law_made" f__law_made) (G__law_back_sum : Fo P w K mg base ca 2 "_law_back_sum" f__law_back_sum) (G__law_parts_are : Fo P w K mg base ca 3 "_law_parts_are" f__law_parts_are) (A_back : MAll P w K mg base ca 4 "back" al_back) {f : Addr} {fd : FuncData} (F : Fun K "law" "law" s_law f fd) : FnOk P w K mg base (L2.CX P w) 5 f fd ["_law_script"] (spP K ca f_law) :=
  fn_ok F sc_law fun cdv A outer s H E F0 R hr c => (s_cons (s_set (i := 1) sc_law.nd rfl (.inl rfl) (e_sliceL (e_var (pv 0)) (pe_some (e_z z_int)) (pe_some (e_z z_int))))
    (s_cons (s_set (i := 2) sc_law.nd rfl (.inl rfl) (e_call c G__law_grid hr (by rfl) (a_cons (e_call c G__law_cell hr (by rfl) (a_cons (e_var (pv 0)) (a_cons (e_z z_int) a_nil))) a_nil)))
    (s_cons (s_set (i := 3) sc_law.nd rfl (.inl rfl) (e_op op_add sAdd (e_z z_int) (e_op op_mod sMod (e_call c G__law_cell hr (by rfl) (a_cons (e_var (pv 0)) (a_cons (e_z z_int) a_nil))) (e_z z_int))))
    (s_cons (s_setLc (i := 4) (own := [("_law_k", 5)]) c sc_law.nd rfl rfl (sw_true rfl rfl rfl (by decide +kernel)) (i_range1 (by rfl) T.range (a_cons (e_var (pv 3)) a_nil)) (blkOk_by (own := [("_law_k", 5)]) (N := ["_law_script", "_law_cells", "_law_grid_here", "_law_many", "_law_box", "_law_k", "_law_spans", "_law_cell_here", "_law_node_here", "_law_z", "_law_due", "_law_made_here", "_law_handed"]) (sc := defScope s_law) (by decide +kernel)) (fun _ _ _ _ _ => (g_name (i := 5) sc_law.nd rfl (.inl rfl))) (fun _ _ _ _ _ => ts_nil) (fun _ _ _ _ _ c => (e_call c G__law_span hr (by rfl) (a_cons (e_call c G__law_cell hr (by rfl) (a_cons (e_var (pv 0)) (a_cons (e_z (z_op op_add sAdd z_int (z_var (pv 5)))) a_nil))) a_nil))))
    (s_cons (s_set (i := 6) sc_law.nd rfl (.inl rfl) (e_cat (e_lst (a_cons (e_tup (a_cons (e_z (z_un un_neg sNeg z_int)) (a_cons (e_z z_int) a_nil))) a_nil)) (e_lc (own := [("_law_cell_here", 7)]) c sc_law.nd (i_list (e_var (pv 1))) (blkOk_by (own := [("_law_cell_here", 7)]) (N := ["_law_script", "_law_cells", "_law_grid_here", "_law_many", "_law_box", "_law_k", "_law_spans", "_law_cell_here", "_law_node_here", "_law_z", "_law_due", "_law_made_here", "_law_handed"]) (sc := defScope s_law) (by decide +kernel)) (fun _ _ _ _ _ => (g_name (i := 7) sc_law.nd rfl (.inl rfl))) (fun _ _ _ _ _ => ts_nil) (fun _ _ _ _ _ c => (e_call c G__law_span hr (by rfl) (a_cons (e_z (z_op op_add sAdd (z_op op_mulW sMul (z_op op_mod sMod (z_var (pv 7)) (z_op op_pow sPow z_int z_int)) z_int) z_int)) a_nil))))))
    (s_cons (s_for c (i_range1 (by rfl) T.range (a_cons (e_z (z_callB call_len sLen (by rfl) T.len_ (by decide +kernel) (za_cons (z_var (pv 1)) za_nil))) a_nil)) (g_name (i := 5) sc_law.nd rfl (.inl rfl)) (s_cons (s_set (i := 8) sc_law.nd rfl (.inl rfl) (e_call c G__law_node hr (by rfl) (a_cons (e_z (z_ix ix_seq sIx (z_var (pv 1)) (z_var (pv 5)))) (a_cons (e_z (z_callB call_len sLen (by rfl) T.len_ (by decide +kernel) (za_cons (z_var (pv 6)) za_nil))) (a_cons (e_var (pv 3)) a_nil)))))
    (s_cons (s_if (PW.pt (t_or (t_cmpZ (op_eqD hr.units) sEq (z_ix ix_seq sIx (z_var (pv 8)) z_int) z_str) (t_or1 (t_cmpZ (op_eqD hr.units) sEq (z_ix ix_seq sIx (z_var (pv 8)) z_int) z_str)))) (s_one (s_set (i := 8) sc_law.nd rfl (.inl rfl) (e_tup (a_cons (e_ix ix_seq sIx (e_lst (a_cons (e_z z_str) (a_cons (e_z z_str) a_nil))) (e_z (z_op op_mod sMod (z_op op_fdivW sDiv (z_ix ix_seq sIx (z_var (pv 1)) (z_var (pv 5))) z_int) z_int))) (a_cons (e_z (z_ix ix_seq sIx (z_var (pv 8)) z_int)) (a_cons (e_z (z_op op_mod sMod (z_ix ix_seq sIx (z_var (pv 8)) z_int) (z_callB call_len sLen (by rfl) T.len_ (by decide +kernel) (za_cons (z_var (pv 6)) za_nil)))) a_nil)))))) s_nil)
    (s_cons (s_set (i := 9) sc_law.nd rfl (.inl rfl) (e_call c G__law_here hr (by rfl) (a_cons (e_var (pv 8)) (a_cons (e_var (pv 6)) (a_cons (e_var (pv 4)) (a_cons (e_var (pv 2)) (a_cons (e_z (z_op op_fdivW sDiv (z_ix ix_seq sIx (z_var (pv 1)) (z_var (pv 5))) z_int)) a_nil)))))))
    (s_cons (s_set (i := 10) sc_law.nd rfl (.inl rfl) (e_lst a_nil))
    (s_cons (s_if (PW.pt (t_or (t_cmpZ (op_eqD hr.units) sEq (z_ix ix_seq sIx (z_var (pv 8)) z_int) z_str) (t_or1 (t_cmpZ (op_eqD hr.units) sEq (z_ix ix_seq sIx (z_var (pv 8)) z_int) z_str)))) (s_one (s_set (i := 10) sc_law.nd rfl (.inl rfl) (e_call c G__law_back_sum hr (by rfl) (a_cons (e_var (pv 8)) (a_cons (e_var (pv 6)) (a_cons (e_var (pv 9)) a_nil)))))) s_nil)
    (s_cons (s_set (i := 11) sc_law.nd rfl (.inl rfl) (e_call c G__law_made hr (by rfl) (a_cons (e_var (pv 8)) (a_cons (e_z (z_cmp (op_eqD hr.units) sEq (z_op op_mod sMod (z_op op_add sAdd (z_op op_fdivW sDiv (z_ix ix_seq sIx (z_var (pv 1)) (z_var (pv 5))) z_int) (z_var (pv 5))) z_int) z_int)) a_nil))))
    (s_cons (s_set (i := 12) sc_law.nd rfl (.inl rfl) (e_lstOf (by rfl) T.list_ (by decide +kernel) (a_cons (e_var (pv 6)) a_nil)))
    (s_cons (s_if (PW.pt (t_or (t_not (t_valE (e_call c G__law_parts_are hr (by rfl) (a_cons (e_meth c A_back hr (e_var (pv 11)) (a_cons (e_var (pv 12)) (a_cons (e_var (pv 9)) (a_cons (e_var (pv 2)) a_nil)))) (a_cons (e_var (pv 10)) a_nil))))) (t_or1 (t_cmpZ (op_neD hr.units) sNe (z_var (pv 12)) (z_var (pv 6)))))) (s_one (s_ret (e_z z_bl))) s_nil)
    (s_one (s_if (t_not (t_valE (e_call c G__law_parts_are hr (by rfl) (a_cons (e_meth c A_back hr (e_var (pv 11)) (a_cons (e_var (pv 12)) (a_cons (e_var (pv 9)) (a_cons (e_var (pv 2)) a_nil)))) (a_cons (e_var (pv 10)) a_nil))))) (s_one (s_ret (e_z z_bl))) s_nil)))))))))))
    (s_one (s_ret (e_z z_bl)))))))))
theorem ok_Power___init__ (T : Tx K mg ca) {f : Addr} {fd : FuncData} (F : Fun K "__init__" "Power.__init__" s_Power___init__ f fd) : FnOk P w K mg base (L2.CX P w) 1 f fd ["self", "one", "many"] (spI ca "Power" ["one", "many"]) :=
  init_ok F sc_Power___init__ rfl (by decide) (by intro n h; simp only [List.mem_cons, List.not_mem_nil, or_false] at h; rcases h with rfl | rfl <;> first | exact T.na_Power_one | exact T.na_Power_many) (by decide) fun cdv A outer s H E => (in_cons T.cl_Power (pv 0) (pv 1) (in_cons T.cl_Power (pv 0) (pv 2) in_nil))
theorem ok_Number___init__ (T : Tx K mg ca) {f : Addr} {fd : FuncData} (F : Fun K "__init__" "Number.__init__" s_Number___init__ f fd) : FnOk P w K mg base (L2.CX P w) 1 f fd ["self", "top", "bottom"] (spI ca "Number" ["top", "bottom"]) :=
  init_ok F sc_Number___init__ rfl (by decide) (by intro n h; simp only [List.mem_cons, List.not_mem_nil, or_false] at h; rcases h with rfl | rfl <;> first | exact T.na_Number_top | exact T.na_Number_bottom) (by decide) fun cdv A outer s H E => (in_cons T.cl_Number (pv 0) (pv 1) (in_cons T.cl_Number (pv 0) (pv 2) in_nil))
theorem ok_Unknown___init__ (T : Tx K mg ca) {f : Addr} {fd : FuncData} (F : Fun K "__init__" "Unknown.__init__" s_Unknown___init__ f fd) : FnOk P w K mg base (L2.CX P w) 1 f fd ["self", "place"] (spI ca "Unknown" ["place"]) :=
  init_ok F sc_Unknown___init__ rfl (by decide) (by intro n h; simp only [List.mem_cons, List.not_mem_nil, or_false] at h; subst h <;> first | exact T.na_Unknown_place) (by decide) fun cdv A outer s H E => (in_cons T.cl_Unknown (pv 0) (pv 1) in_nil)
theorem ok_Plus___init__ (T : Tx K mg ca) {f : Addr} {fd : FuncData} (F : Fun K "__init__" "Plus.__init__" s_Plus___init__ f fd) : FnOk P w K mg base (L2.CX P w) 1 f fd ["self", "one", "other"] (spI ca "Plus" ["one", "other"]) :=
  init_ok F sc_Plus___init__ rfl (by decide) (by intro n h; simp only [List.mem_cons, List.not_mem_nil, or_false] at h; rcases h with rfl | rfl <;> first | exact T.na_Plus_one | exact T.na_Plus_other) (by decide) fun cdv A outer s H E => (in_cons T.cl_Plus (pv 0) (pv 1) (in_cons T.cl_Plus (pv 0) (pv 2) in_nil))
theorem ok_Minus___init__ (T : Tx K mg ca) {f : Addr} {fd : FuncData} (F : Fun K "__init__" "Minus.__init__" s_Minus___init__ f fd) : FnOk P w K mg base (L2.CX P w) 1 f fd ["self", "one", "other"] (spI ca "Minus" ["one", "other"]) :=
  init_ok F sc_Minus___init__ rfl (by decide) (by intro n h; simp only [List.mem_cons, List.not_mem_nil, or_false] at h; rcases h with rfl | rfl <;> first | exact T.na_Minus_one | exact T.na_Minus_other) (by decide) fun cdv A outer s H E => (in_cons T.cl_Minus (pv 0) (pv 1) (in_cons T.cl_Minus (pv 0) (pv 2) in_nil))
theorem ok_Times___init__ (T : Tx K mg ca) {f : Addr} {fd : FuncData} (F : Fun K "__init__" "Times.__init__" s_Times___init__ f fd) : FnOk P w K mg base (L2.CX P w) 1 f fd ["self", "one", "other"] (spI ca "Times" ["one", "other"]) :=
  init_ok F sc_Times___init__ rfl (by decide) (by intro n h; simp only [List.mem_cons, List.not_mem_nil, or_false] at h; rcases h with rfl | rfl <;> first | exact T.na_Times_one | exact T.na_Times_other) (by decide) fun cdv A outer s H E => (in_cons T.cl_Times (pv 0) (pv 1) (in_cons T.cl_Times (pv 0) (pv 2) in_nil))
theorem repL_ints {K : PySem.W.Frag} {ca : Str → Addr} {F : Hp} : ∀ ns : List Int, RepL K ca F (ns.map D.int) (ns.map V.int)
  | [] => rfl
  | i :: r => ⟨.int i, r.map V.int, rfl, rfl, repL_ints r⟩
theorem cx_none {P : Program} {w : World} {H : Hp} {s : Shared} {e : Value} {s' : Shared} (h : L2.CX P w [] H s (fun _ _ _ => False) e s') : False := by
  obtain ⟨_, _, _, _, _, _, _, _, _, _, _, _, z⟩ := h
  exact z
def spL (K : PySem.W.Frag) : Sp := fun vs H Q _ => ∃ (a : Addr) (ns : List Int), vs = [.ref a] ∧ ns.length ≤ 63 ∧ SqL K H a (ns.map V.int) ∧ ∀ H', Q (.bl true) H'
theorem sp_law {K : PySem.W.Frag} {ca : Str → Addr} (hl : ∀ ns : List Int, ns.length ≤ 63 → f_law [.cst (ns.map D.int)] = .ok (.bl true)) (vs : List V) (H : Hp) (Q : VK) (E : XK) (h : spL K vs H Q E) : spP K ca f_law vs H Q E := by
  obtain ⟨a, ns, rfl, hn, hS, q⟩ := h
  refine ⟨H, [.cst (ns.map D.int)], Same.refl _, ⟨.ref a, [], rfl, ⟨a, _, rfl, hS, repL_ints ns⟩, rfl⟩, ?_⟩
  rw [hl ns hn]
  intro v F' H' f _ _ _ hv _ _ _
  cases (show v = .bl true from hv.1)
  exact q H'

set_option maxHeartbeats 0 in
theorem all_mk {l : PySem.W.OpenLaw} {w : World} {K : PySem.W.Frag} {h : Heap} {mg : Str → Option Value} {fa f0 f1 f2 f3 f4 f5 f6 f7 f8 f9 f10 f11 f12 f13 f14 f15 f16 f17 f18 f19 f20 f21 f22 f23 f24 f25 f26 f27 f28 fi0 fi1 fi2 fi3 fi4 fi5 a_Node a_Number a_Unknown a_Plus a_Minus a_Times a_Power : Addr} (X : K.In h) (G : h.Ns mainGlobals mg) (hfa : mg "law" = some (.ref fa))
    {od0 an0 : Option Addr} {sl0 : Array (Option Value)} {oc0 kV0 dc0 pm0 cd0 ct0 : Value} (a0 : PySem.W.nsIn K mainGlobals "_law_grid" = some (some (.ref f0))) (l0 : K.lookup f0 = some ⟨oc0, od0, .func (PySem.W.fnOf "_law_grid" "_law_grid" (defArgs s__law_grid) (defBody s__law_grid) (defScope s__law_grid) .none kV0 dc0 pm0 an0 cd0 ct0), sl0⟩) (c0 : PySem.W.codeIn K cd0 "_law_grid" = true) (k0 : PySem.W.keepIn K (.ref f0) = true)
    {od1 an1 : Option Addr} {sl1 : Array (Option Value)} {oc1 kV1 dc1 pm1 cd1 ct1 : Value} (a1 : PySem.W.nsIn K mainGlobals "_law_cell" = some (some (.ref f1))) (l1 : K.lookup f1 = some ⟨oc1, od1, .func (PySem.W.fnOf "_law_cell" "_law_cell" (defArgs s__law_cell) (defBody s__law_cell) (defScope s__law_cell) .none kV1 dc1 pm1 an1 cd1 ct1), sl1⟩) (c1 : PySem.W.codeIn K cd1 "_law_cell" = true) (k1 : PySem.W.keepIn K (.ref f1) = true)
    {od2 an2 : Option Addr} {sl2 : Array (Option Value)} {oc2 kV2 dc2 pm2 cd2 ct2 : Value} (a2 : PySem.W.nsIn K mainGlobals "_law_span" = some (some (.ref f2))) (l2 : K.lookup f2 = some ⟨oc2, od2, .func (PySem.W.fnOf "_law_span" "_law_span" (defArgs s__law_span) (defBody s__law_span) (defScope s__law_span) .none kV2 dc2 pm2 an2 cd2 ct2), sl2⟩) (c2 : PySem.W.codeIn K cd2 "_law_span" = true) (k2 : PySem.W.keepIn K (.ref f2) = true)
    {od3 an3 : Option Addr} {sl3 : Array (Option Value)} {oc3 kV3 dc3 pm3 cd3 ct3 : Value} (a3 : PySem.W.nsIn K mainGlobals "_law_divisor" = some (some (.ref f3))) (l3 : K.lookup f3 = some ⟨oc3, od3, .func (PySem.W.fnOf "_law_divisor" "_law_divisor" (defArgs s__law_divisor) (defBody s__law_divisor) (defScope s__law_divisor) .none kV3 dc3 pm3 an3 cd3 ct3), sl3⟩) (c3 : PySem.W.codeIn K cd3 "_law_divisor" = true) (k3 : PySem.W.keepIn K (.ref f3) = true)
    {od4 an4 : Option Addr} {sl4 : Array (Option Value)} {oc4 kV4 dc4 pm4 cd4 ct4 : Value} (a4 : PySem.W.nsIn K mainGlobals "_law_fraction" = some (some (.ref f4))) (l4 : K.lookup f4 = some ⟨oc4, od4, .func (PySem.W.fnOf "_law_fraction" "_law_fraction" (defArgs s__law_fraction) (defBody s__law_fraction) (defScope s__law_fraction) .none kV4 dc4 pm4 an4 cd4 ct4), sl4⟩) (c4 : PySem.W.codeIn K cd4 "_law_fraction" = true) (k4 : PySem.W.keepIn K (.ref f4) = true)
    {od5 an5 : Option Addr} {sl5 : Array (Option Value)} {oc5 kV5 dc5 pm5 cd5 ct5 : Value} (a5 : PySem.W.nsIn K mainGlobals "_law_number" = some (some (.ref f5))) (l5 : K.lookup f5 = some ⟨oc5, od5, .func (PySem.W.fnOf "_law_number" "_law_number" (defArgs s__law_number) (defBody s__law_number) (defScope s__law_number) .none kV5 dc5 pm5 an5 cd5 ct5), sl5⟩) (c5 : PySem.W.codeIn K cd5 "_law_number" = true) (k5 : PySem.W.keepIn K (.ref f5) = true)
    {od6 an6 : Option Addr} {sl6 : Array (Option Value)} {oc6 kV6 dc6 pm6 cd6 ct6 : Value} (a6 : PySem.W.nsIn K mainGlobals "_law_node" = some (some (.ref f6))) (l6 : K.lookup f6 = some ⟨oc6, od6, .func (PySem.W.fnOf "_law_node" "_law_node" (defArgs s__law_node) (defBody s__law_node) (defScope s__law_node) .none kV6 dc6 pm6 an6 cd6 ct6), sl6⟩) (c6 : PySem.W.codeIn K cd6 "_law_node" = true) (k6 : PySem.W.keepIn K (.ref f6) = true)
    {od7 an7 : Option Addr} {sl7 : Array (Option Value)} {oc7 kV7 dc7 pm7 cd7 ct7 : Value} (a7 : PySem.W.nsIn K mainGlobals "_law_power" = some (some (.ref f7))) (l7 : K.lookup f7 = some ⟨oc7, od7, .func (PySem.W.fnOf "_law_power" "_law_power" (defArgs s__law_power) (defBody s__law_power) (defScope s__law_power) .none kV7 dc7 pm7 an7 cd7 ct7), sl7⟩) (c7 : PySem.W.codeIn K cd7 "_law_power" = true) (k7 : PySem.W.keepIn K (.ref f7) = true)
    {od8 an8 : Option Addr} {sl8 : Array (Option Value)} {oc8 kV8 dc8 pm8 cd8 ct8 : Value} (a8 : PySem.W.nsIn K mainGlobals "_law_forth" = some (some (.ref f8))) (l8 : K.lookup f8 = some ⟨oc8, od8, .func (PySem.W.fnOf "_law_forth" "_law_forth" (defArgs s__law_forth) (defBody s__law_forth) (defScope s__law_forth) .none kV8 dc8 pm8 an8 cd8 ct8), sl8⟩) (c8 : PySem.W.codeIn K cd8 "_law_forth" = true) (k8 : PySem.W.keepIn K (.ref f8) = true)
    {od9 an9 : Option Addr} {sl9 : Array (Option Value)} {oc9 kV9 dc9 pm9 cd9 ct9 : Value} (a9 : PySem.W.nsIn K mainGlobals "_law_here" = some (some (.ref f9))) (l9 : K.lookup f9 = some ⟨oc9, od9, .func (PySem.W.fnOf "_law_here" "_law_here" (defArgs s__law_here) (defBody s__law_here) (defScope s__law_here) .none kV9 dc9 pm9 an9 cd9 ct9), sl9⟩) (c9 : PySem.W.codeIn K cd9 "_law_here" = true) (k9 : PySem.W.keepIn K (.ref f9) = true)
    {od10 an10 : Option Addr} {sl10 : Array (Option Value)} {oc10 kV10 dc10 pm10 cd10 ct10 : Value} (a10 : PySem.W.nsIn K mainGlobals "kind_of" = some (some (.ref f10))) (l10 : K.lookup f10 = some ⟨oc10, od10, .func (PySem.W.fnOf "kind_of" "kind_of" (defArgs s_kind_of) (defBody s_kind_of) (defScope s_kind_of) .none kV10 dc10 pm10 an10 cd10 ct10), sl10⟩) (c10 : PySem.W.codeIn K cd10 "kind_of" = true) (k10 : PySem.W.keepIn K (.ref f10) = true)
    {od11 an11 : Option Addr} {sl11 : Array (Option Value)} {oc11 kV11 dc11 pm11 cd11 ct11 : Value} (a11 : PySem.W.nsIn K mainGlobals "_law_made" = some (some (.ref f11))) (l11 : K.lookup f11 = some ⟨oc11, od11, .func (PySem.W.fnOf "_law_made" "_law_made" (defArgs s__law_made) (defBody s__law_made) (defScope s__law_made) .none kV11 dc11 pm11 an11 cd11 ct11), sl11⟩) (c11 : PySem.W.codeIn K cd11 "_law_made" = true) (k11 : PySem.W.keepIn K (.ref f11) = true)
    {od12 an12 : Option Addr} {sl12 : Array (Option Value)} {oc12 kV12 dc12 pm12 cd12 ct12 : Value} (a12 : PySem.W.nsIn K mainGlobals "_law_meet" = some (some (.ref f12))) (l12 : K.lookup f12 = some ⟨oc12, od12, .func (PySem.W.fnOf "_law_meet" "_law_meet" (defArgs s__law_meet) (defBody s__law_meet) (defScope s__law_meet) .none kV12 dc12 pm12 an12 cd12 ct12), sl12⟩) (c12 : PySem.W.codeIn K cd12 "_law_meet" = true) (k12 : PySem.W.keepIn K (.ref f12) = true)
    {od13 an13 : Option Addr} {sl13 : Array (Option Value)} {oc13 kV13 dc13 pm13 cd13 ct13 : Value} (a13 : PySem.W.nsIn K mainGlobals "_law_back_sum" = some (some (.ref f13))) (l13 : K.lookup f13 = some ⟨oc13, od13, .func (PySem.W.fnOf "_law_back_sum" "_law_back_sum" (defArgs s__law_back_sum) (defBody s__law_back_sum) (defScope s__law_back_sum) .none kV13 dc13 pm13 an13 cd13 ct13), sl13⟩) (c13 : PySem.W.codeIn K cd13 "_law_back_sum" = true) (k13 : PySem.W.keepIn K (.ref f13) = true)
    {od14 an14 : Option Addr} {sl14 : Array (Option Value)} {oc14 kV14 dc14 pm14 cd14 ct14 : Value} (a14 : PySem.W.nsIn K mainGlobals "_law_whole" = some (some (.ref f14))) (l14 : K.lookup f14 = some ⟨oc14, od14, .func (PySem.W.fnOf "_law_whole" "_law_whole" (defArgs s__law_whole) (defBody s__law_whole) (defScope s__law_whole) .none kV14 dc14 pm14 an14 cd14 ct14), sl14⟩) (c14 : PySem.W.codeIn K cd14 "_law_whole" = true) (k14 : PySem.W.keepIn K (.ref f14) = true)
    {od15 an15 : Option Addr} {sl15 : Array (Option Value)} {oc15 kV15 dc15 pm15 cd15 ct15 : Value} (a15 : PySem.W.nsIn K mainGlobals "_law_span_is" = some (some (.ref f15))) (l15 : K.lookup f15 = some ⟨oc15, od15, .func (PySem.W.fnOf "_law_span_is" "_law_span_is" (defArgs s__law_span_is) (defBody s__law_span_is) (defScope s__law_span_is) .none kV15 dc15 pm15 an15 cd15 ct15), sl15⟩) (c15 : PySem.W.codeIn K cd15 "_law_span_is" = true) (k15 : PySem.W.keepIn K (.ref f15) = true)
    {od16 an16 : Option Addr} {sl16 : Array (Option Value)} {oc16 kV16 dc16 pm16 cd16 ct16 : Value} (a16 : PySem.W.nsIn K mainGlobals "_law_parts_are" = some (some (.ref f16))) (l16 : K.lookup f16 = some ⟨oc16, od16, .func (PySem.W.fnOf "_law_parts_are" "_law_parts_are" (defArgs s__law_parts_are) (defBody s__law_parts_are) (defScope s__law_parts_are) .none kV16 dc16 pm16 an16 cd16 ct16), sl16⟩) (c16 : PySem.W.codeIn K cd16 "_law_parts_are" = true) (k16 : PySem.W.keepIn K (.ref f16) = true)
    {od17 an17 : Option Addr} {sl17 : Array (Option Value)} {oc17 kV17 dc17 pm17 cd17 ct17 : Value} (a17 : PySem.W.findIn K (.ref a_Node) "back" = some (some (.ref f17))) (l17 : K.lookup f17 = some ⟨oc17, od17, .func (PySem.W.fnOf "back" "Node.back" (defArgs s_Node_back) (defBody s_Node_back) (defScope s_Node_back) .none kV17 dc17 pm17 an17 cd17 ct17), sl17⟩) (c17 : PySem.W.codeIn K cd17 "Node.back" = true) (k17 : PySem.W.keepIn K (.ref f17) = true)
    {od18 an18 : Option Addr} {sl18 : Array (Option Value)} {oc18 kV18 dc18 pm18 cd18 ct18 : Value} (a18 : PySem.W.nsIn K mainGlobals "common" = some (some (.ref f18))) (l18 : K.lookup f18 = some ⟨oc18, od18, .func (PySem.W.fnOf "common" "common" (defArgs s_common) (defBody s_common) (defScope s_common) .none kV18 dc18 pm18 an18 cd18 ct18), sl18⟩) (c18 : PySem.W.codeIn K cd18 "common" = true) (k18 : PySem.W.keepIn K (.ref f18) = true)
    {od19 an19 : Option Addr} {sl19 : Array (Option Value)} {oc19 kV19 dc19 pm19 cd19 ct19 : Value} (a19 : PySem.W.nsIn K mainGlobals "take_spans" = some (some (.ref f19))) (l19 : K.lookup f19 = some ⟨oc19, od19, .func (PySem.W.fnOf "take_spans" "take_spans" (defArgs s_take_spans) (defBody s_take_spans) (defScope s_take_spans) .none kV19 dc19 pm19 an19 cd19 ct19), sl19⟩) (c19 : PySem.W.codeIn K cd19 "take_spans" = true) (k19 : PySem.W.keepIn K (.ref f19) = true)
    {od20 an20 : Option Addr} {sl20 : Array (Option Value)} {oc20 kV20 dc20 pm20 cd20 ct20 : Value} (a20 : PySem.W.findIn K (.ref a_Plus) "first_back" = some (some (.ref f20))) (l20 : K.lookup f20 = some ⟨oc20, od20, .func (PySem.W.fnOf "first_back" "Plus.first_back" (defArgs s_Plus_first_back) (defBody s_Plus_first_back) (defScope s_Plus_first_back) .none kV20 dc20 pm20 an20 cd20 ct20), sl20⟩) (c20 : PySem.W.codeIn K cd20 "Plus.first_back" = true) (k20 : PySem.W.keepIn K (.ref f20) = true)
    {od21 an21 : Option Addr} {sl21 : Array (Option Value)} {oc21 kV21 dc21 pm21 cd21 ct21 : Value} (a21 : PySem.W.nsIn K mainGlobals "add_spans" = some (some (.ref f21))) (l21 : K.lookup f21 = some ⟨oc21, od21, .func (PySem.W.fnOf "add_spans" "add_spans" (defArgs s_add_spans) (defBody s_add_spans) (defScope s_add_spans) .none kV21 dc21 pm21 an21 cd21 ct21), sl21⟩) (c21 : PySem.W.codeIn K cd21 "add_spans" = true) (k21 : PySem.W.keepIn K (.ref f21) = true)
    {od22 an22 : Option Addr} {sl22 : Array (Option Value)} {oc22 kV22 dc22 pm22 cd22 ct22 : Value} (a22 : PySem.W.findIn K (.ref a_Minus) "first_back" = some (some (.ref f22))) (l22 : K.lookup f22 = some ⟨oc22, od22, .func (PySem.W.fnOf "first_back" "Minus.first_back" (defArgs s_Minus_first_back) (defBody s_Minus_first_back) (defScope s_Minus_first_back) .none kV22 dc22 pm22 an22 cd22 ct22), sl22⟩) (c22 : PySem.W.codeIn K cd22 "Minus.first_back" = true) (k22 : PySem.W.keepIn K (.ref f22) = true)
    {od23 an23 : Option Addr} {sl23 : Array (Option Value)} {oc23 kV23 dc23 pm23 cd23 ct23 : Value} (a23 : PySem.W.findIn K (.ref a_Plus) "second_back" = some (some (.ref f23))) (l23 : K.lookup f23 = some ⟨oc23, od23, .func (PySem.W.fnOf "second_back" "Plus.second_back" (defArgs s_Plus_second_back) (defBody s_Plus_second_back) (defScope s_Plus_second_back) .none kV23 dc23 pm23 an23 cd23 ct23), sl23⟩) (c23 : PySem.W.codeIn K cd23 "Plus.second_back" = true) (k23 : PySem.W.keepIn K (.ref f23) = true)
    {od24 an24 : Option Addr} {sl24 : Array (Option Value)} {oc24 kV24 dc24 pm24 cd24 ct24 : Value} (a24 : PySem.W.findIn K (.ref a_Minus) "second_back" = some (some (.ref f24))) (l24 : K.lookup f24 = some ⟨oc24, od24, .func (PySem.W.fnOf "second_back" "Minus.second_back" (defArgs s_Minus_second_back) (defBody s_Minus_second_back) (defScope s_Minus_second_back) .none kV24 dc24 pm24 an24 cd24 ct24), sl24⟩) (c24 : PySem.W.codeIn K cd24 "Minus.second_back" = true) (k24 : PySem.W.keepIn K (.ref f24) = true)
    {od25 an25 : Option Addr} {sl25 : Array (Option Value)} {oc25 kV25 dc25 pm25 cd25 ct25 : Value} (a25 : PySem.W.findIn K (.ref a_Node) "pair_back" = some (some (.ref f25))) (l25 : K.lookup f25 = some ⟨oc25, od25, .func (PySem.W.fnOf "pair_back" "Node.pair_back" (defArgs s_Node_pair_back) (defBody s_Node_pair_back) (defScope s_Node_pair_back) .none kV25 dc25 pm25 an25 cd25 ct25), sl25⟩) (c25 : PySem.W.codeIn K cd25 "Node.pair_back" = true) (k25 : PySem.W.keepIn K (.ref f25) = true)
    {od26 an26 : Option Addr} {sl26 : Array (Option Value)} {oc26 kV26 dc26 pm26 cd26 ct26 : Value} (a26 : PySem.W.findIn K (.ref a_Plus) "back" = some (some (.ref f26))) (l26 : K.lookup f26 = some ⟨oc26, od26, .func (PySem.W.fnOf "back" "Plus.back" (defArgs s_Plus_back) (defBody s_Plus_back) (defScope s_Plus_back) .none kV26 dc26 pm26 an26 cd26 ct26), sl26⟩) (c26 : PySem.W.codeIn K cd26 "Plus.back" = true) (k26 : PySem.W.keepIn K (.ref f26) = true)
    {od27 an27 : Option Addr} {sl27 : Array (Option Value)} {oc27 kV27 dc27 pm27 cd27 ct27 : Value} (a27 : PySem.W.findIn K (.ref a_Minus) "back" = some (some (.ref f27))) (l27 : K.lookup f27 = some ⟨oc27, od27, .func (PySem.W.fnOf "back" "Minus.back" (defArgs s_Minus_back) (defBody s_Minus_back) (defScope s_Minus_back) .none kV27 dc27 pm27 an27 cd27 ct27), sl27⟩) (c27 : PySem.W.codeIn K cd27 "Minus.back" = true) (k27 : PySem.W.keepIn K (.ref f27) = true)
    {od28 an28 : Option Addr} {sl28 : Array (Option Value)} {oc28 kV28 dc28 pm28 cd28 ct28 : Value} (a28 : PySem.W.nsIn K mainGlobals "law" = some (some (.ref f28))) (l28 : K.lookup f28 = some ⟨oc28, od28, .func (PySem.W.fnOf "law" "law" (defArgs s_law) (defBody s_law) (defScope s_law) .none kV28 dc28 pm28 an28 cd28 ct28), sl28⟩) (c28 : PySem.W.codeIn K cd28 "law" = true) (k28 : PySem.W.keepIn K (.ref f28) = true)
    (j17 : PySem.W.isFn K (.ref f17) = true)
    (j20 : PySem.W.isFn K (.ref f20) = true)
    (j22 : PySem.W.isFn K (.ref f22) = true)
    (j23 : PySem.W.isFn K (.ref f23) = true)
    (j24 : PySem.W.isFn K (.ref f24) = true)
    (j25 : PySem.W.isFn K (.ref f25) = true)
    (j26 : PySem.W.isFn K (.ref f26) = true)
    (j27 : PySem.W.isFn K (.ref f27) = true)
    {odi0 ani0 : Option Addr} {sli0 : Array (Option Value)} {oci0 kVi0 dci0 pmi0 cdi0 cti0 : Value} (ai0 : PySem.W.findIn K (.ref a_Power) "__init__" = some (some (.ref fi0))) (li0 : K.lookup fi0 = some ⟨oci0, odi0, .func (PySem.W.fnOf "__init__" "Power.__init__" (defArgs s_Power___init__) (defBody s_Power___init__) (defScope s_Power___init__) .none kVi0 dci0 pmi0 ani0 cdi0 cti0), sli0⟩) (ci0 : PySem.W.codeIn K cdi0 "Power.__init__" = true) (ki0 : PySem.W.keepIn K (.ref fi0) = true) (ji0 : PySem.W.isFn K (.ref fi0) = true) (mi0 : PySem.W.makesIn K a_Power = true) (kci0 : PySem.W.keepIn K (.ref a_Power) = true)
    {odi1 ani1 : Option Addr} {sli1 : Array (Option Value)} {oci1 kVi1 dci1 pmi1 cdi1 cti1 : Value} (ai1 : PySem.W.findIn K (.ref a_Number) "__init__" = some (some (.ref fi1))) (li1 : K.lookup fi1 = some ⟨oci1, odi1, .func (PySem.W.fnOf "__init__" "Number.__init__" (defArgs s_Number___init__) (defBody s_Number___init__) (defScope s_Number___init__) .none kVi1 dci1 pmi1 ani1 cdi1 cti1), sli1⟩) (ci1 : PySem.W.codeIn K cdi1 "Number.__init__" = true) (ki1 : PySem.W.keepIn K (.ref fi1) = true) (ji1 : PySem.W.isFn K (.ref fi1) = true) (mi1 : PySem.W.makesIn K a_Number = true) (kci1 : PySem.W.keepIn K (.ref a_Number) = true)
    {odi2 ani2 : Option Addr} {sli2 : Array (Option Value)} {oci2 kVi2 dci2 pmi2 cdi2 cti2 : Value} (ai2 : PySem.W.findIn K (.ref a_Unknown) "__init__" = some (some (.ref fi2))) (li2 : K.lookup fi2 = some ⟨oci2, odi2, .func (PySem.W.fnOf "__init__" "Unknown.__init__" (defArgs s_Unknown___init__) (defBody s_Unknown___init__) (defScope s_Unknown___init__) .none kVi2 dci2 pmi2 ani2 cdi2 cti2), sli2⟩) (ci2 : PySem.W.codeIn K cdi2 "Unknown.__init__" = true) (ki2 : PySem.W.keepIn K (.ref fi2) = true) (ji2 : PySem.W.isFn K (.ref fi2) = true) (mi2 : PySem.W.makesIn K a_Unknown = true) (kci2 : PySem.W.keepIn K (.ref a_Unknown) = true)
    {odi3 ani3 : Option Addr} {sli3 : Array (Option Value)} {oci3 kVi3 dci3 pmi3 cdi3 cti3 : Value} (ai3 : PySem.W.findIn K (.ref a_Plus) "__init__" = some (some (.ref fi3))) (li3 : K.lookup fi3 = some ⟨oci3, odi3, .func (PySem.W.fnOf "__init__" "Plus.__init__" (defArgs s_Plus___init__) (defBody s_Plus___init__) (defScope s_Plus___init__) .none kVi3 dci3 pmi3 ani3 cdi3 cti3), sli3⟩) (ci3 : PySem.W.codeIn K cdi3 "Plus.__init__" = true) (ki3 : PySem.W.keepIn K (.ref fi3) = true) (ji3 : PySem.W.isFn K (.ref fi3) = true) (mi3 : PySem.W.makesIn K a_Plus = true) (kci3 : PySem.W.keepIn K (.ref a_Plus) = true)
    {odi4 ani4 : Option Addr} {sli4 : Array (Option Value)} {oci4 kVi4 dci4 pmi4 cdi4 cti4 : Value} (ai4 : PySem.W.findIn K (.ref a_Minus) "__init__" = some (some (.ref fi4))) (li4 : K.lookup fi4 = some ⟨oci4, odi4, .func (PySem.W.fnOf "__init__" "Minus.__init__" (defArgs s_Minus___init__) (defBody s_Minus___init__) (defScope s_Minus___init__) .none kVi4 dci4 pmi4 ani4 cdi4 cti4), sli4⟩) (ci4 : PySem.W.codeIn K cdi4 "Minus.__init__" = true) (ki4 : PySem.W.keepIn K (.ref fi4) = true) (ji4 : PySem.W.isFn K (.ref fi4) = true) (mi4 : PySem.W.makesIn K a_Minus = true) (kci4 : PySem.W.keepIn K (.ref a_Minus) = true)
    {odi5 ani5 : Option Addr} {sli5 : Array (Option Value)} {oci5 kVi5 dci5 pmi5 cdi5 cti5 : Value} (ai5 : PySem.W.findIn K (.ref a_Times) "__init__" = some (some (.ref fi5))) (li5 : K.lookup fi5 = some ⟨oci5, odi5, .func (PySem.W.fnOf "__init__" "Times.__init__" (defArgs s_Times___init__) (defBody s_Times___init__) (defScope s_Times___init__) .none kVi5 dci5 pmi5 ani5 cdi5 cti5), sli5⟩) (ci5 : PySem.W.codeIn K cdi5 "Times.__init__" = true) (ki5 : PySem.W.keepIn K (.ref fi5) = true) (ji5 : PySem.W.isFn K (.ref fi5) = true) (mi5 : PySem.W.makesIn K a_Times = true) (kci5 : PySem.W.keepIn K (.ref a_Times) = true)
    (g_Node : PySem.W.nsIn K mainGlobals "Node" = some (some (.ref a_Node))) (pg_Node : PySem.W.plainGet K a_Node Str.empty = true) (hd_Node : PySem.W.hasDictIn K a_Node = true) (po_Node : PySem.W.plainOver K a_Node = true) (sa_Node : PySem.W.findIn K (.ref a_Node) "__setattr__" = some (some (.builtin "object.__setattr__")))
    (g_Number : PySem.W.nsIn K mainGlobals "Number" = some (some (.ref a_Number))) (pg_Number : PySem.W.plainGet K a_Number Str.empty = true) (hd_Number : PySem.W.hasDictIn K a_Number = true) (po_Number : PySem.W.plainOver K a_Number = true) (sa_Number : PySem.W.findIn K (.ref a_Number) "__setattr__" = some (some (.builtin "object.__setattr__")))
    (g_Unknown : PySem.W.nsIn K mainGlobals "Unknown" = some (some (.ref a_Unknown))) (pg_Unknown : PySem.W.plainGet K a_Unknown Str.empty = true) (hd_Unknown : PySem.W.hasDictIn K a_Unknown = true) (po_Unknown : PySem.W.plainOver K a_Unknown = true) (sa_Unknown : PySem.W.findIn K (.ref a_Unknown) "__setattr__" = some (some (.builtin "object.__setattr__")))
    (g_Plus : PySem.W.nsIn K mainGlobals "Plus" = some (some (.ref a_Plus))) (pg_Plus : PySem.W.plainGet K a_Plus Str.empty = true) (hd_Plus : PySem.W.hasDictIn K a_Plus = true) (po_Plus : PySem.W.plainOver K a_Plus = true) (sa_Plus : PySem.W.findIn K (.ref a_Plus) "__setattr__" = some (some (.builtin "object.__setattr__")))
    (g_Minus : PySem.W.nsIn K mainGlobals "Minus" = some (some (.ref a_Minus))) (pg_Minus : PySem.W.plainGet K a_Minus Str.empty = true) (hd_Minus : PySem.W.hasDictIn K a_Minus = true) (po_Minus : PySem.W.plainOver K a_Minus = true) (sa_Minus : PySem.W.findIn K (.ref a_Minus) "__setattr__" = some (some (.builtin "object.__setattr__")))
    (g_Times : PySem.W.nsIn K mainGlobals "Times" = some (some (.ref a_Times))) (pg_Times : PySem.W.plainGet K a_Times Str.empty = true) (hd_Times : PySem.W.hasDictIn K a_Times = true) (po_Times : PySem.W.plainOver K a_Times = true) (sa_Times : PySem.W.findIn K (.ref a_Times) "__setattr__" = some (some (.builtin "object.__setattr__")))
    (g_Power : PySem.W.nsIn K mainGlobals "Power" = some (some (.ref a_Power))) (pg_Power : PySem.W.plainGet K a_Power Str.empty = true) (hd_Power : PySem.W.hasDictIn K a_Power = true) (po_Power : PySem.W.plainOver K a_Power = true) (sa_Power : PySem.W.findIn K (.ref a_Power) "__setattr__" = some (some (.builtin "object.__setattr__")))
    (na_Minus_one : PySem.W.findIn K (.ref a_Minus) "one" = some none)
    (na_Minus_other : PySem.W.findIn K (.ref a_Minus) "other" = some none)
    (na_Number_bottom : PySem.W.findIn K (.ref a_Number) "bottom" = some none)
    (na_Number_top : PySem.W.findIn K (.ref a_Number) "top" = some none)
    (na_Plus_one : PySem.W.findIn K (.ref a_Plus) "one" = some none)
    (na_Plus_other : PySem.W.findIn K (.ref a_Plus) "other" = some none)
    (na_Power_many : PySem.W.findIn K (.ref a_Power) "many" = some none)
    (na_Power_one : PySem.W.findIn K (.ref a_Power) "one" = some none)
    (na_Times_one : PySem.W.findIn K (.ref a_Times) "one" = some none)
    (na_Times_other : PySem.W.findIn K (.ref a_Times) "other" = some none)
    (na_Unknown_place : PySem.W.findIn K (.ref a_Unknown) "place" = some none)
    (b_Plus_pair_back : PySem.W.findIn K (.ref a_Plus) "pair_back" = some (some (.ref f25)))
    (b_Minus_pair_back : PySem.W.findIn K (.ref a_Minus) "pair_back" = some (some (.ref f25)))
    (b_Number_back : PySem.W.findIn K (.ref a_Number) "back" = some (some (.ref f17)))
    (b_Unknown_back : PySem.W.findIn K (.ref a_Unknown) "back" = some (some (.ref f17)))
    (z_abs_ : PySem.W.nsIn K mainGlobals "abs" = some none)
    (z_bool_ : PySem.W.nsIn K mainGlobals "bool" = some none)
    (z_int_ : PySem.W.nsIn K mainGlobals "int" = some none)
    (z_isinstance : PySem.W.nsIn K mainGlobals "isinstance" = some none)
    (z_len_ : PySem.W.nsIn K mainGlobals "len" = some none)
    (z_list_ : PySem.W.nsIn K mainGlobals "list" = some none)
    (z_max_ : PySem.W.nsIn K mainGlobals "max" = some none)
    (z_min_ : PySem.W.nsIn K mainGlobals "min" = some none)
    (z_range : PySem.W.nsIn K mainGlobals "range" = some none)
    (z_tuple_ : PySem.W.nsIn K mainGlobals "tuple" = some none)
    : ∃ fd : FuncData, (∀ (s : Shared) (v : Value), BindsTo s fd ⟨[v], []⟩ [("_law_script", v)]) ∧ ∀ base : Heap, K.In base → base.Ns mainGlobals mg → FnOk l.prog w K mg base (L2.CX l.prog w) 5 fa fd ["_law_script"] (spL K) := by
  have e := hfa.symm.trans (PySem.W.mg_of X G a28)
  cases e
  have F0 := fun_mk (st := s__law_grid) l0 c0 k0
  have b0 := F0.binds (ps := ["_law_cell_here"]) fun _ _ _ _ _ _ us hl => match us, hl with | [_], _ => rfl
  have F1 := fun_mk (st := s__law_cell) l1 c1 k1
  have b1 := F1.binds (ps := ["_law_script", "_law_k"]) fun _ _ _ _ _ _ us hl => match us, hl with | [_, _], _ => rfl
  have F2 := fun_mk (st := s__law_span) l2 c2 k2
  have b2 := F2.binds (ps := ["_law_cell_here"]) fun _ _ _ _ _ _ us hl => match us, hl with | [_], _ => rfl
  have F3 := fun_mk (st := s__law_divisor) l3 c3 k3
  have b3 := F3.binds (ps := ["_law_a", "_law_b"]) fun _ _ _ _ _ _ us hl => match us, hl with | [_, _], _ => rfl
  have F4 := fun_mk (st := s__law_fraction) l4 c4 k4
  have b4 := F4.binds (ps := ["_law_top", "_law_bottom"]) fun _ _ _ _ _ _ us hl => match us, hl with | [_, _], _ => rfl
  have F5 := fun_mk (st := s__law_number) l5 c5 k5
  have b5 := F5.binds (ps := ["_law_cell_here"]) fun _ _ _ _ _ _ us hl => match us, hl with | [_], _ => rfl
  have F6 := fun_mk (st := s__law_node) l6 c6 k6
  have b6 := F6.binds (ps := ["_law_cell_here", "_law_size", "_law_many"]) fun _ _ _ _ _ _ us hl => match us, hl with | [_, _, _], _ => rfl
  have F7 := fun_mk (st := s__law_power) l7 c7 k7
  have b7 := F7.binds (ps := ["_law_a", "_law_many"]) fun _ _ _ _ _ _ us hl => match us, hl with | [_, _], _ => rfl
  have F8 := fun_mk (st := s__law_forth) l8 c8 k8
  have b8 := F8.binds (ps := ["_law_node_here", "_law_spans", "_law_box", "_law_grid_here"]) fun _ _ _ _ _ _ us hl => match us, hl with | [_, _, _, _], _ => rfl
  have F9 := fun_mk (st := s__law_here) l9 c9 k9
  have b9 := F9.binds (ps := ["_law_node_here", "_law_spans", "_law_box", "_law_grid_here", "_law_cell_here"]) fun _ _ _ _ _ _ us hl => match us, hl with | [_, _, _, _, _], _ => rfl
  have F10 := fun_mk (st := s_kind_of) l10 c10 k10
  have b10 := F10.binds (ps := ["node"]) fun _ _ _ _ _ _ us hl => match us, hl with | [_], _ => rfl
  have F11 := fun_mk (st := s__law_made) l11 c11 k11
  have b11 := F11.binds (ps := ["_law_node_here", "_law_straight"]) fun _ _ _ _ _ _ us hl => match us, hl with | [_, _], _ => rfl
  have F12 := fun_mk (st := s__law_meet) l12 c12 k12
  have b12 := F12.binds (ps := ["_law_a", "_law_b"]) fun _ _ _ _ _ _ us hl => match us, hl with | [_, _], _ => rfl
  have F13 := fun_mk (st := s__law_back_sum) l13 c13 k13
  have b13 := F13.binds (ps := ["_law_node_here", "_law_spans", "_law_z"]) fun _ _ _ _ _ _ us hl => match us, hl with | [_, _, _], _ => rfl
  have F14 := fun_mk (st := s__law_whole) l14 c14 k14
  have b14 := F14.binds (ps := ["_law_found"]) fun _ _ _ _ _ _ us hl => match us, hl with | [_], _ => rfl
  have F15 := fun_mk (st := s__law_span_is) l15 c15 k15
  have b15 := F15.binds (ps := ["_law_found"]) fun _ _ _ _ _ _ us hl => match us, hl with | [_], _ => rfl
  have F16 := fun_mk (st := s__law_parts_are) l16 c16 k16
  have b16 := F16.binds (ps := ["_law_found", "_law_due"]) fun _ _ _ _ _ _ us hl => match us, hl with | [_, _], _ => rfl
  have F17 := fun_mk (st := s_Node_back) l17 c17 k17
  have b17 := F17.binds (ps := ["self", "spans", "here", "grid"]) fun _ _ _ _ _ _ us hl => match us, hl with | [_, _, _, _], _ => rfl
  have F18 := fun_mk (st := s_common) l18 c18 k18
  have b18 := F18.binds (ps := ["a", "b"]) fun _ _ _ _ _ _ us hl => match us, hl with | [_, _], _ => rfl
  have F19 := fun_mk (st := s_take_spans) l19 c19 k19
  have b19 := F19.binds (ps := ["a", "b"]) fun _ _ _ _ _ _ us hl => match us, hl with | [_, _], _ => rfl
  have F20 := fun_mk (st := s_Plus_first_back) l20 c20 k20
  have b20 := F20.binds (ps := ["self", "here", "x", "y", "grid"]) fun _ _ _ _ _ _ us hl => match us, hl with | [_, _, _, _, _], _ => rfl
  have F21 := fun_mk (st := s_add_spans) l21 c21 k21
  have b21 := F21.binds (ps := ["a", "b"]) fun _ _ _ _ _ _ us hl => match us, hl with | [_, _], _ => rfl
  have F22 := fun_mk (st := s_Minus_first_back) l22 c22 k22
  have b22 := F22.binds (ps := ["self", "here", "x", "y", "grid"]) fun _ _ _ _ _ _ us hl => match us, hl with | [_, _, _, _, _], _ => rfl
  have F23 := fun_mk (st := s_Plus_second_back) l23 c23 k23
  have b23 := F23.binds (ps := ["self", "here", "x", "y", "grid"]) fun _ _ _ _ _ _ us hl => match us, hl with | [_, _, _, _, _], _ => rfl
  have F24 := fun_mk (st := s_Minus_second_back) l24 c24 k24
  have b24 := F24.binds (ps := ["self", "here", "x", "y", "grid"]) fun _ _ _ _ _ _ us hl => match us, hl with | [_, _, _, _, _], _ => rfl
  have F25 := fun_mk (st := s_Node_pair_back) l25 c25 k25
  have b25 := F25.binds (ps := ["self", "spans", "here", "grid", "one", "other"]) fun _ _ _ _ _ _ us hl => match us, hl with | [_, _, _, _, _, _], _ => rfl
  have F26 := fun_mk (st := s_Plus_back) l26 c26 k26
  have b26 := F26.binds (ps := ["self", "spans", "here", "grid"]) fun _ _ _ _ _ _ us hl => match us, hl with | [_, _, _, _], _ => rfl
  have F27 := fun_mk (st := s_Minus_back) l27 c27 k27
  have b27 := F27.binds (ps := ["self", "spans", "here", "grid"]) fun _ _ _ _ _ _ us hl => match us, hl with | [_, _, _, _], _ => rfl
  have F28 := fun_mk (st := s_law) l28 c28 k28
  have b28 := F28.binds (ps := ["_law_script"]) fun _ _ _ _ _ _ us hl => match us, hl with | [_], _ => rfl
  have Fi0 := fun_mk (st := s_Power___init__) li0 ci0 ki0
  have bi0 := Fi0.binds (ps := ["self", "one", "many"]) fun _ _ _ _ _ _ us hl => match us, hl with | [_, _, _], _ => rfl
  have Fi1 := fun_mk (st := s_Number___init__) li1 ci1 ki1
  have bi1 := Fi1.binds (ps := ["self", "top", "bottom"]) fun _ _ _ _ _ _ us hl => match us, hl with | [_, _, _], _ => rfl
  have Fi2 := fun_mk (st := s_Unknown___init__) li2 ci2 ki2
  have bi2 := Fi2.binds (ps := ["self", "place"]) fun _ _ _ _ _ _ us hl => match us, hl with | [_, _], _ => rfl
  have Fi3 := fun_mk (st := s_Plus___init__) li3 ci3 ki3
  have bi3 := Fi3.binds (ps := ["self", "one", "other"]) fun _ _ _ _ _ _ us hl => match us, hl with | [_, _, _], _ => rfl
  have Fi4 := fun_mk (st := s_Minus___init__) li4 ci4 ki4
  have bi4 := Fi4.binds (ps := ["self", "one", "other"]) fun _ _ _ _ _ _ us hl => match us, hl with | [_, _, _], _ => rfl
  have Fi5 := fun_mk (st := s_Times___init__) li5 ci5 ki5
  have bi5 := Fi5.binds (ps := ["self", "one", "other"]) fun _ _ _ _ _ _ us hl => match us, hl with | [_, _, _], _ => rfl
  have T : Tx K mg (caF a_Node a_Number a_Unknown a_Plus a_Minus a_Times a_Power) := { abs_ := PySem.W.mg_none_of X G z_abs_, bool_ := PySem.W.mg_none_of X G z_bool_, int_ := PySem.W.mg_none_of X G z_int_, isinstance := PySem.W.mg_none_of X G z_isinstance, len_ := PySem.W.mg_none_of X G z_len_, list_ := PySem.W.mg_none_of X G z_list_, max_ := PySem.W.mg_none_of X G z_max_, min_ := PySem.W.mg_none_of X G z_min_, range := PySem.W.mg_none_of X G z_range, tuple_ := PySem.W.mg_none_of X G z_tuple_, cl_Node := ⟨pg_Node, hd_Node, po_Node, sa_Node⟩, cl_Number := ⟨pg_Number, hd_Number, po_Number, sa_Number⟩, cl_Unknown := ⟨pg_Unknown, hd_Unknown, po_Unknown, sa_Unknown⟩, cl_Plus := ⟨pg_Plus, hd_Plus, po_Plus, sa_Plus⟩, cl_Minus := ⟨pg_Minus, hd_Minus, po_Minus, sa_Minus⟩, cl_Times := ⟨pg_Times, hd_Times, po_Times, sa_Times⟩, cl_Power := ⟨pg_Power, hd_Power, po_Power, sa_Power⟩, na_Minus_one := na_Minus_one, na_Minus_other := na_Minus_other, na_Number_bottom := na_Number_bottom, na_Number_top := na_Number_top, na_Plus_one := na_Plus_one, na_Plus_other := na_Plus_other, na_Power_many := na_Power_many, na_Power_one := na_Power_one, na_Times_one := na_Times_one, na_Times_other := na_Times_other, na_Unknown_place := na_Unknown_place }
  refine ⟨PySem.W.fnOf "law" "law" (defArgs s_law) (defBody s_law) (defScope s_law) .none kV28 dc28 pm28 an28 cd28 ct28, fun s v => .of_eq rfl, fun base _ _ => ?_⟩
  have G__law_grid : Fo l.prog w K mg base (caF a_Node a_Number a_Unknown a_Plus a_Minus a_Times a_Power) 1 "_law_grid" f__law_grid := fo_of F0 (PySem.W.mg_of X G a0) b0 (ok__law_grid T  F0)
  have G__law_cell : Fo l.prog w K mg base (caF a_Node a_Number a_Unknown a_Plus a_Minus a_Times a_Power) 1 "_law_cell" f__law_cell := fo_of F1 (PySem.W.mg_of X G a1) b1 (ok__law_cell T  F1)
  have G__law_span : Fo l.prog w K mg base (caF a_Node a_Number a_Unknown a_Plus a_Minus a_Times a_Power) 1 "_law_span" f__law_span := fo_of F2 (PySem.W.mg_of X G a2) b2 (ok__law_span T  F2)
  have G__law_divisor : Fo l.prog w K mg base (caF a_Node a_Number a_Unknown a_Plus a_Minus a_Times a_Power) 1 "_law_divisor" f__law_divisor := fo_of F3 (PySem.W.mg_of X G a3) b3 (ok__law_divisor T  F3)
  have G__law_fraction : Fo l.prog w K mg base (caF a_Node a_Number a_Unknown a_Plus a_Minus a_Times a_Power) 2 "_law_fraction" f__law_fraction := fo_of F4 (PySem.W.mg_of X G a4) b4 (ok__law_fraction T G__law_divisor F4)
  have G__law_number : Fo l.prog w K mg base (caF a_Node a_Number a_Unknown a_Plus a_Minus a_Times a_Power) 3 "_law_number" f__law_number := fo_of F5 (PySem.W.mg_of X G a5) b5 (ok__law_number T G__law_fraction F5)
  have G__law_node : Fo l.prog w K mg base (caF a_Node a_Number a_Unknown a_Plus a_Minus a_Times a_Power) 4 "_law_node" f__law_node := fo_of F6 (PySem.W.mg_of X G a6) b6 (ok__law_node T G__law_number F6)
  have G__law_power : Fo l.prog w K mg base (caF a_Node a_Number a_Unknown a_Plus a_Minus a_Times a_Power) 1 "_law_power" f__law_power := fo_of F7 (PySem.W.mg_of X G a7) b7 (ok__law_power T  F7)
  have G__law_forth : Fo l.prog w K mg base (caF a_Node a_Number a_Unknown a_Plus a_Minus a_Times a_Power) 2 "_law_forth" f__law_forth := fo_of F8 (PySem.W.mg_of X G a8) b8 (ok__law_forth T G__law_power F8)
  have G__law_here : Fo l.prog w K mg base (caF a_Node a_Number a_Unknown a_Plus a_Minus a_Times a_Power) 3 "_law_here" f__law_here := fo_of F9 (PySem.W.mg_of X G a9) b9 (ok__law_here T G__law_forth G__law_span F9)
  have M_Power : MkO l.prog w K mg base (caF a_Node a_Number a_Unknown a_Plus a_Minus a_Times a_Power) "Power" ["one", "many"] := ⟨_, _, _, ⟨mi0, ai0, ji0, kci0⟩, PySem.W.mg_of X G g_Power, bi0, ok_Power___init__ T Fi0⟩
  have M_Number : MkO l.prog w K mg base (caF a_Node a_Number a_Unknown a_Plus a_Minus a_Times a_Power) "Number" ["top", "bottom"] := ⟨_, _, _, ⟨mi1, ai1, ji1, kci1⟩, PySem.W.mg_of X G g_Number, bi1, ok_Number___init__ T Fi1⟩
  have M_Unknown : MkO l.prog w K mg base (caF a_Node a_Number a_Unknown a_Plus a_Minus a_Times a_Power) "Unknown" ["place"] := ⟨_, _, _, ⟨mi2, ai2, ji2, kci2⟩, PySem.W.mg_of X G g_Unknown, bi2, ok_Unknown___init__ T Fi2⟩
  have M_Plus : MkO l.prog w K mg base (caF a_Node a_Number a_Unknown a_Plus a_Minus a_Times a_Power) "Plus" ["one", "other"] := ⟨_, _, _, ⟨mi3, ai3, ji3, kci3⟩, PySem.W.mg_of X G g_Plus, bi3, ok_Plus___init__ T Fi3⟩
  have M_Minus : MkO l.prog w K mg base (caF a_Node a_Number a_Unknown a_Plus a_Minus a_Times a_Power) "Minus" ["one", "other"] := ⟨_, _, _, ⟨mi4, ai4, ji4, kci4⟩, PySem.W.mg_of X G g_Minus, bi4, ok_Minus___init__ T Fi4⟩
  have M_Times : MkO l.prog w K mg base (caF a_Node a_Number a_Unknown a_Plus a_Minus a_Times a_Power) "Times" ["one", "other"] := ⟨_, _, _, ⟨mi5, ai5, ji5, kci5⟩, PySem.W.mg_of X G g_Times, bi5, ok_Times___init__ T Fi5⟩
  have G_kind_of : Fo l.prog w K mg base (caF a_Node a_Number a_Unknown a_Plus a_Minus a_Times a_Power) 3 "kind_of" f_kind_of := fo_of F10 (PySem.W.mg_of X G a10) b10 (ok_kind_of T M_Power M_Number M_Unknown M_Plus M_Minus M_Times F10)
  have G__law_made : Fo l.prog w K mg base (caF a_Node a_Number a_Unknown a_Plus a_Minus a_Times a_Power) 4 "_law_made" f__law_made := fo_of F11 (PySem.W.mg_of X G a11) b11 (ok__law_made T G_kind_of M_Times M_Number M_Unknown M_Power M_Plus M_Minus F11)
  have G__law_meet : Fo l.prog w K mg base (caF a_Node a_Number a_Unknown a_Plus a_Minus a_Times a_Power) 1 "_law_meet" f__law_meet := fo_of F12 (PySem.W.mg_of X G a12) b12 (ok__law_meet T  F12)
  have G__law_back_sum : Fo l.prog w K mg base (caF a_Node a_Number a_Unknown a_Plus a_Minus a_Times a_Power) 2 "_law_back_sum" f__law_back_sum := fo_of F13 (PySem.W.mg_of X G a13) b13 (ok__law_back_sum T G__law_meet F13)
  have G__law_whole : Fo l.prog w K mg base (caF a_Node a_Number a_Unknown a_Plus a_Minus a_Times a_Power) 1 "_law_whole" f__law_whole := fo_of F14 (PySem.W.mg_of X G a14) b14 (ok__law_whole T  F14)
  have G__law_span_is : Fo l.prog w K mg base (caF a_Node a_Number a_Unknown a_Plus a_Minus a_Times a_Power) 2 "_law_span_is" f__law_span_is := fo_of F15 (PySem.W.mg_of X G a15) b15 (ok__law_span_is T G__law_whole F15)
  have G__law_parts_are : Fo l.prog w K mg base (caF a_Node a_Number a_Unknown a_Plus a_Minus a_Times a_Power) 3 "_law_parts_are" f__law_parts_are := fo_of F16 (PySem.W.mg_of X G a16) b16 (ok__law_parts_are T G__law_whole G__law_span_is F16)
  have O_Number_back : MFo l.prog w K mg base (caF a_Node a_Number a_Unknown a_Plus a_Minus a_Times a_Power) 1 "Number" "back" f_Node_back := ⟨⟨_, _, _, _, Nat.le_refl _, ⟨b_Number_back, j17, k17⟩, b17, ok_Node_back T  F17⟩, T.cl_Number⟩
  have O_Unknown_back : MFo l.prog w K mg base (caF a_Node a_Number a_Unknown a_Plus a_Minus a_Times a_Power) 1 "Unknown" "back" f_Node_back := ⟨⟨_, _, _, _, Nat.le_refl _, ⟨b_Unknown_back, j17, k17⟩, b17, ok_Node_back T  F17⟩, T.cl_Unknown⟩
  have G_common : Fo l.prog w K mg base (caF a_Node a_Number a_Unknown a_Plus a_Minus a_Times a_Power) 1 "common" f_common := fo_of F18 (PySem.W.mg_of X G a18) b18 (ok_common T  F18)
  have G_take_spans : Fo l.prog w K mg base (caF a_Node a_Number a_Unknown a_Plus a_Minus a_Times a_Power) 1 "take_spans" f_take_spans := fo_of F19 (PySem.W.mg_of X G a19) b19 (ok_take_spans T  F19)
  have O_Plus_first_back : MFo l.prog w K mg base (caF a_Node a_Number a_Unknown a_Plus a_Minus a_Times a_Power) 2 "Plus" "first_back" f_Plus_first_back := ⟨⟨_, _, _, _, Nat.le_refl _, ⟨a20, j20, k20⟩, b20, ok_Plus_first_back T G_common G_take_spans F20⟩, T.cl_Plus⟩
  have G_add_spans : Fo l.prog w K mg base (caF a_Node a_Number a_Unknown a_Plus a_Minus a_Times a_Power) 1 "add_spans" f_add_spans := fo_of F21 (PySem.W.mg_of X G a21) b21 (ok_add_spans T  F21)
  have O_Minus_first_back : MFo l.prog w K mg base (caF a_Node a_Number a_Unknown a_Plus a_Minus a_Times a_Power) 2 "Minus" "first_back" f_Minus_first_back := ⟨⟨_, _, _, _, Nat.le_refl _, ⟨a22, j22, k22⟩, b22, ok_Minus_first_back T G_common G_add_spans F22⟩, T.cl_Minus⟩
  have O_Plus_second_back : MFo l.prog w K mg base (caF a_Node a_Number a_Unknown a_Plus a_Minus a_Times a_Power) 2 "Plus" "second_back" f_Plus_second_back := ⟨⟨_, _, _, _, Nat.le_refl _, ⟨a23, j23, k23⟩, b23, ok_Plus_second_back T G_common G_take_spans F23⟩, T.cl_Plus⟩
  have O_Minus_second_back : MFo l.prog w K mg base (caF a_Node a_Number a_Unknown a_Plus a_Minus a_Times a_Power) 2 "Minus" "second_back" f_Minus_second_back := ⟨⟨_, _, _, _, Nat.le_refl _, ⟨a24, j24, k24⟩, b24, ok_Minus_second_back T G_common G_take_spans F24⟩, T.cl_Minus⟩
  have O_Plus_pair_back : MFo l.prog w K mg base (caF a_Node a_Number a_Unknown a_Plus a_Minus a_Times a_Power) 3 "Plus" "pair_back" f_Node_pair_back := ⟨⟨_, _, _, _, Nat.le_refl _, ⟨b_Plus_pair_back, j25, k25⟩, b25, ok_Node_pair_back T (⟨O_Plus_first_back.mono (by decide), O_Minus_first_back.mono (by decide), trivial⟩) (⟨O_Plus_second_back.mono (by decide), O_Minus_second_back.mono (by decide), trivial⟩) F25⟩, T.cl_Plus⟩
  have O_Minus_pair_back : MFo l.prog w K mg base (caF a_Node a_Number a_Unknown a_Plus a_Minus a_Times a_Power) 3 "Minus" "pair_back" f_Node_pair_back := ⟨⟨_, _, _, _, Nat.le_refl _, ⟨b_Minus_pair_back, j25, k25⟩, b25, ok_Node_pair_back T (⟨O_Plus_first_back.mono (by decide), O_Minus_first_back.mono (by decide), trivial⟩) (⟨O_Plus_second_back.mono (by decide), O_Minus_second_back.mono (by decide), trivial⟩) F25⟩, T.cl_Minus⟩
  have O_Plus_back : MFo l.prog w K mg base (caF a_Node a_Number a_Unknown a_Plus a_Minus a_Times a_Power) 4 "Plus" "back" f_Plus_back := ⟨⟨_, _, _, _, Nat.le_refl _, ⟨a26, j26, k26⟩, b26, ok_Plus_back T (⟨O_Plus_pair_back.mono (by decide), O_Minus_pair_back.mono (by decide), trivial⟩) F26⟩, T.cl_Plus⟩
  have O_Minus_back : MFo l.prog w K mg base (caF a_Node a_Number a_Unknown a_Plus a_Minus a_Times a_Power) 4 "Minus" "back" f_Minus_back := ⟨⟨_, _, _, _, Nat.le_refl _, ⟨a27, j27, k27⟩, b27, ok_Minus_back T (⟨O_Plus_pair_back.mono (by decide), O_Minus_pair_back.mono (by decide), trivial⟩) F27⟩, T.cl_Minus⟩
  exact (ok_law T G__law_grid G__law_cell G__law_span G__law_node G__law_here G__law_made G__law_back_sum G__law_parts_are (⟨O_Number_back.mono (by decide), O_Unknown_back.mono (by decide), O_Plus_back.mono (by decide), O_Minus_back.mono (by decide), trivial⟩) F28).imp fun vs H Q E hs => sp_law law_true vs H Q E hs
end
end Lw
open PySem PySem.W PyProof.Rows
set_option maxHeartbeats 0 in
theorem PySem.Challenge.cw_boxnarrow_k31_back_of_sums_holds : PySem.Challenge.rw_boxnarrow_k31_back_of_sums.Holds := by
  w_on; o_law; k_head; (case hw => w_witness2)
  k_fill
  refine L2.walk_of (l := PySem.Challenge.rw_boxnarrow_k31_back_of_sums) (n := 63) (k := 5) (x := "_law_script") (CX := fun w => L2.CX PySem.Challenge.rw_boxnarrow_k31_back_of_sums.prog w) (sp := fun w => Lw.spL _) rfl (by decide) rfl ⟨rfl, by decide, by decide⟩ (fun w h Y => PySem.W.kIn_of Y) ?F (fun _ H a ns hl _ hS => ⟨a, ns, rfl, hl, hS, fun _ => rfl⟩) (fun _ _ _ _ _ h => Lw.cx_none h)
  case F =>
    intro w mg fa h KX G hmg
    refine' Lw.all_mk KX G hmg ?a0 ?l0 ?c0 ?k0 ?a1 ?l1 ?c1 ?k1 ?a2 ?l2 ?c2 ?k2 ?a3 ?l3 ?c3 ?k3 ?a4 ?l4 ?c4 ?k4 ?a5 ?l5 ?c5 ?k5 ?a6 ?l6 ?c6 ?k6 ?a7 ?l7 ?c7 ?k7 ?a8 ?l8 ?c8 ?k8 ?a9 ?l9 ?c9 ?k9 ?a10 ?l10 ?c10 ?k10 ?a11 ?l11 ?c11 ?k11 ?a12 ?l12 ?c12 ?k12 ?a13 ?l13 ?c13 ?k13 ?a14 ?l14 ?c14 ?k14 ?a15 ?l15 ?c15 ?k15 ?a16 ?l16 ?c16 ?k16 ?a17 ?l17 ?c17 ?k17 ?a18 ?l18 ?c18 ?k18 ?a19 ?l19 ?c19 ?k19 ?a20 ?l20 ?c20 ?k20 ?a21 ?l21 ?c21 ?k21 ?a22 ?l22 ?c22 ?k22 ?a23 ?l23 ?c23 ?k23 ?a24 ?l24 ?c24 ?k24 ?a25 ?l25 ?c25 ?k25 ?a26 ?l26 ?c26 ?k26 ?a27 ?l27 ?c27 ?k27 ?a28 ?l28 ?c28 ?k28 ?j17 ?j20 ?j22 ?j23 ?j24 ?j25 ?j26 ?j27 ?ai0 ?li0 ?ci0 ?ki0 ?ji0 ?mi0 ?kci0 ?ai1 ?li1 ?ci1 ?ki1 ?ji1 ?mi1 ?kci1 ?ai2 ?li2 ?ci2 ?ki2 ?ji2 ?mi2 ?kci2 ?ai3 ?li3 ?ci3 ?ki3 ?ji3 ?mi3 ?kci3 ?ai4 ?li4 ?ci4 ?ki4 ?ji4 ?mi4 ?kci4 ?ai5 ?li5 ?ci5 ?ki5 ?ji5 ?mi5 ?kci5 ?g_Node ?pg_Node ?hd_Node ?po_Node ?sa_Node ?g_Number ?pg_Number ?hd_Number ?po_Number ?sa_Number ?g_Unknown ?pg_Unknown ?hd_Unknown ?po_Unknown ?sa_Unknown ?g_Plus ?pg_Plus ?hd_Plus ?po_Plus ?sa_Plus ?g_Minus ?pg_Minus ?hd_Minus ?po_Minus ?sa_Minus ?g_Times ?pg_Times ?hd_Times ?po_Times ?sa_Times ?g_Power ?pg_Power ?hd_Power ?po_Power ?sa_Power ?na_Minus_one ?na_Minus_other ?na_Number_bottom ?na_Number_top ?na_Plus_one ?na_Plus_other ?na_Power_many ?na_Power_one ?na_Times_one ?na_Times_other ?na_Unknown_place ?b_Plus_pair_back ?b_Minus_pair_back ?b_Number_back ?b_Unknown_back ?z_abs_ ?z_bool_ ?z_int_ ?z_isinstance ?z_len_ ?z_list_ ?z_max_ ?z_min_ ?z_range ?z_tuple_
    (case g_Node => k_is); (case g_Number => k_is); (case g_Unknown => k_is); (case g_Plus => k_is); (case g_Minus => k_is); (case g_Times => k_is); (case g_Power => k_is); (case a0 => k_is); (case l0 => k_is); (case c0 => k_is); (case k0 => k_is); (case a1 => k_is); (case l1 => k_is); (case c1 => k_is); (case k1 => k_is); (case a2 => k_is); (case l2 => k_is); (case c2 => k_is); (case k2 => k_is); (case a3 => k_is); (case l3 => k_is); (case c3 => k_is); (case k3 => k_is); (case a4 => k_is); (case l4 => k_is); (case c4 => k_is); (case k4 => k_is); (case a5 => k_is); (case l5 => k_is); (case c5 => k_is); (case k5 => k_is); (case a6 => k_is); (case l6 => k_is); (case c6 => k_is); (case k6 => k_is); (case a7 => k_is); (case l7 => k_is); (case c7 => k_is); (case k7 => k_is); (case a8 => k_is); (case l8 => k_is); (case c8 => k_is); (case k8 => k_is); (case a9 => k_is); (case l9 => k_is); (case c9 => k_is); (case k9 => k_is); (case a10 => k_is); (case l10 => k_is); (case c10 => k_is); (case k10 => k_is); (case a11 => k_is); (case l11 => k_is); (case c11 => k_is); (case k11 => k_is); (case a12 => k_is); (case l12 => k_is); (case c12 => k_is); (case k12 => k_is); (case a13 => k_is); (case l13 => k_is); (case c13 => k_is); (case k13 => k_is); (case a14 => k_is); (case l14 => k_is); (case c14 => k_is); (case k14 => k_is); (case a15 => k_is); (case l15 => k_is); (case c15 => k_is); (case k15 => k_is); (case a16 => k_is); (case l16 => k_is); (case c16 => k_is); (case k16 => k_is); (case a17 => k_is); (case l17 => k_is); (case c17 => k_is); (case k17 => k_is); (case a18 => k_is); (case l18 => k_is); (case c18 => k_is); (case k18 => k_is); (case a19 => k_is); (case l19 => k_is); (case c19 => k_is); (case k19 => k_is); (case a20 => k_is); (case l20 => k_is); (case c20 => k_is); (case k20 => k_is); (case a21 => k_is); (case l21 => k_is); (case c21 => k_is); (case k21 => k_is); (case a22 => k_is); (case l22 => k_is); (case c22 => k_is); (case k22 => k_is); (case a23 => k_is); (case l23 => k_is); (case c23 => k_is); (case k23 => k_is); (case a24 => k_is); (case l24 => k_is); (case c24 => k_is); (case k24 => k_is); (case a25 => k_is); (case l25 => k_is); (case c25 => k_is); (case k25 => k_is); (case a26 => k_is); (case l26 => k_is); (case c26 => k_is); (case k26 => k_is); (case a27 => k_is); (case l27 => k_is); (case c27 => k_is); (case k27 => k_is); (case a28 => k_is); (case l28 => k_is); (case c28 => k_is); (case k28 => k_is); (case j17 => k_is); (case j20 => k_is); (case j22 => k_is); (case j23 => k_is); (case j24 => k_is); (case j25 => k_is); (case j26 => k_is); (case j27 => k_is); (case ai0 => k_is); (case li0 => k_is); (case ci0 => k_is); (case ki0 => k_is); (case ji0 => k_is); (case mi0 => k_is); (case kci0 => k_is); (case ai1 => k_is); (case li1 => k_is); (case ci1 => k_is); (case ki1 => k_is); (case ji1 => k_is); (case mi1 => k_is); (case kci1 => k_is); (case ai2 => k_is); (case li2 => k_is); (case ci2 => k_is); (case ki2 => k_is); (case ji2 => k_is); (case mi2 => k_is); (case kci2 => k_is); (case ai3 => k_is); (case li3 => k_is); (case ci3 => k_is); (case ki3 => k_is); (case ji3 => k_is); (case mi3 => k_is); (case kci3 => k_is); (case ai4 => k_is); (case li4 => k_is); (case ci4 => k_is); (case ki4 => k_is); (case ji4 => k_is); (case mi4 => k_is); (case kci4 => k_is); (case ai5 => k_is); (case li5 => k_is); (case ci5 => k_is); (case ki5 => k_is); (case ji5 => k_is); (case mi5 => k_is); (case kci5 => k_is); (case pg_Node => k_is); (case hd_Node => k_is); (case po_Node => k_is); (case sa_Node => k_is); (case pg_Number => k_is); (case hd_Number => k_is); (case po_Number => k_is); (case sa_Number => k_is); (case pg_Unknown => k_is); (case hd_Unknown => k_is); (case po_Unknown => k_is); (case sa_Unknown => k_is); (case pg_Plus => k_is); (case hd_Plus => k_is); (case po_Plus => k_is); (case sa_Plus => k_is); (case pg_Minus => k_is); (case hd_Minus => k_is); (case po_Minus => k_is); (case sa_Minus => k_is); (case pg_Times => k_is); (case hd_Times => k_is); (case po_Times => k_is); (case sa_Times => k_is); (case pg_Power => k_is); (case hd_Power => k_is); (case po_Power => k_is); (case sa_Power => k_is); (case na_Minus_one => k_is); (case na_Minus_other => k_is); (case na_Number_bottom => k_is); (case na_Number_top => k_is); (case na_Plus_one => k_is); (case na_Plus_other => k_is); (case na_Power_many => k_is); (case na_Power_one => k_is); (case na_Times_one => k_is); (case na_Times_other => k_is); (case na_Unknown_place => k_is); (case b_Plus_pair_back => k_is); (case b_Minus_pair_back => k_is); (case b_Number_back => k_is); (case b_Unknown_back => k_is); (case z_abs_ => k_is); (case z_bool_ => k_is); (case z_int_ => k_is); (case z_isinstance => k_is); (case z_len_ => k_is); (case z_list_ => k_is); (case z_max_ => k_is); (case z_min_ => k_is); (case z_range => k_is); (case z_tuple_ => k_is)
